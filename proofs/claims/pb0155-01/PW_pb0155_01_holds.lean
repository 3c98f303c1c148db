import PyProof.Rows.All
import Wide.All
import OpenK.AllK
import Wide.FinOn
import PySem.Challenge.RW_pb0155_01
set_option Elab.async false
section
open PySem PySem.W PyProof.Rows
set_option Elab.async false
namespace Mine
/-- the law's text without the lines that tell a name -/
def told10 : List Stmt → List Stmt
  | _ :: a :: b :: _ :: c :: _ :: d :: e :: _ :: f :: g :: h :: i :: j :: _ => [a, b, c, d, e, f, g, h, i, j]
  | _ => []
def lawView : Program := { PySem.Challenge.pw_pb0155_01 with main := { PySem.Challenge.pw_pb0155_01.main with body := told10 PySem.Challenge.pw_pb0155_01.main.body } }
def viewOf (p : Program) : Program := { p with main := { p.main with body := told10 p.main.body } }
theorem left_boot {p p' : Program} {loose : List Str} {Xt : Program → Shared → Bool} {α : Type} {Yf : Shared → α} {Ya : World → α} {N : Nat} {g0 : Bool}
    (T : String → Option Builtin) (R : (String → Option Builtin) → Program → World → Nat → Option Value → Nat → Shared → Thread → Option Shared)
    {O : Program → List Str → List Str → (Shared → Bool) → Bool → Shared → _}
    (hp : p = p') (hT : treeTable = T) (hR : topRun = R) (hO : openSeen = O)
    (e : opening p = plainProg p.main.scope.names) (hN : Nat.ble 600 N = true) (f : ∀ s, fenceModules? p s = some s)
    (hb : ∀ w : World, (boot_heap w.params).isNs mainGlobals = true)
    (h : ∀ (w : World) (os : OsState), (R T p' w (boot_heap w.params).objs.size ((boot_heap w.params).nsMap mainGlobals (Str.ofString "__annotations__")) N ⟨boot_heap w.params, #[], boot_drawn, boot_toks, os⟩ (topStub p')).map
        (fun s => (staticsOk (importedModules p'.main.body) (boot_heap w.params) s.heap && namesBound p' s.heap && gensDone s && laidKept (boot_heap w.params) s.heap,
          O (viewOf p') loose (importedModules p'.main.body) (Xt (viewOf p')) g0 s, Yf s)) = some (true, openGood (viewOf p') loose, Ya w)) :
    LeftO p (viewOf p) loose (Xt (viewOf p)) Yf Ya N g0 := by
  subst hp hT hR hO
  intro w
  obtain ⟨s, hs, hv⟩ := Option.map_eq_some_iff.mp (boot_open e hN f w)
  have hb' := hb w
  have h' := h w
  generalize boot_heap w.params = H at hv hb' h'
  generalize boot_drawn = dr at hv h'
  generalize boot_toks = tk at hv h'
  obtain ⟨_, gs, _, _, os⟩ := s
  cases hv
  obtain ⟨s₁, h1, h2⟩ := Option.map_eq_some_iff.mp (h' os)
  simp only [Prod.mk.injEq] at h2
  unfold openEnds topFrom
  rw [hs]
  simp [hb', h1, h2.1, h2.2.1, h2.2.2]
set_option hygiene false in
local macro_rules | `(tactic| o_head $H) => `(tactic| (
  refine holds_open (q := Mine.lawView) (loose := [Str.ofString "_law_selectors", Str.ofString "_law_codes"])
    (Xt := fun s => xlAt Mine.lawView [] s && recOk (RowW.records (OpenRow.toRowW (OpenLaw.row PySem.Challenge.rw_pb0155_01))) s) (XP := XL Mine.lawView [])
    (Yf := Hook.obs $H) (Ya := Hook.val $H) (YP := Hook.says $H) (N := 1860) ?hl (Hook.of $H) (Hook.keeps $H) (fun s e => xl_of s (Bool.and_eq_true_iff.mp e).1) XL.keeps (by rfl) (by rfl) (by rfl)
    (fun s e => recFacts_of (Bool.and_eq_true_iff.mp e).2) (by rfl) (by first | assumption | decide +kernel) (by decide +kernel) ⟨rfl, rfl, rfl, rfl, rfl, by decide +kernel⟩ ?hw ?hc
  case hl => exact left_boot (Xt := fun q s => xlAt q [] s && recOk (RowW.records (OpenRow.toRowW (OpenLaw.row PySem.Challenge.rw_pb0155_01))) s) _ _ PySem.W.Fast.te10839200009122769493 PySem.W.Fast.te14364793385576792824 PySem.W.Fast.te14082659384304107361 PySem.W.Fast.te4187177175401517315 (by kernel_rfl) (by rfl) (fun _ => by kernel_rfl) (fun _ => by kernel_rfl) (fun _ _ => by kernel_rfl)))
set_option maxRecDepth 100000 in
set_option maxHeartbeats 8000000 in
open_top hd for PySem.Challenge.rw_pb0155_01
end Mine

end
theorem Mine.off_T0 : True := by
  w_top off
  trivial
section
open PySem PySem.Calls PySem.W PyProof.Rows
set_option Elab.async false
set_option maxRecDepth 100000
namespace Mine

theorem byC {P : Prop} (h : (P → False) → False) : P := Classical.byContradiction h
theorem letA {M : Model} {A : Around} {α : Type} {t : Sem α} {Q : α → Shared → Prop} {E : Value → Shared → Prop} {s : Shared} (h : let B := A; B.units = A.units → B.depth = A.depth → wpAny M B t Q E s) : wpAny M A t Q E s := h rfl rfl
/-- the heap only grows -/
abbrev Grow (h h' : Heap) : Prop := ∀ b o, h.get? b = some o → h'.get? b = some o
/-- what is known of some addresses -/
abbrev Kn := Addr → Obj → Prop
abbrev kn (h : Heap) : Kn := fun a o => h.get? a = some o
abbrev Kn.le (κ κ' : Kn) : Prop := ∀ a o, κ a o → κ' a o
def Kn.add (κ : Kn) (tl : List (Addr × Obj)) : Kn := fun a o => κ a o ∨ (a, o) ∈ tl
theorem Kn.le_add (κ : Kn) (tl : List (Addr × Obj)) : Kn.le κ (κ.add tl) := fun _ _ h => .inl h
theorem Kn.add_le {κ κ' : Kn} {tl : List (Addr × Obj)} (h : Kn.le κ κ') (ht : ∀ p ∈ tl, κ' p.1 p.2) : Kn.le (κ.add tl) κ' := fun a o x => x.elim (h a o) (fun m => ht (a, o) m)
theorem Kn.add_mono {κ κ' : Kn} {tl tl' : List (Addr × Obj)} (h : Kn.le κ κ') (ht : ∀ p ∈ tl, p ∈ tl') : Kn.le (κ.add tl) (κ'.add tl') := fun a o x => x.elim (fun q => .inl (h a o q)) (fun m => .inr (ht _ m))
theorem Kn.add_add (κ : Kn) (t u : List (Addr × Obj)) : Kn.le ((κ.add t).add u) (κ.add (t ++ u)) := fun a o x => x.elim (fun q => q.elim .inl fun m => .inr (List.mem_append.mpr (.inl m))) fun m => .inr (List.mem_append.mpr (.inr m))

/-- two lists item by item -/
inductive R2 {α β : Type} (P : α → β → Prop) : List α → List β → Prop
  | nil : R2 P [] []
  | cons {a : α} {b : β} {as : List α} {bs : List β} : P a b → R2 P as bs → R2 P (a :: as) (b :: bs)
theorem R2.length {α β : Type} {P : α → β → Prop} {as : List α} {bs : List β} (h : R2 P as bs) : as.length = bs.length := by
  induction h with
  | nil => rfl
  | cons _ _ ih => simp [ih]
theorem R2.imp {α β : Type} {P Q : α → β → Prop} (f : ∀ a b, P a b → Q a b) {as : List α} {bs : List β} (h : R2 P as bs) : R2 Q as bs := by
  induction h with
  | nil => exact .nil
  | cons h _ ih => exact .cons (f _ _ h) ih
theorem R2.append {α β : Type} {P : α → β → Prop} {as as' : List α} {bs bs' : List β} (h : R2 P as bs) (k : R2 P as' bs') : R2 P (as ++ as') (bs ++ bs') := by
  induction h with
  | nil => exact k
  | cons h _ ih => exact .cons h ih
theorem R2.get {α β : Type} {P : α → β → Prop} {as : List α} {bs : List β} (h : R2 P as bs) {i : Nat} {a : α} (e : as[i]? = some a) : ∃ b, bs[i]? = some b ∧ P a b := by
  induction h generalizing i with
  | nil => cases e
  | cons h _ ih =>
    cases i with
    | zero => simp at e; subst e; exact ⟨_, rfl, h⟩
    | succ i => simp at e; simpa using ih e
theorem R2.mem {α β : Type} {P : α → β → Prop} {as : List α} {bs : List β} (h : R2 P as bs) {a : α} (m : a ∈ as) : ∃ b ∈ bs, P a b := by
  induction h with
  | nil => cases m
  | cons h _ ih =>
    rcases List.mem_cons.mp m with rfl | m
    · exact ⟨_, List.mem_cons_self, h⟩
    · obtain ⟨b, hb, p⟩ := ih m; exact ⟨b, List.mem_cons_of_mem _ hb, p⟩
theorem R2.keys {κ α β : Type} {P : α → β → Prop} {as : List (κ × α)} {bs : List (κ × β)} (h : R2 (fun a b => a.1 = b.1 ∧ P a.2 b.2) as bs) : as.map (·.1) = bs.map (·.1) := by
  induction h with
  | nil => rfl
  | cons h _ ih => simp [h.1, ih]

/-- the first value under a key -/
def lk {κ β : Type} [DecidableEq κ] (l : List (κ × β)) (k : κ) : Option β := (l.find? fun x => decide (x.1 = k)).map (·.2)
theorem R2.look {κ β : Type} [DecidableEq κ] {P : Value → β → Prop} {kvs : List (κ × Value)} {D : List (κ × β)} (h : R2 (fun a b => a.1 = b.1 ∧ P a.2 b.2) kvs D) (k : κ) :
    (valueAt kvs k = none ∧ lk D k = none) ∨ ∃ v b, valueAt kvs k = some v ∧ lk D k = some b ∧ P v b := by
  induction h with
  | nil => exact .inl ⟨rfl, rfl⟩
  | @cons a b as bs h _ ih =>
    unfold valueAt lk at *
    by_cases hk : a.1 = k
    · have hk' : b.1 = k := h.1 ▸ hk
      exact .inr ⟨a.2, b.2, by simp [hk], by simp [hk'], h.2⟩
    · have hk' : ¬ b.1 = k := h.1 ▸ hk
      simpa [List.find?_cons, hk, hk'] using ih
/-- a pair as the list of its items -/
def kp (q : Int × Int) : List Int := [q.1, q.2]
theorem kp_inj {a b : Int × Int} (h : kp a = kp b) : a = b := by
  simp only [kp, List.cons.injEq, and_true] at h
  exact Prod.ext h.1 h.2
theorem R2.lookH {β : Type} {P : Value → β → Prop} {xs : List (List Int × Addr × Value)} {D : List ((Int × Int) × β)} (h : R2 (fun a b => a.1 = kp b.1 ∧ P a.2.2 b.2) xs D) (k : Int × Int) :
    (atKey xs (kp k) = none ∧ lk D k = none) ∨ ∃ a v b, atKey xs (kp k) = some (a, v) ∧ lk D k = some b ∧ P v b := by
  induction h with
  | nil => exact .inl ⟨rfl, rfl⟩
  | @cons a b as bs h _ ih =>
    unfold atKey lk at *
    by_cases hk : b.1 = k
    · have hk' : a.1 = kp k := hk ▸ h.1
      exact .inr ⟨a.2.1, a.2.2, b.2, by simp [hk'], by simp [hk], h.2⟩
    · have hk' : ¬ a.1 = kp k := fun e => hk (kp_inj (h.1.symm.trans e))
      simpa [List.find?_cons, hk, hk'] using ih

def IntV (v : Value) (i : Int) : Prop := ∃ t, v = .int i t
section
variable (prog : Program) (w : World)
def TupK (κ : Kn) (a : Addr) (vs : List Value) : Prop := ∃ o n, κ a o ∧ o.cls = .type "tuple" ∧ o.data = .seq vs.toArray n
def RowK (κ : Kn) (a : Addr) (row : List Int) : Prop := ∃ vs, TupK κ a vs ∧ IntsAre vs row
def RowV (κ : Kn) (v : Value) (row : List Int) : Prop := ∃ r, v = .ref r ∧ RowK κ r row
def DictK (κ : Kn) (d : Addr) (kvs : List (Int × Value)) : Prop := ∃ o, κ d o ∧ o.IsDictOf (intKind prog w) kvs
def KeyK (κ : Kn) (ks : List Int) (a : Addr) : Prop := ∃ o, κ a o ∧ TupKeyObj (intKind prog w) ks o
inductive DictHK (κ : Kn) (d : Addr) (xs : List (List Int × Addr × Value)) : Prop where
  | mk (o : Obj) (es : Array DictEntry) (ep : Nat) (h0 : κ d o) (h1 : o.ExactDict) (h2 : o.data = .dict es ep) (h3 : es.toList = xs.map (entryOfKey (tupleKind (intKind prog w)))) (h4 : ∀ x ∈ xs, KeyK prog w κ x.1 x.2.1) (h5 : (xs.map (·.1)).Nodup) : DictHK κ d xs
/-- a dict of ints by ints -/
def IntsK (κ : Kn) (d : Addr) (C : List (Int × Int)) : Prop := (d == sysModules) = false ∧ ∃ kvs, DictK prog w κ d kvs ∧ R2 (fun a b => a.1 = b.1 ∧ IntV a.2 b.2) kvs C
/-- a dict of rows by ints -/
def RowsK (κ : Kn) (d : Addr) (D : List (Int × List Int)) : Prop := (d == sysModules) = false ∧ ∃ kvs, DictK prog w κ d kvs ∧ R2 (fun a b => a.1 = b.1 ∧ RowV κ a.2 b.2) kvs D
/-- a dict of ints by pairs -/
def OthK (κ : Kn) (d : Addr) (O : List ((Int × Int) × Int)) : Prop := (d == sysModules) = false ∧ ∃ xs, DictHK prog w κ d xs ∧ R2 (fun a b => a.1 = kp b.1 ∧ IntV a.2.2 b.2) xs O
/-- the dict of an object with two attributes -/
abbrev two (n1 n2 : Str) (t1 t2 : Tok) (v1 v2 : Value) (n : Nat) : Obj := dictOf [⟨PyData.keyHash w.params n1, .str n1 t1, v1⟩, ⟨PyData.keyHash w.params n2, .str n2 t2, v2⟩] n
inductive VarsK (κ : Kn) (v : Addr) (D : List (Int × List Int)) (O : List ((Int × Int) × Int)) : Prop where
  | mk (dd oo dx : Addr) (t1 t2 : Tok) (n : Nat) (h0 : κ v (instObj 50 dx)) (h1 : κ dx (two w (Str.ofString "defaults") (Str.ofString "others") t1 t2 (.ref dd) (.ref oo) n)) (h2 : RowsK prog w κ dd D) (h3 : OthK prog w κ oo O) : VarsK κ v D O
inductive CmK (κ : Kn) (c : Addr) (C : List (Int × Int)) (vv : Value) : Prop where
  | mk (cc dx : Addr) (t1 t2 : Tok) (n : Nat) (h0 : κ c (instObj 96 dx)) (h1 : κ dx (two w (Str.ofString "codes") (Str.ofString "variations") t1 t2 (.ref cc) vv n)) (h2 : IntsK prog w κ cc C) : CmK κ c C vv
end
section
variable {prog : Program} {w : World} {κ κ' : Kn}
theorem TupK.mono (le : Kn.le κ κ') {a vs} (h : TupK κ a vs) : TupK κ' a vs := let ⟨o, n, x, r⟩ := h; ⟨o, n, le _ _ x, r⟩
theorem RowK.mono (le : Kn.le κ κ') {a row} (h : RowK κ a row) : RowK κ' a row := let ⟨vs, x, r⟩ := h; ⟨vs, x.mono le, r⟩
theorem DictK.mono (le : Kn.le κ κ') {d kvs} (h : DictK prog w κ d kvs) : DictK prog w κ' d kvs := let ⟨o, x, r⟩ := h; ⟨o, le _ _ x, r⟩
theorem KeyK.mono (le : Kn.le κ κ') {ks a} (h : KeyK prog w κ ks a) : KeyK prog w κ' ks a := let ⟨o, x, r⟩ := h; ⟨o, le _ _ x, r⟩
theorem DictHK.mono (le : Kn.le κ κ') {d xs} (h : DictHK prog w κ d xs) : DictHK prog w κ' d xs := let ⟨o, es, ep, x, a, b, c, k, r⟩ := h; ⟨o, es, ep, le _ _ x, a, b, c, fun y hy => (k y hy).mono le, r⟩
theorem IntsK.mono (le : Kn.le κ κ') {d C} (h : IntsK prog w κ d C) : IntsK prog w κ' d C := let ⟨l, kvs, x, r⟩ := h; ⟨l, kvs, x.mono le, r⟩
theorem RowsK.mono (le : Kn.le κ κ') {d D} (h : RowsK prog w κ d D) : RowsK prog w κ' d D := let ⟨l, kvs, x, r⟩ := h; ⟨l, kvs, x.mono le, r.imp fun _ _ ⟨e, a, e', q⟩ => ⟨e, a, e', q.mono le⟩⟩
theorem OthK.mono (le : Kn.le κ κ') {d O} (h : OthK prog w κ d O) : OthK prog w κ' d O := let ⟨l, xs, x, r⟩ := h; ⟨l, xs, x.mono le, r⟩
theorem VarsK.mono (le : Kn.le κ κ') {v D O} (h : VarsK prog w κ v D O) : VarsK prog w κ' v D O := let ⟨dd, oo, dx, t1, t2, n, a, b, c, d⟩ := h; ⟨dd, oo, dx, t1, t2, n, le _ _ a, le _ _ b, c.mono le, d.mono le⟩
theorem CmK.mono (le : Kn.le κ κ') {c C vv} (h : CmK prog w κ c C vv) : CmK prog w κ' c C vv := let ⟨cc, dx, t1, t2, n, a, b, d⟩ := h; ⟨cc, dx, t1, t2, n, le _ _ a, le _ _ b, d.mono le⟩
theorem TupK.at {h : Heap} {a vs} (x : TupK (kn h) a vs) : IsTup h a vs.toArray := let ⟨o, n, e, c, d⟩ := x; ⟨o, e, c, n, d⟩
theorem DictK.at {h : Heap} {d kvs} (x : DictK prog w (kn h) d kvs) : h.DictOf (intKind prog w) d kvs := Heap.dictOf_iff.mpr x
theorem KeyK.at {h : Heap} {ks a} (x : KeyK prog w (kn h) ks a) : IsTupleKey (intKind prog w) h ks a := let ⟨o, e, t⟩ := x; t.key e
theorem DictHK.at {h : Heap} {d xs} (x : DictHK prog w (kn h) d xs) : h.DictOfH (tupleKind (intKind prog w)) d xs := let ⟨o, es, ep, e, a, b, c, k, r⟩ := x; ⟨o, es, ep, e, a, b, c, fun y hy => (k y hy).at, r⟩
end

section
variable {prog : Program} {w : World} {A : Around} {E : Value → Shared → Prop} {s : Shared} {h₀ : Heap} {L : Addr} {m : Str → Option Value} {κ : Kn}
theorem inst_kn {h : Heap} {x C dx : Addr} {od : Obj} {sl : Array (Option Value)} (le : Kn.le κ (kn h)) (h1 : κ x ⟨.ref C, some dx, .plain, sl⟩) (h2 : κ dx od) :
    PySem.W.InstAt h x ⟨.ref C, some dx, .plain, sl⟩ C (some od) := ⟨le _ _ h1, rfl, rfl, le _ _ h2⟩
theorem le_fr {h : Heap} (hκ : Kn.le κ (kn h₀)) (F : Fr h₀ L h m) : Kn.le κ (kn h) := fun a o x => F.keep a o (hκ a o x)
theorem getm_int {d : Addr} {kvs : List (Int × Value)} {pl : Sem Bool} {Q : Value × List Value → Shared → Prop} (hd : DictK prog w κ d kvs) (le : Kn.le κ (kn s.heap)) (h : Q (.builtin "dict.get", [.ref d]) s) :
    wpAny (model prog w) A (getMethod (.ref d) "get" pl) Q E s :=
  have hD := (hd.mono le).at
  getMethod_builtin hD.typeIs PySem.F.plainAttrs_dict PySem.F.slot_dict_get PySem.F.type_dict_get hD.mapOf.noDict h
theorem get2_int {d : Addr} {kvs : List (Int × Value)} {k : Int} {t : Tok} {dflt : Value} {Q : Value → Shared → Prop} (hd : DictK prog w κ d kvs) (le : Kn.le κ (kn s.heap)) (lo : (d == sysModules) = false)
    (h : Q ((valueAt kvs k).getD dflt) { s with toks := s.toks + 1 }) :
    wpAny (model prog w) A (call (.builtin "dict.get") [.ref d, .int k t, dflt]) Q E s :=
  have hD := (hd.mono le).at
  call_meetsIn PySem.F.slot_dict_get hD.typeIs PySem.F.entry_dict_get (PySem.F.args_dict_get_3 _ _ _) (meets_dict_get_default (intKind prog w) d (intKind_is _ _ _ _) lo dflt) ⟨_, hD.mapOf, h⟩
theorem item_int {value slice : PySem.Expr} {d : Addr} {kvs : List (Int × Value)} {k : Int} {t : Tok} {v : Value} {Q : Value → Shared → Prop} (hd : DictK prog w κ d kvs) (le : Kn.le κ (kn s.heap)) (hl : valueAt kvs k = some v) (h : Q v { s with toks := s.toks + 1 })
    (hs : subscripted slice false (.ref d) (.int k t) = operate [.ref d, .int k t] (getItem (.ref d) (.int k t)) := by with_unfolding_all rfl) (hg : ∀ r, letTemporaryGo value (.ref d) r = pure () := by intro _; with_unfolding_all rfl) :
    wpAny (model prog w) A (subscriptTail value slice (.ref d) (.int k t)) Q E s :=
  have hD := (hd.mono le).at
  subscriptTail_builtin hD.typeIs slot_dict_getitem.lookup (wpAny_getItem_of (intKind_is _ _ _ _) hD.mapOf hl h) hs hg
theorem in_int {d : Addr} {kvs : List (Int × Value)} {k : Int} {t : Tok} {Q : Value → Shared → Prop} (hd : DictK prog w κ d kvs) (le : Kn.le κ (kn s.heap)) (lo : (d == sysModules) = false)
    (h : Q (.bool (valueAt kvs k).isSome) { s with toks := s.toks + 1 }) :
    wpAny (model prog w) A (compareOp .In (.int k t) (.ref d)) Q E s := wpAny_in_of (intKind_is _ _ _ _) lo (hd.mono le).at.mapOf h
theorem notin_int {d : Addr} {kvs : List (Int × Value)} {k : Int} {t : Tok} {Q : Value → Shared → Prop} (hd : DictK prog w κ d kvs) (le : Kn.le κ (kn s.heap)) (lo : (d == sysModules) = false)
    (h : Q (.bool (!(valueAt kvs k).isSome)) { s with toks := s.toks + 1 }) :
    wpAny (model prog w) A (compareOp .NotIn (.int k t) (.ref d)) Q E s := wpAny_notIn_of (intKind_is _ _ _ _) lo (hd.mono le).at.mapOf h
theorem getm_tup {d : Addr} {xs : List (List Int × Addr × Value)} {pl : Sem Bool} {Q : Value × List Value → Shared → Prop} (hd : DictHK prog w κ d xs) (le : Kn.le κ (kn s.heap)) (h : Q (.builtin "dict.get", [.ref d]) s) :
    wpAny (model prog w) A (getMethod (.ref d) "get" pl) Q E s :=
  have hD := (hd.mono le).at
  getMethod_builtin hD.typeIs PySem.F.plainAttrs_dict PySem.F.slot_dict_get PySem.F.type_dict_get (dictOfH_noDict hD) h
theorem get2_tup {d a : Addr} {xs : List (List Int × Addr × Value)} {ks : List Int} {dflt : Value} {Q : Value → Shared → Prop} (hu : A.units + 1 < cLine) (hd : DictHK prog w κ d xs) (le : Kn.le κ (kn s.heap)) (lo : (d == sysModules) = false)
    (hk : IsTupleKey (intKind prog w) s.heap ks a)
    (h : Q (((atKey xs ks).map (·.2)).getD dflt) { s with toks := s.toks + (ks.length + 1) }) :
    wpAny (model prog w) A (call (.builtin "dict.get") [.ref d, .ref a, dflt]) Q E s :=
  have hD := (hd.mono le).at
  call_meetsIn PySem.F.slot_dict_get hD.typeIs PySem.F.entry_dict_get (PySem.F.args_dict_get_3 _ _ _) (meetsH_dict_get_default (tupleKind (intKind prog w)) d a lo dflt) ⟨tupleKind_room_in1 (knd := intKind prog w) hu, ks, xs, hk, hD, h⟩
theorem item_tup {value slice : PySem.Expr} {d a : Addr} {xs : List (List Int × Addr × Value)} {ks : List Int} {q : Addr × Value} {Q : Value → Shared → Prop} (hu : A.units + 1 < cLine) (hd : DictHK prog w κ d xs) (le : Kn.le κ (kn s.heap))
    (hk : IsTupleKey (intKind prog w) s.heap ks a) (hl : atKey xs ks = some q) (h : Q q.2 { s with toks := s.toks + (ks.length + 1) })
    (hs : subscripted slice false (.ref d) (.ref a) = operate [.ref d, .ref a] (getItem (.ref d) (.ref a)) := by with_unfolding_all rfl) (hg : ∀ r, letTemporaryGo value (.ref d) r = pure () := by intro _; with_unfolding_all rfl) :
    wpAny (model prog w) A (subscriptTail value slice (.ref d) (.ref a)) Q E s :=
  have hD := (hd.mono le).at
  subscriptTail_builtin hD.typeIs slot_dict_getitem.lookup (wpAny_getItem_heap (knd := tupleKind (intKind prog w)) (tupleKind_room_in1 (knd := intKind prog w) hu) hk hD hl h) hs hg

theorem key2 {h : Heap} {news : List (Addr × Obj)} {a : Addr} {x y : Int} {t u : Tok} {n : Nat} (N : News h₀ L h news) (hm : (a, ({ cls := .type "tuple", data := .seq #[.int x t, .int y u] n } : Obj)) ∈ news) : IsTupleKey (intKind prog w) h [x, y] a :=
  ⟨_, _, n, N.get hm, rfl, rfl, PySem.ItemsAre.cons (intKind_is _ _ _ _) (PySem.ItemsAre.cons (intKind_is _ _ _ _) PySem.ItemsAre.nil)⟩
/-- what a pure call gives -/
def Pure1 (s : Shared) (Post : Value → Heap → Prop) (r : Value) (s' : Shared) : Prop := Keeps s s' ∧ Post r s'.heap
/-- how a pure call is used in a walk -/
theorem use_pure {M : Model} {t : Sem Value} {news : List (Addr × Obj)} {Post : Value → Heap → Prop} {Q : Value → Shared → Prop} (F : Fr h₀ L s.heap m) (N : News h₀ L s.heap news)
    (spec : wpAny M A t (Pure1 s Post) E s)
    (k : ∀ r h' tk, Fr h₀ L h' m → News h₀ L h' news → Grow s.heap h' → Post r h' → Q r { s with heap := h', toks := tk }) : wpAny M A t Q E s := by
  refine wpAny_mono spec (fun r s' hr => ?_) fun _ _ x => x
  obtain ⟨⟨h', tk, rfl, g⟩, P⟩ := hr
  exact k r h' tk (F.kept g) (N.grown g) g P
end
end Mine
namespace Mine
section
variable {prog : Program} {w : World} {A₀ A : Around} {E : Value → Shared → Prop} {s : Shared} {base h₀ : Heap} {outer : List Env} {L : Addr} {m : Str → Option Value} {env : Env}
  {K : Frag} {p : Program} {loose : List Str} {mean : ExcName → Option Value} {mg mb : Str → Option Value}
  {name qual : Str} {params : Arguments} {body : List Stmt} {scope : Scope} {dV kV doc pm cdv ct oc : Value} {an od : Option Addr} {osl : Array (Option Value)} {f : Addr} {args : Args} {binds : List (Str × Value)}

/-- how a body of a pure def ends -/
def BodyEnd (g : Heap) (L' : Addr) (s : Shared) (Post : Value → Heap → Prop) (v : Value) (s' : Shared) : Prop :=
  ∃ h' tk m', s' = { s with heap := h', toks := tk } ∧ Fr g L' h' m' ∧ Post v h'

/-- a pure def is entered: its base is the caller's whole heap -/
theorem enter_pure {Post : Value → Heap → Prop}
    (B : Below A₀ base outer h₀) (F : Fr h₀ L s.heap m) (X₀ : K.In h₀) (T : Top p loose mean mg mb h₀) (hA : A.frames = some (env :: outer)) (hf : env.frame = some L) (hke : env.scope.kind = .function)
    (ho : K.lookup f = some ⟨oc, od, .func (fnOf name qual params body scope dV kV doc pm an cdv ct), osl⟩) (hcd : codeIn K cdv qual = true) (hroom : A.depth < recursionLimit)
    (hbind : BindsTo s (fnOf name qual params body scope dV kV doc pm an cdv ct) args binds) (hloc : ∀ y ∈ binds, scope.names.lookup y.1 = some .local)
    (h : ∀ L' h₁, Fr s.heap L' h₁ (fun y => binds.reverse.lookup y) → News s.heap L' h₁ [] → Below A base (env :: outer) s.heap → K.In s.heap → Top p loose mean mg mb s.heap →
      wpAny (model prog w) (A.deeper (envOf qual scope L' f cdv)) (execs body (envOf qual scope L' f cdv))
        (fun fl s' => BodyEnd s.heap L' s Post (match fl with | .ret v => v | _ => .none) s') (fun _ _ => False)
        { s with heap := h₁, toks := s.toks + binds.length })
    (hco : scope.isCoroutine = false) (hgen : scope.isGenerator = false) (hk : scope.kind = .function)
    (hcell : ∀ x ∈ scope.names, x.2 ≠ .cell) : wpAny (model prog w) A (call (.ref f) args.pos args.kw) (Pure1 s Post) E s := by
  obtain ⟨FG, BG, st, lv⟩ := groundX (R := fun _ _ => True) B F (News.nil (h := s.heap)) hA hf hke
  refine wpAny_call (codeAny_call_def (fd := fnX name qual params body scope [] dV kV doc pm an cdv ct) (body := body) (binds := binds) hroom ((X₀.keeps F.keep) _ _ ho) rfl (T.nolimit.keeps F.keep) (codeRec_of (X₀.keeps F.keep) hcd) rfl hbind hcell hloc (fun h₁ hns hk₁ => ?_) hco hgen hk)
  refine wpAny_mono (h s.heap.objs.size h₁ ⟨hns, hk₁, Nat.le_refl _⟩ News.nil BG (X₀.keeps F.keep) (T.keeps F.keep)) (fun fl s' hl => ?_) fun _ _ y => y.elim
  obtain ⟨h', tk, m', rfl, F', P⟩ := hl
  exact ⟨⟨_, _, rfl, F'.keep⟩, P⟩

/-- the same where some names of the def are captured -/
theorem enter_cells {Post : Value → Heap → Prop}
    (B : Below A₀ base outer h₀) (F : Fr h₀ L s.heap m) (X₀ : K.In h₀) (T : Top p loose mean mg mb h₀) (hA : A.frames = some (env :: outer)) (hf : env.frame = some L) (hke : env.scope.kind = .function)
    (ho : K.lookup f = some ⟨oc, od, .func (fnOf name qual params body scope dV kV doc pm an cdv ct), osl⟩) (hcd : codeIn K cdv qual = true) (hroom : A.depth < recursionLimit)
    (hbind : BindsTo s (fnOf name qual params body scope dV kV doc pm an cdv ct) args binds)
    (hkind : (binds.all fun y => scope.names.lookup y.1 == some .local || scope.names.lookup y.1 == some .cell) = true)
    (hnd : ((cellsFrom 0 scope.names []).map (·.1)).Nodup)
    (h : ∀ L' h₁ tk cells, Fr s.heap L' h₁ (bindL (envOfC qual scope L' f cdv).kindOf binds fun _ => none) → News s.heap L' h₁ (cells ++ []) →
      CellsAre (bindC (envOfC qual scope L' f cdv).kindOf binds fun _ => none) (cellsFrom (L' + 1) scope.names []) cells → Below A base (env :: outer) s.heap → K.In s.heap → Top p loose mean mg mb s.heap →
      wpAny (model prog w) (A.deeper (envOfC qual scope L' f cdv)) (execs body (envOfC qual scope L' f cdv))
        (fun fl s' => BodyEnd s.heap L' s Post (match fl with | .ret v => v | _ => .none) s') (fun _ _ => False)
        { s with heap := h₁, toks := tk })
    (hco : scope.isCoroutine = false) (hgen : scope.isGenerator = false) (hk : scope.kind = .function) :
    wpAny (model prog w) A (call (.ref f) args.pos args.kw) (Pure1 s Post) E s := by
  obtain ⟨FG, BG, st, lv⟩ := groundX (R := fun _ _ => True) B F (News.nil (h := s.heap)) hA hf hke
  refine wpAny_call (codeAny_call_function hroom ((X₀.keeps F.keep) _ _ ho) rfl hco hgen rfl (codeRec_of (X₀.keeps F.keep) hcd) (hbind _ _ _ _ ?_))
  refine wpAny_newFunctionEnv_cells hk (kindsX hkind _) fun env' he s' x => ?_
  subst he
  refine ⟨(T.nolimit.keeps F.keep).keeps x.toInCall.keep, codeAny_func ?_⟩
  obtain ⟨h₁, tk, rfl, _⟩ := x.done
  have hk₁ := x.toInCall.keep
  obtain ⟨cells, NC, Y⟩ := Cl.news (h₀ := s.heap) (Nat.le_refl _) fun n c hm => ⟨x.cell n c (lookup_of_mem_nodup (cellsFrom_names scope.names 0 (s.heap.objs.size + 1) [] [] rfl ▸ hnd) hm), x.above n c hm⟩
  refine wpAny_mono (h s.heap.objs.size h₁ tk cells ⟨x.toInCall.ns, hk₁, Nat.le_refl _⟩ (by rw [List.append_nil]; exact NC) Y BG (X₀.keeps F.keep) (T.keeps F.keep)) (fun fl s' hl => ?_) fun _ _ y => y.elim
  obtain ⟨h', tk, m', rfl, F', P⟩ := hl
  exact ⟨⟨_, _, rfl, F'.keep⟩, P⟩
end
end Mine

end
section
open PySem PySem.Calls PySem.W PyProof.Rows
set_option Elab.async false
set_option maxRecDepth 100000
set_option linter.unusedVariables false
namespace Mine
theorem fill : PySem.Challenge.rw_pb0155_01 = PySem.Challenge.rw_pb0155_01 ∧ Mine.hd.heap_39 = Mine.hd.heap_39 := by
  k_fill
  exact ⟨rfl, rfl⟩
-- a fact's knowledge holds at the heap at hand
local macro_rules | `(tactic| k_inst) => `(tactic| walk_at "own inst")
-- the end of a way through a pure def
local macro_rules | `(tactic| walk_at $s:str) => `(tactic| k_extra $s)
theorem row1_C1 : True := by
  k_with_none
  w_top off
  (k_with "le" => (exact Fr.keep (by k_asm)))
  (k_with "own inst" => ((refine' inst_kn ?le ?h1 ?h2; (case h1 => with_reducible assumption); (case h2 => with_reducible assumption); (case le => walk_at "le"))))
  (k_with "getMethod ref" => ((k_here; first
      | (refine' getm_int ?d ?le ?_; (case d => with_reducible assumption); (case le => walk_at "le"))
      | (refine' getm_tup ?d ?le ?_; (case d => with_reducible assumption); (case le => walk_at "le")))))
  (k_with "key" => (exact key2 (by k_asm) (by k_mem)))
  (k_with "fin" => (((try dsimp only); (try k_unfold); (try dsimp only); refine ⟨_, _, _, rfl, by k_asm, ?_⟩)))
  (k_with "call builtin:dict.get" => ((k_here; first
      | (refine' get2_int ?d ?le ?lo ?_; (case d => with_reducible assumption); (case lo => with_reducible assumption); (case le => walk_at "le"))
      | (refine' get2_tup ?u ?d ?le ?lo ?k ?_; (case d => with_reducible assumption); (case lo => with_reducible assumption); (case u => ktr_units); (case le => walk_at "le"); (case k => walk_at "key")))))
  (k_with "enter" => ((
      refine' enter_pure (args := ⟨_, []⟩) ?k1 ?k2 ?k3 ?k5 ?kA ?kF ?kK ?k6 ?k7 ?k8 ?k9 ?kB ?_ ?c2 ?c3 ?c4 ?c5
      case kA => exact rfl
      case kF => exact rfl
      case kK => assumption
      case k1 => k_asm
      case k2 => k_asm
      case k3 => k_asm
      case k5 => k_asm
      case k6 => k_is
      case k7 => k_is
      case k8 => ktr_room
      case k9 => exact BindsTo.of_eq rfl
      case c5 => decide
      case kB => exact locs rfl
      case c2 => exact rfl
      case c3 => exact rfl
      case c4 => exact rfl)))
  trivial

def isDef (D : List (Int × List Int)) (sel code : Int) : Bool := match lk D sel with
  | some row => row.any (· == code)
  | none => false
inductive Fd where
  | dflt
  | no
  | own (g : Int)
  deriving DecidableEq
def fnd (D : List (Int × List Int)) (O : List ((Int × Int) × Int)) (sel code : Int) : Fd :=
  if isDef D sel code = true then .dflt else if (lk O (sel, code)).getD 0 = 0 then .no else .own ((lk O (sel, code)).getD 0)
def FdV (v : Value) : Fd → Prop
  | .dflt => ∃ t, v = .str (Str.ofString "default") t
  | .no => v = .none
  | .own g => ∃ t, v = .int g t
theorem FdV.split {v : Value} {f : Fd} (h : FdV v f) : (f = .dflt ∧ ∃ t, v = .str (Str.ofString "default") t) ∨ (f = .no ∧ v = .none) ∨ ∃ g, f = .own g ∧ ∃ t, v = .int g t := by
  cases f with
  | dflt => exact .inl ⟨rfl, h⟩
  | no => exact .inr (.inl ⟨rfl, h⟩)
  | own g => exact .inr (.inr ⟨g, rfl, h⟩)

section
variable {prog : Program} {w : World} {A₀ : Around} {E : Value → Shared → Prop} {s : Shared} {base h₀ : Heap} {L : Addr} {m : Str → Option Value}
  {p : Program} {loose : List Str} {mean : ExcName → Option Value} {mg mb : Str → Option Value} {dp un : Nat} {gd : Option (List Code)} {cn : Str} {cs : Scope} {ca : Addr} {ccd : Value} {cl : List (Str × Addr)} {outer : List Env}

set_option maxHeartbeats 4000000 in
theorem is_default_spec {v : Addr} {D : List (Int × List Int)} {O : List ((Int × Int) × Int)} {sel code : Int} {u1 u2 : Tok}
    (B : Below A₀ base outer h₀) (F : Fr h₀ L s.heap m) (X : (Mine.hd.heap_39 w.params).In h₀) (T : Top p loose mean mg mb h₀) (hk : cs.kind = .function)
    (hd : dp + 5 < recursionLimit) (hu : un + 40 < cLine) (V : VarsK prog w (kn s.heap) v D O) :
    wpAny (model prog w) (ktrTop dp un gd cn cs L ca ccd cl outer) (call (.ref 35) [.ref v, .int sel u1, .int code u2])
      (Pure1 s fun r _ => r = .bool (isDef D sel code)) E s := by
  refine byC fun hG9 => ?_
  obtain ⟨dd, oo, dx, t1, t2, n, h1, h2, ⟨lo, kvs, hD, R⟩, -⟩ := V
  refine hG9 ?_
  clear hG9
  walk_at "enter"
  intro L' h' F' N' B' X' T'
  clear B F X T
  (try dsimp only)
  show wpAny _ _ _ _ _ _
  (try k_fold)
  refine letA ?_
  intro A9 hAu hAd
  simp only [units_deeper, depth_deeper] at hAu hAd
  (try dsimp only [ktrTop] at hAu hAd)
  rcases R.look sel with ⟨e1, e2⟩ | ⟨a, row, e1, e2, r, rfl, vs, tv, iv⟩
  · k_steps
    rw [e1]
    dsimp only [Option.getD]
    k_steps
    refine ⟨_, _, _, rfl, by k_asm, ?_⟩
    simp [isDef, e2]
  · have ht := tv.at
    k_steps
    rw [e1]
    dsimp only [Option.getD]
    k_steps
    refine ⟨_, _, _, rfl, by k_asm, ?_⟩
    simp [isDef, e2]

theorem row2_C1 : True := by
  (k_with "call ref" => ((k_here; (with_reducible show wpAny _ _ (call (Value.ref 35) _) _ _ _); k_dflt (
      refine' use_pure ?F ?N (is_default_spec ?B ?F2 ?X ?T ?k ?d ?u ?V) ?_
      case F => k_asm
      case N => k_asm
      case B => k_asm
      case F2 => k_asm
      case X => k_asm
      case T => k_asm
      case k => first | exact rfl | assumption
      case d => ktr_room
      case u => ktr_units
      case V => exact VarsK.mono (by walk_at "le") (by k_asm)
      intro _ _ _ _ _ _
      rintro rfl
      (try k_sweep)))))
  trivial

set_option maxHeartbeats 4000000 in
theorem find_spec {v : Addr} {D : List (Int × List Int)} {O : List ((Int × Int) × Int)} {sel code : Int} {u1 u2 : Tok}
    (B : Below A₀ base outer h₀) (F : Fr h₀ L s.heap m) (X : (Mine.hd.heap_39 w.params).In h₀) (T : Top p loose mean mg mb h₀) (hk : cs.kind = .function)
    (hd : dp + 10 < recursionLimit) (hu : un + 80 < cLine) (V : VarsK prog w (kn s.heap) v D O) :
    wpAny (model prog w) (ktrTop dp un gd cn cs L ca ccd cl outer) (call (.ref 61) [.ref v, .int sel u1, .int code u2])
      (Pure1 s fun r _ => FdV r (fnd D O sel code)) E s := by
  have V' := V
  refine byC fun hG9 => ?_
  obtain ⟨dd, oo, dx, t1, t2, n, h1, h2, -, ⟨lo, xs, hD, R⟩⟩ := V'
  refine hG9 ?_
  clear hG9
  walk_at "enter"
  intro L' h' F' N' B' X' T'
  clear B F X T
  (try dsimp only)
  show wpAny _ _ _ _ _ _
  (try k_fold)
  refine letA ?_
  intro A9 hAu hAd
  simp only [units_deeper, depth_deeper] at hAu hAd
  (try dsimp only [ktrTop] at hAu hAd)
  k_steps
  · walk_at "fin"
    rw [fnd, if_pos (by assumption)]
    exact ⟨_, rfl⟩
  · rcases R.lookH (sel, code) with ⟨e1, e2⟩ | ⟨a, r, b, e1, e2, t, rfl⟩
    all_goals (rw [kp] at e1; rw [e1]; dsimp only [Option.map, Option.getD]; k_steps)
    · walk_at "fin"
      simp [fnd, *, FdV]
    · walk_at "fin"
      simp [fnd, *, FdV]
    · walk_at "fin"
      simp [fnd, *, FdV]

/-- the glyph of a code -/
def gl (C : List (Int × Int)) (code : Int) : Int := (lk C code).getD 0

set_option maxHeartbeats 4000000 in
theorem glyph_spec {c : Addr} {C : List (Int × Int)} {vv : Value} {code : Int} {u2 : Tok}
    (B : Below A₀ base outer h₀) (F : Fr h₀ L s.heap m) (X : (Mine.hd.heap_39 w.params).In h₀) (T : Top p loose mean mg mb h₀) (hk : cs.kind = .function)
    (hd : dp + 5 < recursionLimit) (hu : un + 40 < cLine) (V : CmK prog w (kn s.heap) c C vv) :
    wpAny (model prog w) (ktrTop dp un gd cn cs L ca ccd cl outer) (call (.ref 81) [.ref c, .int code u2])
      (Pure1 s fun r _ => IntV r (gl C code)) E s := by
  refine byC fun hG9 => ?_
  obtain ⟨cc, dx, t1, t2, n, h1, h2, lo, kvs, hD, R⟩ := V
  refine hG9 ?_
  clear hG9
  walk_at "enter"
  intro L' h' F' N' B' X' T'
  clear B F X T
  (try dsimp only)
  show wpAny _ _ _ _ _ _
  (try k_fold)
  refine letA ?_
  intro A9 hAu hAd
  simp only [units_deeper, depth_deeper] at hAu hAd
  (try dsimp only [ktrTop] at hAu hAd)
  k_steps
  rcases R.look code with ⟨e1, e2⟩ | ⟨a, b, e1, e2, t, rfl⟩
  all_goals (rw [e1]; dsimp only [Option.getD]; k_steps)
  all_goals walk_at "fin"
  · simp [IntV, gl, e2]
  · simp [IntV, gl, e2]

theorem row3_C1 : True := by
  (k_with "call ref" => ((k_here; (with_reducible show wpAny _ _ (call (Value.ref 61) _) _ _ _); k_dflt (
      refine' use_pure ?F ?N (find_spec ?B ?F2 ?X ?T ?k ?d ?u ?V) ?_
      case F => k_asm
      case N => k_asm
      case B => k_asm
      case F2 => k_asm
      case X => k_asm
      case T => k_asm
      case k => first | exact rfl | assumption
      case d => ktr_room
      case u => ktr_units
      case V => exact VarsK.mono (by walk_at "le") (by k_asm)
      intro r h' tk F' N' G' P'
      rcases FdV.split P' with ⟨hf, t', e'⟩ | ⟨hf, e'⟩ | ⟨g, hf, t', e'⟩ <;> subst e' <;> clear P'
      all_goals (try k_sweep)))))
  (k_with "call ref" => ((k_here; (with_reducible show wpAny _ _ (call (Value.ref 81) _) _ _ _); k_dflt (
      refine' use_pure ?F ?N (glyph_spec ?B ?F2 ?X ?T ?k ?d ?u ?V) ?_
      case F => k_asm
      case N => k_asm
      case B => k_asm
      case F2 => k_asm
      case X => k_asm
      case T => k_asm
      case k => first | exact rfl | assumption
      case d => ktr_room
      case u => ktr_units
      case V => exact CmK.mono (by walk_at "le") (by k_asm)
      intro r h' tk F' N' G' P'
      refine byC fun hG9 => ?_
      obtain ⟨t', e'⟩ := P'
      refine hG9 ?_
      clear hG9
      subst e'
      (try k_sweep)))))
  trivial

/-- what glyph_of tells -/
def glOf (C : List (Int × Int)) (D : List (Int × List Int)) (O : List ((Int × Int) × Int)) (code sel : Int) : Int × Bool :=
  match fnd D O sel code with
  | .no => (gl C code, false)
  | .dflt => (gl C code, gl C code != 0)
  | .own g => (g, true)

inductive GlyphP (C : List (Int × Int)) (D : List (Int × List Int)) (O : List ((Int × Int) × Int)) (code sel : Int) (s : Shared) (r : Value) (h' : Heap) : Prop where
  | mk (a : Addr) (t : Tok) (g : Int) (b : Bool)
      (h0 : r = .ref a)
      (h1 : s.heap.get? a = none)
      (h2 : h'.get? a = some { cls := .type "tuple", data := .seq #[.int g t, .bool b] })
      (h3 : glOf C D O code sel = (g, b)) : GlyphP C D O code sel s r h'
set_option maxHeartbeats 4000000 in
theorem glyph_of_spec {c v : Addr} {C : List (Int × Int)} {D : List (Int × List Int)} {O : List ((Int × Int) × Int)} {sel code : Int} {u1 u2 : Tok}
    (B : Below A₀ base outer h₀) (F : Fr h₀ L s.heap m) (X : (Mine.hd.heap_39 w.params).In h₀) (T : Top p loose mean mg mb h₀) (hk : cs.kind = .function)
    (hd : dp + 20 < recursionLimit) (hu : un + 160 < cLine) (V : CmK prog w (kn s.heap) c C (.ref v)) (W : VarsK prog w (kn s.heap) v D O) :
    wpAny (model prog w) (ktrTop dp un gd cn cs L ca ccd cl outer) (call (.ref 88) [.ref c, .int code u2, .int sel u1])
      (Pure1 s fun r h' => GlyphP C D O code sel s r h') E s := by
  have V' := V
  refine byC fun hG9 => ?_
  obtain ⟨cc, dx, t1, t2, n, h1, h2, -⟩ := V'
  refine hG9 ?_
  clear hG9
  walk_at "enter"
  intro L' h' F' N' B' X' T'
  clear B F X T
  (try dsimp only)
  show wpAny _ _ _ _ _ _
  (try k_fold)
  refine letA ?_
  intro A9 hAu hAd
  simp only [units_deeper, depth_deeper] at hAu hAd
  (try dsimp only [ktrTop] at hAu hAd)
  k_steps
  all_goals walk_at "fin"
  all_goals exact ⟨_, _, _, _, rfl, News.fresh (by k_asm) (List.Mem.head _), News.get (by k_asm) (List.Mem.head _), by simp [glOf, *]⟩
end
end Mine


end
section
open PySem PySem.Calls PySem.W PyProof.Rows
set_option Elab.async false
set_option maxRecDepth 100000
set_option linter.unusedVariables false
namespace Mine
/-- the asking tree run by a given order of n things; no answer where something else is asked -/
def krun {α : Type} (n : Nat) (lt : Nat → Nat → Bool) : KasT α → Option α
  | .ret a => some a
  | .ask i j k => if i < n ∧ j < n then krun n lt (k (lt i j)) else none
theorem krun_congr {α : Type} {n : Nat} {lt lt' : Nat → Nat → Bool} (h : ∀ i j, i < n → j < n → lt i j = lt' i j) : ∀ t : KasT α, krun n lt t = krun n lt' t
  | .ret a => rfl
  | .ask i j k => by
    unfold krun
    split
    · rename_i hij
      rw [h i j hij.1 hij.2]
      exact krun_congr h _
    · rfl
theorem krun_wp {α : Type} {n : Nat} {lt : Nat → Nat → Bool} {cmp : Nat → Nat → (Bool → Shared → Prop) → Shared → Prop} {Q : α → Shared → Prop} {s : Shared}
    (hc : ∀ i j C, i < n → j < n → C (lt i j) s → cmp i j C s) : ∀ (t : KasT α) (a : α), krun n lt t = some a → Q a s → t.kasWp cmp Q s
  | .ret a, b, e, h => by cases e; exact h
  | .ask i j k, b, e, h => by
    unfold krun at e
    split at e
    · rename_i hij
      exact hc i j _ hij.1 hij.2 (krun_wp hc _ b e h)
    · cases e
def ins (x : Nat) : List Nat → List (List Nat)
  | [] => [[x]]
  | y :: r => (x :: y :: r) :: (ins x r).map (y :: ·)
def perms : List Nat → List (List Nat)
  | [] => [[]]
  | x :: r => (perms r).flatMap (ins x)
theorem mem_ins (x : Nat) (b : List Nat) : ∀ a : List Nat, a ++ x :: b ∈ ins x (a ++ b)
  | [] => by cases b <;> simp [ins]
  | y :: a => by
    simp only [List.cons_append, ins]
    exact List.mem_cons_of_mem _ (List.mem_map.mpr ⟨_, mem_ins x b a, rfl⟩)
theorem mem_perms : ∀ (l l' : List Nat), l'.Perm l → l' ∈ perms l
  | [], l', h => by rw [h.eq_nil]; simp [perms]
  | x :: r, l', h => by
    have hx : x ∈ l' := h.mem_iff.mpr List.mem_cons_self
    obtain ⟨a, b, rfl⟩ := List.append_of_mem hx
    have h2 : (a ++ b).Perm r := by
      have := (List.perm_middle (a := x) (l₁ := a) (l₂ := b)).symm.trans h
      exact List.Perm.cons_inv this
    exact List.mem_flatMap.mpr ⟨_, mem_perms r _ h2, mem_ins x b a⟩
def good (n : Nat) (r : List Nat) : Bool := match krun n (fun i j => Nat.blt (r.getD i 0) (r.getD j 0)) (kas_sort n) with
  | some p => p.toList.all (fun i => Nat.blt i n) && (p.toList.map (fun i => r.getD i 0) == List.range n)
  | none => false
theorem good2 : (perms (List.range 2)).all (good 2) = true := by decide +kernel
theorem good3 : (perms (List.range 3)).all (good 3) = true := by decide +kernel
theorem good4 : (perms (List.range 4)).all (good 4) = true := by decide +kernel
theorem good5 : (perms (List.range 5)).all (good 5) = true := by decide +kernel
theorem good6 : (perms (List.range 6)).all (good 6) = true := by decide +kernel
theorem good_all {n : Nat} (h2 : 2 ≤ n) (h6 : n ≤ 6) {r : List Nat} (h : r.Perm (List.range n)) : good n r = true := by
  have hm := mem_perms _ _ h
  have : n = 2 ∨ n = 3 ∨ n = 4 ∨ n = 5 ∨ n = 6 := by omega
  rcases this with rfl | rfl | rfl | rfl | rfl
  · exact List.all_eq_true.mp good2 _ hm
  · exact List.all_eq_true.mp good3 _ hm
  · exact List.all_eq_true.mp good4 _ hm
  · exact List.all_eq_true.mp good5 _ hm
  · exact List.all_eq_true.mp good6 _ hm
theorem nodup_le : ∀ (n : Nat) (l : List Nat), l.Nodup → (∀ x ∈ l, x < n) → l.length ≤ n
  | 0, l, _, h => by cases l with
    | nil => exact Nat.le_refl _
    | cons x r => exact absurd (h x List.mem_cons_self) (Nat.not_lt_zero _)
  | n + 1, l, hn, h => by
    have h1 := nodup_le n (l.filter (· ≠ n)) (hn.filter _) (fun x hx => by
      have := List.mem_filter.mp hx
      have h2 := h x this.1
      have h3 : x ≠ n := by simpa using this.2
      omega)
    have h2 : l.length ≤ (l.filter (· ≠ n)).length + 1 := by
      have e := List.length_eq_countP_add_countP (fun x => decide (x ≠ n)) (l := l)
      have e2 : l.countP (fun x => ¬ (decide (x ≠ n)) = true) ≤ 1 := by
        have e3 : l.countP (fun x => ¬ (decide (x ≠ n)) = true) = l.count n := by
          rw [List.count]
          congr 1
          funext x
          by_cases hx : x = n <;> simp [hx]
        rw [e3]
        exact List.nodup_iff_count.mp hn n
      rw [List.countP_eq_length_filter] at e
      omega
    omega
theorem nodup_perm : ∀ (n : Nat) (l : List Nat), l.Nodup → (∀ x ∈ l, x < n) → l.length = n → l.Perm (List.range n)
  | 0, l, _, _, hl => by rw [List.length_eq_zero_iff.mp hl]; exact List.Perm.refl _
  | n + 1, l, hn, h, hl => by
    have hm : n ∈ l := by
      by_cases hm : n ∈ l
      · exact hm
      · have := nodup_le n l hn (fun x hx => by have h1 := h x hx; have h2 : x ≠ n := fun e => hm (e ▸ hx); omega)
        omega
    obtain ⟨a, b, rfl⟩ := List.append_of_mem hm
    have hp : (a ++ n :: b).Perm (n :: (a ++ b)) := List.perm_middle
    have hn' : (n :: (a ++ b)).Nodup := hp.nodup_iff.mp hn
    have hc := List.nodup_cons.mp hn'
    have ih := nodup_perm n (a ++ b) hc.2 (fun x hx => by
      have h1 := h x (hp.mem_iff.mpr (List.mem_cons_of_mem _ hx))
      have h2 : x ≠ n := fun e => hc.1 (e ▸ hx)
      omega) (by have := hp.length_eq; simp at this hl ⊢; omega)
    rw [List.range_succ]
    exact hp.trans ((List.Perm.cons n ih).trans (List.perm_append_singleton n _).symm)

/-- the order of pairs -/
def ltP (a b : Int × Int) : Bool := decide (a.1 < b.1) || (decide (a.1 = b.1) && decide (a.2 < b.2))
theorem ltP_irrefl (a : Int × Int) : ltP a a = false := by simp [ltP]
theorem ltP_trans {a b c : Int × Int} (h : ltP a b = true) (k : ltP b c = true) : ltP a c = true := by
  simp only [ltP, Bool.or_eq_true, Bool.and_eq_true, decide_eq_true_eq] at *; omega
theorem ltP_total {a b : Int × Int} (h : a ≠ b) : ltP a b = true ∨ ltP b a = true := by
  have : ¬ (a.1 = b.1 ∧ a.2 = b.2) := fun e => h (Prod.ext e.1 e.2)
  simp only [ltP, Bool.or_eq_true, Bool.and_eq_true, decide_eq_true_eq] at *; omega
theorem ltP_asymm {a b : Int × Int} (h : ltP a b = true) : ltP b a = false := by
  cases h2 : ltP b a with
  | false => rfl
  | true => have := ltP_trans h h2; rw [ltP_irrefl] at this; cases this
def rank (ks : List (Int × Int)) (x : Int × Int) : Nat := ks.countP fun y => ltP y x
theorem rank_mono (ks : List (Int × Int)) {x y : Int × Int} (hx : x ∈ ks) (h : ltP x y = true) : rank ks x < rank ks y := by
  have le : ∀ l : List (Int × Int), l.countP (fun z => ltP z x) ≤ l.countP (fun z => ltP z y) := fun l =>
    List.countP_mono_left fun z _ hz => ltP_trans hz h
  obtain ⟨a, b, rfl⟩ := List.append_of_mem hx
  unfold rank
  rw [List.countP_append, List.countP_append, List.countP_cons, List.countP_cons]
  have h1 := le a
  have h2 := le b
  simp only [ltP_irrefl, h, if_true, Bool.false_eq_true, if_false]
  omega
theorem rank_iff {ks : List (Int × Int)} {x y : Int × Int} (hx : x ∈ ks) (hy : y ∈ ks) : ltP x y = Nat.blt (rank ks x) (rank ks y) := by
  cases h : ltP x y with
  | true =>
    exact (Nat.blt_eq.mpr (rank_mono ks hx h)).symm
  | false =>
    cases h2 : Nat.blt (rank ks x) (rank ks y) with
    | false => rfl
    | true =>
      have h2' := Nat.blt_eq.mp h2
      by_cases e : x = y
      · subst e; omega
      · rcases ltP_total e with h3 | h3
        · rw [h] at h3; cases h3
        · have := rank_mono ks hy h3; omega

theorem getD_map {α : Type} (f : (Int × Int) → α) (ks : List (Int × Int)) (d : α) (i : Nat) (hi : i < ks.length) : (ks.map f).getD i d = f (ks.getD i (0, 0)) := by
  simp [hi]
theorem map_getD (ks : List (Int × Int)) : (List.range ks.length).map (fun i => ks.getD i (0, 0)) = ks := by
  apply List.ext_getElem
  · simp
  · intro i h1 h2
    simp at h1
    simp [h1]

/-- the tree of asks sorts up to six pairs, all different -/
theorem sort_pure {ks : List (Int × Int)} (hn : ks.Nodup) (h2 : 2 ≤ ks.length) (h6 : ks.length ≤ 6) :
    ∃ p, krun ks.length (fun i j => ltP (ks.getD i (0, 0)) (ks.getD j (0, 0))) (kas_sort ks.length) = some p ∧ (∀ i ∈ p.toList, i < ks.length) ∧ (p.toList.map fun i => ks.getD i (0, 0)).Perm ks ∧
      (p.toList.map fun i => ks.getD i (0, 0)).Pairwise (fun a b => ltP a b = true) := by
  have hget : ∀ i, i < ks.length → ks.getD i (0, 0) ∈ ks := fun i hi => by
    have : ks.getD i (0, 0) = ks[i] := by simp [hi]
    rw [this]; exact List.getElem_mem hi
  have hr : (ks.map (rank ks)).Perm (List.range ks.length) := by
    refine nodup_perm _ _ ?_ ?_ (by simp)
    · rw [List.Nodup, List.pairwise_map]
      refine List.Pairwise.imp_of_mem (fun {a b} ha hb hab e => ?_) hn
      rcases ltP_total hab with h | h
      · have := rank_mono ks ha h; omega
      · have := rank_mono ks hb h; omega
    · intro x hx
      obtain ⟨y, hy, rfl⟩ := List.mem_map.mp hx
      obtain ⟨a, b, e⟩ := List.append_of_mem hy
      have h1 : rank ks y = a.countP (fun z => ltP z y) + b.countP (fun z => ltP z y) := by
        unfold rank
        conv => lhs; rw [e]
        rw [List.countP_append, List.countP_cons, ltP_irrefl]
        simp
      have h3 := List.countP_le_length (p := fun z => ltP z y) (l := a)
      have h4 := List.countP_le_length (p := fun z => ltP z y) (l := b)
      have h5 : ks.length = a.length + (b.length + 1) := by rw [e]; simp
      omega
  have hg := good_all h2 h6 hr
  have hc : krun ks.length (fun i j => Nat.blt ((ks.map (rank ks)).getD i 0) ((ks.map (rank ks)).getD j 0)) (kas_sort ks.length) = krun ks.length (fun i j => ltP (ks.getD i (0, 0)) (ks.getD j (0, 0))) (kas_sort ks.length) :=
    krun_congr (fun i j hi hj => by
      rw [getD_map _ _ _ _ hi, getD_map _ _ _ _ hj]
      exact (rank_iff (hget i hi) (hget j hj)).symm) _
  unfold good at hg
  rw [hc] at hg
  cases hp : krun ks.length (fun i j => ltP (ks.getD i (0, 0)) (ks.getD j (0, 0))) (kas_sort ks.length) with
  | none => rw [hp] at hg; cases hg
  | some p =>
    rw [hp] at hg
    dsimp only at hg
    obtain ⟨g1, g2⟩ := Bool.and_eq_true_iff.mp hg
    have hlt : ∀ i ∈ p.toList, i < ks.length := fun i hi => Nat.blt_eq.mp (List.all_eq_true.mp g1 i hi)
    have g2' : p.toList.map (fun i => (ks.map (rank ks)).getD i 0) = List.range ks.length := by simpa using g2
    have hm : p.toList.map (fun i => rank ks (ks.getD i (0, 0))) = List.range ks.length := by
      rw [← g2']
      exact List.map_congr_left fun i hi => (getD_map _ _ _ _ (hlt i hi)).symm
    refine ⟨p, rfl, hlt, ?_, ?_⟩
    · have hnd : p.toList.Nodup := by
        have : (p.toList.map (fun i => rank ks (ks.getD i (0, 0)))).Nodup := by rw [hm]; exact List.nodup_range
        rw [List.Nodup, List.pairwise_map] at this
        exact this.imp fun h e => h (by rw [e])
      have hl : p.toList.length = ks.length := by
        have := congrArg List.length hm
        simpa using this
      have := (nodup_perm _ _ hnd hlt hl).map (fun i => ks.getD i (0, 0))
      rwa [map_getD] at this
    · have hs : (p.toList.map (fun i => rank ks (ks.getD i (0, 0)))).Pairwise (· < ·) := by rw [hm]; exact List.pairwise_lt_range
      rw [List.pairwise_map] at hs ⊢
      refine List.Pairwise.imp_of_mem (fun {a b} ha hb hab => ?_) hs
      rw [rank_iff (hget a (hlt a ha)) (hget b (hlt b hb))]
      exact Nat.blt_eq.mpr hab
end Mine

end
section
open PySem PySem.Calls PySem.W PyProof.Rows
set_option Elab.async false
set_option maxRecDepth 100000
set_option linter.unusedVariables false
namespace Mine
/-- a dict whatever its keys -/
def RawAt (h : Heap) (d : Addr) (es : Array DictEntry) (ep : Nat) : Prop := ∃ o, h.get? d = some o ∧ o.ExactDict ∧ o.data = .dict es ep
theorem RawAt.at {h h' : Heap} {d : Addr} {es : Array DictEntry} {ep : Nat} (x : RawAt h d es ep) (e : ∀ o, h.get? d = some o → h'.get? d = some o) : RawAt h' d es ep := let ⟨o, ho, r⟩ := x; ⟨o, e _ ho, r⟩
theorem RawAt.typeIs {s : Shared} {d : Addr} {es : Array DictEntry} {ep : Nat} (x : RawAt s.heap d es ep) : s.TypeIs (.ref d) "dict" := let ⟨o, ho, hc, _⟩ := x; ⟨o, ho, hc.1⟩
theorem RawAt.lt {h : Heap} {d : Addr} {es : Array DictEntry} {ep : Nat} (x : RawAt h d es ep) : d < h.objs.size := let ⟨o, ho, _⟩ := x; Heap.lt_size ho
section
variable {prog : Program} {w : World} {A : Around} {E : Value → Shared → Prop} {s : Shared}
theorem raw_pyIter {d : Addr} {es : Array DictEntry} {ep : Nat} {Q : Value → Shared → Prop} (hd : (d == sysModules) = false) (hm : RawAt s.heap d es ep)
    (hQ : Q (.ref s.heap.objs.size) { s with heap := s.heap.push { cls := .type "dict_keyiterator", data := .fields #[.ref d, .int 0 0, .int es.size 0, .int ep 0] } }) :
    wpAny (model prog w) A (pyIter (.ref d)) Q E s := by
  have hT := hm.typeIs
  obtain ⟨o, ho, hc, hdat⟩ := hm
  refine wpAny_pyIter_slot hT PySem.F.slot_dict_iter (wpAny_call_entry PySem.F.slot_dict_iter hT PySem.F.entry_dict_iter ?_ (PySem.F.args_dict_iter_1 _))
  unfold Builtin.«dict.__iter__»
  refine wpAny_bind ?_
  unfold Builtin.Dict.dictSlotNone
  refine wpAny_bind (wpAny_notOrdered_dict hT ?_)
  show wpAny _ _ (pure (Value.ref d)) _ _ s
  refine wpAny_pure ?_
  show wpAny _ _ (Builtin.Dict.showsAll d >>= _) _ _ s
  unfold Builtin.Dict.showsAll
  rw [if_neg (by rw [hd]; exact Bool.false_ne_true)]
  refine wpAny_bind (wpAny_pure ?_)
  refine wpAny_bind (wpAny_dictEntries ho hdat ?_)
  refine wpAny_bind (wpAny_dictEpoch ho hdat ?_)
  refine wpAny_bind (wpAny_newObj_type (wpAny_pure ⟨_, rfl, "dict_keyiterator", _, ⟨_, Heap.get?_push_size _ rfl, rfl⟩, PySem.F.slot_dict_keyiterator_next.lookup, ?_⟩))
  simpa [rawInt] using hQ
theorem raw_next_item {it d : Addr} {i ep : Nat} {es : Array DictEntry} {e : DictEntry} {Q : Option Value → Shared → Prop} (hit : s.heap.IsKeyIter it d i es.size ep)
    (hm : RawAt s.heap d es ep) (hx : es[i]? = some e)
    (hQ : ∀ h', h'.IsKeyIter it d (i + 1) es.size ep → Heap.SameBut it s.heap h' → Q (some e.key) { s with heap := h' }) :
    wpAny (model prog w) A (pyNext (.ref it)) Q E s := by
  obtain ⟨o, ho, hc, hd⟩ := id hit
  obtain ⟨od, hod, hcd, hdd⟩ := id hm
  unfold pyNext
  refine wpAny_bind (wpAny_attempt (wpAny_callSpecial?_slot (name := Str.ofString "__next__") hit.typeIs PySem.F.slot_dict_keyiterator_next
    (wpAny_call_entry PySem.F.slot_dict_keyiterator_next hit.typeIs PySem.F.entry_dict_keyiterator_next ?_ (PySem.F.args_dict_keyiterator_next_1 _))))
  refine wpAny_bind (wpAny_pure ?_)
  refine wpAny_bind ?_
  refine wpAny_bind ?_
  first | refine wpAny_bind (wpAny_typeNameOfWhole_keyiter hit.typeIs (wpAny_pure ?_)) | refine wpAny_bind (wpAny_typeNameOf_keyiter hit.typeIs (wpAny_pure ?_))
  refine wpAny_bind (wpAny_fieldsOf ho hd ?_)
  have hown : Builtin.Dict_items.ownsTuple "dict_keyiterator" = false := by decide
  simp only [hown, Bool.false_eq_true, if_false]
  show wpAny _ _ (if (Value.ref d == Value.none) = true then _ else _) _ _ s
  rw [if_neg (show ¬ ((Value.ref d == Value.none) = true) from Bool.false_ne_true)]
  refine wpAny_bind (wpAny_pure ?_)
  refine wpAny_bind (wpAny_dictEntries hod hdd ?_)
  rw [if_neg (by simp)]
  refine wpAny_bind (wpAny_pure ?_)
  refine wpAny_bind (wpAny_dictEpoch hod hdd ?_)
  rw [if_neg (by simp)]
  refine wpAny_pure ?_
  simp only [show ¬ ((i : Int) < 0) from by omega, if_false, Int.toNat_natCast, hx]
  refine wpAny_bind ?_
  first | refine wpAny_bind (wpAny_typeNameOfWhole_keyiter hit.typeIs (wpAny_pure ?_)) | refine wpAny_bind (wpAny_typeNameOf_keyiter hit.typeIs (wpAny_pure ?_))
  refine wpAny_bind (wpAny_isOneOf_keyiter hit.typeIs ?_)
  show wpAny _ _ (setField (.ref it) 1 (rawInt ((i : Int) + 1)) >>= _) _ _ s
  refine wpAny_bind (wpAny_setField ho hd (by simp) ?_)
  have hit' : (s.heap.update it (Obj.mapFields (·.setIfInBounds 1 (rawInt ((i : Int) + 1))))).IsKeyIter it d (i + 1) es.size ep :=
    ⟨_, Heap.get?_update_self _ ho (Obj.isFreed_of_fields (Obj.data_mapFields hd _)), (Obj.cls_mapFields ..).trans hc, by rw [Obj.data_mapFields hd]; simp [rawInt]⟩
  refine wpAny_bind (wpAny_holding ?_)
  refine wpAny_bind (wpAny_isOneOf_keyiter (s := { s with heap := s.heap.update it (Obj.mapFields (·.setIfInBounds 1 (rawInt ((i : Int) + 1)))) }) hit'.typeIs ?_)
  show wpAny _ _ (pure e.key) _ _ _
  exact wpAny_pure (wpAny_pure ⟨_, rfl, wpAny_pure (hQ _ hit' (Heap.SameBut.update ..))⟩)
theorem raw_next_end {it d : Addr} {i ep : Nat} {es : Array DictEntry} {Q : Option Value → Shared → Prop} (hh : A.handled = none) (hit : s.heap.IsKeyIter it d i es.size ep)
    (hm : RawAt s.heap d es ep) (hx : es[i]? = none)
    (hQ : ∀ h', Heap.ExtBut it s.heap h' → Q none { s with heap := h' }) : wpAny (model prog w) A (pyNext (.ref it)) Q E s := by
  obtain ⟨o, ho, hc, hd⟩ := id hit
  obtain ⟨od, hod, hcd, hdd⟩ := id hm
  unfold pyNext
  refine wpAny_bind (wpAny_attempt (wpAny_callSpecial?_slot (name := Str.ofString "__next__") hit.typeIs PySem.F.slot_dict_keyiterator_next
    (wpAny_call_entry PySem.F.slot_dict_keyiterator_next hit.typeIs PySem.F.entry_dict_keyiterator_next ?_ (PySem.F.args_dict_keyiterator_next_1 _))))
  refine wpAny_bind (wpAny_pure ?_)
  refine wpAny_bind ?_
  refine wpAny_bind ?_
  first | refine wpAny_bind (wpAny_typeNameOfWhole_keyiter hit.typeIs (wpAny_pure ?_)) | refine wpAny_bind (wpAny_typeNameOf_keyiter hit.typeIs (wpAny_pure ?_))
  refine wpAny_bind (wpAny_fieldsOf ho hd ?_)
  have hown : Builtin.Dict_items.ownsTuple "dict_keyiterator" = false := by decide
  simp only [hown, Bool.false_eq_true, if_false]
  show wpAny _ _ (if (Value.ref d == Value.none) = true then _ else _) _ _ s
  rw [if_neg (show ¬ ((Value.ref d == Value.none) = true) from Bool.false_ne_true)]
  refine wpAny_bind (wpAny_pure ?_)
  refine wpAny_bind (wpAny_dictEntries hod hdd ?_)
  rw [if_neg (by simp)]
  refine wpAny_bind (wpAny_pure ?_)
  refine wpAny_bind (wpAny_dictEpoch hod hdd ?_)
  rw [if_neg (by simp)]
  refine wpAny_pure ?_
  simp only [show ¬ ((i : Int) < 0) from by omega, if_false, Int.toNat_natCast, hx]
  refine wpAny_bind ?_
  first | refine wpAny_bind (wpAny_typeNameOfWhole_keyiter hit.typeIs (wpAny_pure ?_)) | refine wpAny_bind (wpAny_typeNameOf_keyiter hit.typeIs (wpAny_pure ?_))
  show wpAny _ _ (setField (.ref it) 0 .none >>= _) _ _ s
  refine wpAny_bind (wpAny_setField ho hd (by simp) ?_)
  show wpAny _ _ (newExc (.type "StopIteration") [] >>= _) _ _ _
  refine wpAny_bind ?_
  simp only [newExc, newTuple]
  refine wpAny_bind (wpAny_newObj_type ?_ (by size_fits))
  refine wpAny_bind (m := firstArgMember _ _) (wpAny_of_eq (a := Value.none) (by first | rfl | (simp only [firstArgMember]; rfl)) ?_)
  refine wpAny_newObj_type ?_ (by size_fits)
  simp only [raiseNew]
  refine wpAny_bind (wpAny_handled ?_)
  rw [show A.in1.handled = none from hh]
  refine wpAny_bind (wpAny_pure (wpAny_throw ?_))
  refine wpAny_bind (wpAny_isInstance (T := "StopIteration") (b := true) ⟨_, Heap.get?_push_size _ rfl, rfl⟩ isSubtype_stop ?_)
  exact wpAny_pure (hQ _ (((Heap.SameBut.update ..).extBut.push _).push _))
theorem rawWalks (hh : A.handled = none) (I d : Addr) (hne : d ≠ I) (es : Array DictEntry) (ep : Nat) :
    Walks prog w A I [I, d] [I] es.size (fun i v => ∃ e, es[i]? = some e ∧ v = e.key) (fun i h => h.IsKeyIter I d i es.size ep ∧ RawAt h d es ep) where
  sub := fun b hb => by simp at hb; simp [hb]
  frame := fun _ _ _ st hk => ⟨st.1.at fun o e => hk I (by simp) o e, st.2.at fun o e => hk d (by simp) o e⟩
  item := fun i s Q E hi st hQ => by
    obtain ⟨e, hx⟩ : ∃ e, es[i]? = some e := ⟨es[i], by simp [hi]⟩
    refine raw_next_item st.1 st.2 hx fun h' hit' hs' => ?_
    exact hQ e.key h' s.toks ⟨e, hx, rfl⟩ ⟨hit', st.2.at fun o q => hs'.extBut _ _ hne q⟩ fun b o hb e => hs'.extBut b o (fun h => hb (by simp [h])) e
  done := fun s Q E st hQ => raw_next_end hh st.1 st.2 (by simp) fun h' he' => hQ h' s.toks fun b o hb e => he' b o (fun h => hb (by simp [h])) e
  self := fun _ _ _ _ st hQ => wpAny_pyIter_keyiter st.1 hQ
theorem rawSrc {d : Addr} {es : Array DictEntry} {ep : Nat} (lo : (d == sysModules) = false) : KdlSrc prog w "dict" d d es.size (fun i v => ∃ e, es[i]? = some e ∧ v = e.key) (fun h => RawAt h d es ep) where
  type := fun _ hm => hm.typeIs
  there := fun _ hm => ⟨hm.lt, hm.lt⟩
  keep := fun _ _ hm hk => hm.at fun o e => hk d (.inl rfl) o e
  notList := by decide
  notTuple := by decide
  hint := fun _ _ _ _ hm hq => kdl_hint_dict hm.typeIs hq
  iter := fun _ _ hh hm => ⟨_, _, (fun _ _ hq => raw_pyIter lo hm hq), rawWalks hh _ d (Nat.ne_of_lt hm.lt) es ep, ⟨⟨_, Heap.get?_push_size _ rfl, rfl, rfl⟩, hm.at fun o e => Heap.get?_push_of_some _ e⟩⟩
end
end Mine

end
section
open PySem PySem.Calls PySem.W PyProof.Rows
set_option Elab.async false
set_option maxRecDepth 100000
set_option linter.unusedVariables false
namespace Mine
section
variable {prog : Program} {w : World} {A : Around} {E : Value → Shared → Prop} {s : Shared} {h₀ : Heap} {L d : Addr} {m : Str → Option Value} {news : List (Addr × Obj)} {κ : Kn} {Q : Value → Shared → Prop}
theorem ints_keys {kvs : List (Int × Value)} : ∀ {vs : List Value}, vs.length = kvs.length → (∀ (j : Nat) (v : Value), vs[j]? = some v → ∃ k x, kvs[j]? = some (k, x) ∧ (intKind prog w).is k v = true) → IntsAre vs (kvs.map (·.1)) := by
  induction kvs with
  | nil => intro vs hl _; rw [List.length_eq_zero_iff.mp hl]; exact .nil
  | cons q r ih =>
    intro vs hl hv
    match vs, hl with
    | v :: vs, hl =>
      obtain ⟨k, x, e, hk⟩ := hv 0 v rfl
      obtain ⟨t, rfl⟩ := Value.isInt_shape hk
      simp at e
      subst e
      exact .cons _ _ (ih (by simpa using hl) fun j v hj => hv (j + 1) v hj)
/-- sorted over a dict of ints -/
theorem sorted_intD {kvs : List (Int × Value)} (hh : A.handled = none) (F : Fr h₀ L s.heap m) (N : News h₀ L s.heap news) (hd : DictK prog w κ d kvs) (le : Kn.le κ (kn s.heap)) (lo : (d == sysModules) = false) (hn : kvs.length < 64)
    (h : ∀ D h' tk vs ns c, Fr h₀ L h' m → News h₀ L h' ((D, listOf vs.toArray c) :: news) → (∀ q ∈ news, q.1 < D) → IntsAre vs ns → ns.Perm (kvs.map (·.1)) → ns.Pairwise (· ≤ ·) → Q (.ref D) { s with heap := h', toks := tk }) :
    wpAny (model prog w) A (call (.builtin "sorted") [.ref d]) Q E s := by
  obtain ⟨ep, hat⟩ := (hd.mono le).at.dictAt
  refine kdu_sorted (kdl_dict (knd := intKind prog w) (kvs := kvs) (ep := ep) lo) hh F N hat (by rw [sizeLine_eq]; omega) fun D h' tk vs F' N' l1 hl hv => ?_
  have hI := ints_keys hl hv
  have hoD : h'.get? D = some (seqObj "list" vs.toArray 0) := (N' _ (.head _)).1
  have hDL := (N' _ (.head _)).2.1
  have hD0 := (N' _ (.head _)).2.2
  refine wpAny_call_entry slot_list_sort ⟨_, hoD, rfl⟩ entry_list_sort (list_sort_tree (s := { s with heap := h', toks := tk }) hoD hI (by omega) fun out ns' a1 a2 a3 => ⟨_, rfl, ?_⟩) (args_list_sort _)
  obtain ⟨e, he⟩ := sortedHeap_at (out := out) hoD
  have old : ∀ b o, b ≠ D → h'.get? b = some o → (sortedHeap h' D vs out).get? b = some o := fun b o hb q => (sortedHeap_old hb (Heap.lt_size q)).trans q
  have F2 : Fr h₀ L (sortedHeap h' D vs out) m := ⟨F'.ns.at' fun o q => old _ _ (fun x : L = D => hDL x.symm) q, fun b o q => old _ _ (fun x => by rw [x, hD0] at q; cases q) (F'.keep _ _ q), F'.above⟩
  refine h D (sortedHeap h' D vs out) tk out.toList ns' e F2 (fun p hp => ?_) l1 a1 a2 a3
  rcases List.mem_cons.mp hp with rfl | hp
  · exact ⟨by rw [he], hDL, hD0⟩
  · exact ⟨old _ _ (Nat.ne_of_lt (l1 _ hp)) (N' _ (.tail _ hp)).1, (N' _ (.tail _ hp)).2⟩

theorem key_items {h : Heap} {q : Int × Int} {a : Addr} (k : KeyK prog w (kn h) (kp q) a) : ∃ o t u n, h.get? a = some o ∧ o.cls = .type "tuple" ∧ o.data = .seq #[.int q.1 t, .int q.2 u] n := by
  obtain ⟨o, e, hc, items, n, hd, hi⟩ := k
  obtain ⟨l⟩ := items
  have hi' : PySem.ItemsAre (intKind prog w) [q.1, q.2] l := hi
  cases hi' with
  | cons h1 r =>
    cases r with
    | cons h2 r2 =>
      cases r2
      obtain ⟨t, rfl⟩ := Value.isInt_shape h1
      obtain ⟨u, rfl⟩ := Value.isInt_shape h2
      exact ⟨o, t, u, n, e, hc, hd⟩
theorem eq_ints {a b : Int} {t u : Tok} {C : Bool → Shared → Prop} (h : C (decide (a = b)) s) : wpAny (model prog w) A (eqBool (.int a t) (.int b u)) C E s :=
  (intKind prog w).eqBool (intKind_is _ _ _ _) (intKind_is _ _ _ _) h
/-- two pairs compared by the sort -/
theorem lt_keys {x y : Addr} {p q : Int × Int} {C : Bool → Shared → Prop} (hx : KeyK prog w (kn s.heap) (kp p) x) (hy : KeyK prog w (kn s.heap) (kp q) y) (h : C (ltP p q) s) :
    wpAny (model prog w) A (keyLt' (tuples' true) (.ref x) (.ref y)) C E s := by
  obtain ⟨ox, t1, t2, n1, ex, _, dx⟩ := key_items hx
  obtain ⟨oy, u1, u2, n2, ey, _, dy⟩ := key_items hy
  refine kat_lt ex dx ey dy ?_
  show KatLex prog w A true _ C [(.int p.1 t1, .int q.1 u1), (.int p.2 t2, .int q.2 u2)] 0 s
  refine kat_cons (eq_ints ?_)
  refine kat_go (fun e1 => kat_yes (kat_cons (eq_ints (kat_go (fun e2 => kat_yes (kat_nil ?_)) fun e2 => kat_no ?_)))) fun e1 => kat_no ?_
  · have h1 := of_decide_eq_true e1
    have h2 := of_decide_eq_true e2
    have : ltP p q = decide ((#[Value.int p.1 t1, Value.int p.2 t2] : Array Value).size < (#[Value.int q.1 u1, Value.int q.2 u2] : Array Value).size) := by simp [ltP, h1, h2]
    rw [← this]; exact h
  · have h1 := of_decide_eq_true e1
    have : ltP p q = decide (p.2 < q.2) := by simp [ltP, h1]
    rw [this] at h
    refine kat_one _ _ ?_
    exact PyProof.Rows.lt_int h
  · have h1 := of_decide_eq_false e1
    have : ltP p q = decide (p.1 < q.1) := by simp [ltP, h1]
    rw [this] at h
    exact oneLt_int h

/-- a list of fewer than two things is sorted -/
theorem sort_small {a : Addr} {vs : List Value} {n : Nat} {P : Fin → Shared → Prop} (ho : s.heap.get? a = some (seqObj "list" vs.toArray n)) (h2 : vs.length < 2)
    (h : P (.done (.ret .none)) { s with heap := sortedHeap s.heap a vs vs.toArray }) : wpAny (model prog w) A (Builtin.«list.sort» ⟨[.ref a], []⟩) P E s := by
  have ha : a < s.heap.objs.size := Heap.lt_size ho
  obtain ⟨e1, ho1⟩ : ∃ e1, (s.heap.update a (Obj.mapSeq fun _ => (#[] : Array Value))).get? a = some (seqObj "list" #[] e1) := ⟨_, get?_update_seq ho fun _ => #[]⟩
  have ho6 : (((s.heap.update a (Obj.mapSeq fun _ => (#[] : Array Value))).push (seqObj "tuple" vs.toArray 0)).push (seqObj "list" #[] 0)).get? a = some (seqObj "list" #[] e1) := Heap.get?_push_of_some _ (Heap.get?_push_of_some _ ho1)
  rw [list_sort_plain]
  refine wpAny_bind (listItems_at ho rfl ?_)
  refine wpAny_bind (listUpdate_at ho rfl ?_ (by rw [List.size_toArray, sizeLine_eq]; omega) (Nat.zero_le _))
  refine wpAny_bind (seqEpoch_at ho1 rfl ?_)
  refine wpAny_bind (wpAny_newTuple ?_ (by show vs.length ≤ _; rw [sizeLine_eq]; omega))
  refine wpAny_bind (wpAny_newList ?_ (Nat.zero_le _))
  refine wpAny_holding ?_
  show wpAny (model prog w) A _ P E { s with heap := ((s.heap.update a (Obj.mapSeq fun _ => (#[] : Array Value))).push (seqObj "tuple" vs.toArray 0)).push (seqObj "list" #[] 0) }
  dsimp only
  have h2' : vs.toArray.size < 2 := by rw [List.size_toArray]; exact h2
  rw [if_pos h2', if_pos h2']
  refine wpAny_bind (wpAny_pure ?_)
  rw [StateT.run_pure]
  refine wpAny_bind (wpAny_pure ?_)
  dsimp only
  have hz : (vs.toArray.zip vs.toArray).map (·.2) = vs.toArray := by
    apply Array.toList_inj.mp
    simp only [Array.toList_map, Array.toList_zip]
    exact List.map_snd_zip (by simp)
  refine wpAny_bind (seqEpoch_at ho6 rfl ?_)
  refine wpAny_bind (listUpdate_at ho6 rfl ?_ (Nat.zero_le _) (by show (Array.map (·.2) (vs.toArray.zip vs.toArray)).size ≤ _; rw [hz, List.size_toArray, sizeLine_eq]; omega))
  simp only [bne_self_eq_false, Bool.false_eq_true, if_false]
  refine wpAny_pure ?_
  have e : (((s.heap.update a (Obj.mapSeq fun _ => (#[] : Array Value))).push (seqObj "tuple" vs.toArray 0)).push (seqObj "list" #[] 0)).update a (Obj.mapSeq fun _ => Array.map (·.2) (vs.toArray.zip vs.toArray)) = sortedHeap s.heap a vs vs.toArray := by
    rw [hz]; rfl
  show P _ { s with heap := (((s.heap.update a (Obj.mapSeq fun _ => (#[] : Array Value))).push (seqObj "tuple" vs.toArray 0)).push (seqObj "list" #[] 0)).update a (Obj.mapSeq fun _ => Array.map (·.2) (vs.toArray.zip vs.toArray)) }
  rw [e]; exact h

def RefV (prog : Program) (w : World) (κ : Kn) (v : Value) (q : Int × Int) : Prop := ∃ a, v = .ref a ∧ KeyK prog w κ (kp q) a
theorem refs_of {xs : List (List Int × Addr × Value)} {ps : List (Int × Int)} (hk : ∀ x ∈ xs, KeyK prog w κ x.1 x.2.1) (hp : xs.map (·.1) = ps.map kp) : R2 (RefV prog w κ) (xs.map fun x => Value.ref x.2.1) ps := by
  induction xs generalizing ps with
  | nil =>
    cases ps with
    | nil => exact .nil
    | cons _ _ => simp at hp
  | cons x xs ih =>
    cases ps with
    | nil => simp at hp
    | cons p ps =>
      simp only [List.map_cons, List.cons.injEq] at hp
      exact .cons ⟨_, rfl, hp.1 ▸ hk x List.mem_cons_self⟩ (ih (fun y hy => hk y (List.mem_cons_of_mem _ hy)) hp.2)
theorem R2.getD {α β : Type} {P : α → β → Prop} {as : List α} {bs : List β} (h : R2 P as bs) (a₀ : α) (b₀ : β) : ∀ i, i < bs.length → P (as.getD i a₀) (bs.getD i b₀) := by
  induction h with
  | nil => intro i hi; exact absurd hi (Nat.not_lt_zero _)
  | cons h _ ih =>
    intro i hi
    cases i with
    | zero => exact h
    | succ i => simpa using ih i (by simpa using hi)
theorem R2.pick {α β : Type} {P : α → β → Prop} {as : List α} {bs : List β} (h : R2 P as bs) (a₀ : α) (b₀ : β) : ∀ (l : List Nat), (∀ i ∈ l, i < bs.length) → R2 P (l.map fun i => as.getD i a₀) (l.map fun i => bs.getD i b₀)
  | [], _ => .nil
  | i :: l, hl => .cons (h.getD a₀ b₀ i (hl i List.mem_cons_self)) (R2.pick h a₀ b₀ l fun j hj => hl j (List.mem_cons_of_mem _ hj))
theorem tups_of {h : Heap} : ∀ {vs : List Value} {ps : List (Int × Int)}, R2 (RefV prog w (kn h)) vs ps → ∃ fs, KatTups h vs fs ∧ fs.length = vs.length ∧ ∀ v ∈ fs, ∃ i t, v = .int i t
  | _, _, .nil => ⟨[], KatTups.nil, rfl, fun _ hv => nomatch hv⟩
  | _, _, .cons ⟨a, e, k⟩ r => by
    obtain ⟨fs, t, hl, hf⟩ := tups_of r
    obtain ⟨o, t1, t2, n, ho, hc, hd⟩ := key_items k
    subst e
    refine ⟨_, KatTups.cons ho hc hd rfl t, by simp [hl], fun v hv => ?_⟩
    rcases List.mem_cons.mp hv with rfl | hv
    · exact ⟨_, _, rfl⟩
    · exact hf v hv
/-- sorted over a dict of pairs -/
theorem sorted_tupD {xs : List (List Int × Addr × Value)} {ps : List (Int × Int)} (hh : A.handled = none) (F : Fr h₀ L s.heap m) (N : News h₀ L s.heap news) (hd : DictHK prog w κ d xs) (hp : xs.map (·.1) = ps.map kp)
    (le : ∀ h', Fr h₀ L h' m → News h₀ L h' news → Kn.le κ (kn h')) (lo : (d == sysModules) = false) (hn : ps.length ≤ 6)
    (h : ∀ D h' tk vs qs c, Fr h₀ L h' m → News h₀ L h' ((D, listOf vs.toArray c) :: news) → (∀ q ∈ news, q.1 < D) → R2 (RefV prog w κ) vs qs → qs.Perm ps → qs.Pairwise (fun a b => ltP a b = true) → Q (.ref D) { s with heap := h', toks := tk }) :
    wpAny (model prog w) A (call (.builtin "sorted") [.ref d]) Q E s := by
  obtain ⟨o, es, ep, hκ, hc, hdat, hes, hkeys, hnd⟩ := hd
  have hat : RawAt s.heap d es ep := ⟨o, le _ F N _ _ hκ, hc, hdat⟩
  have hlen : es.size = ps.length := by
    rw [← Array.length_toList, hes, List.length_map]
    have := congrArg List.length hp
    simpa using this
  have hR := refs_of hkeys hp
  have hnp : ps.Nodup := by
    have h1 : (ps.map kp).Nodup := hp ▸ hnd
    rw [List.Nodup, List.pairwise_map] at h1
    exact h1.imp fun h2 e => h2 (by rw [e])
  refine kdu_sorted (rawSrc (prog := prog) (w := w) (es := es) (ep := ep) lo) hh F N hat (by rw [hlen, sizeLine_eq]; omega) fun D h' tk vs F' N' l1 hl hv => ?_
  have hvs : vs = xs.map fun x => Value.ref x.2.1 := by
    apply List.ext_getElem?
    intro j
    cases hj : vs[j]? with
    | none =>
      have h1 : vs.length ≤ j := by simpa using hj
      rw [eq_comm, List.getElem?_eq_none_iff, List.length_map]
      have h2 : xs.length = ps.length := by have := congrArg List.length hp; simpa using this
      omega
    | some v =>
      obtain ⟨e, he, rfl⟩ := hv j v hj
      have h1 : es.toList[j]? = some e := by rw [Array.getElem?_toList]; exact he
      rw [hes, List.getElem?_map] at h1
      obtain ⟨x, hx, hx2⟩ := Option.map_eq_some_iff.mp h1
      rw [List.getElem?_map, hx, ← hx2]
      rfl
  rw [← hvs] at hR
  have hoD : h'.get? D = some (seqObj "list" vs.toArray 0) := (N' _ (.head _)).1
  have hDL := (N' _ (.head _)).2.1
  have hD0 := (N' _ (.head _)).2.2
  have Nr : News h₀ L h' news := fun p hp => N' p (.tail _ hp)
  have hvl : vs.length = ps.length := hR.length
  by_cases h2 : vs.length < 2
  · refine wpAny_call_entry slot_list_sort ⟨_, hoD, rfl⟩ entry_list_sort (sort_small (s := { s with heap := h', toks := tk }) hoD h2 ⟨_, rfl, ?_⟩) (args_list_sort _)
    obtain ⟨e, he⟩ := sortedHeap_at (out := vs.toArray) hoD
    have old : ∀ b o, b ≠ D → h'.get? b = some o → (sortedHeap h' D vs vs.toArray).get? b = some o := fun b o hb q => (sortedHeap_old hb (Heap.lt_size q)).trans q
    have F2 : Fr h₀ L (sortedHeap h' D vs vs.toArray) m := ⟨F'.ns.at' fun o q => old _ _ (fun x : L = D => hDL x.symm) q, fun b o q => old _ _ (fun x => by rw [x, hD0] at q; cases q) (F'.keep _ _ q), F'.above⟩
    refine h D (sortedHeap h' D vs vs.toArray) tk vs ps e F2 (fun p hp => ?_) l1 hR (List.Perm.refl _) ?_
    · rcases List.mem_cons.mp hp with rfl | hp
      · exact ⟨he, hDL, hD0⟩
      · exact ⟨old _ _ (Nat.ne_of_lt (l1 _ hp)) (N' _ (.tail _ hp)).1, (N' _ (.tail _ hp)).2⟩
    · match ps, hvl ▸ h2 with
      | [], _ => exact List.Pairwise.nil
      | [_], _ => exact List.pairwise_singleton _ _
  · obtain ⟨p, hp1, hp2, hp3, hp4⟩ := sort_pure hnp (by omega) hn
    refine wpAny_call_entry slot_list_sort ⟨_, hoD, rfl⟩ entry_list_sort (kat_list_sort (s := { s with heap := h', toks := tk }) F' Nr hoD hDL hD0 (fun q hq => Nat.ne_of_lt (l1 q hq)) (by omega) (by omega) fun e1 h2' F2 N2 => ?_) (args_list_sort _)
    have N2r : News h₀ L h2' news := fun p hp => N2 p (.tail _ hp)
    have hR2 : R2 (RefV prog w (kn h2')) vs ps := hR.imp fun v q ⟨a, e, k⟩ => ⟨a, e, k.mono (le _ F2 N2r)⟩
    obtain ⟨fs, ht, hfl, hfi⟩ := tups_of hR2
    refine kat_kind (T := .type "int") ht (by omega) (fun v hv => by obtain ⟨i, t, rfl⟩ := hfi v hv; exact Looks.of_pure rfl) (by decide) ?_
    have hb : (Value.type "int" != Value.type "tuple") = true := by decide
    rw [hb, hvl]
    refine krun_wp (fun i j C hi hj hC => ?_) _ p hp1 ?_
    · obtain ⟨a, ea, ka⟩ := hR2.getD Value.none (0, 0) i hi
      obtain ⟨b, eb, kb⟩ := hR2.getD Value.none (0, 0) j hj
      show wpAny _ _ (keyLt' (tuples' true) (vs.getD i Value.none) (vs.getD j Value.none)) _ _ _
      rw [ea, eb]
      exact lt_keys ka kb hC
    · refine KasFin.intro F2 N2 (.head fun q hq => Nat.ne_of_lt (l1 q hq)) fun h3 c F3 N3 => ⟨_, rfl, ?_⟩
      exact h D h3 _ _ _ c F3 N3 l1 (hR.pick Value.none (0, 0) _ hp2) hp3 hp4
end
end Mine

end
section
open PySem PySem.Calls PySem.W PyProof.Rows
set_option Elab.async false
set_option maxRecDepth 100000
set_option linter.unusedVariables false
namespace Mine
theorem upd_self (m : Str → Option Value) (x : Str) : m = fun y => if y = x then m x else m y := by
  funext y; split
  · rename_i h; rw [h]
  · rfl
theorem upd_upd (m : Str → Option Value) (x : Str) (u v : Option Value) : (fun y => if y = x then v else (fun y => if y = x then u else m y) y) = fun y => if y = x then v else m y := by
  funext y; dsimp only; split <;> rfl
/-- how a turn of a loop ends -/
def TurnEnd (h₀ : Heap) (L I : Addr) (oI : Obj) (keep : List (Addr × Obj)) (J : (Str → Option Value) → List (Addr × Obj) → Prop) (s₁ : Shared) (Qr : Value → Shared → Prop) (Qb : Shared → Prop) (f : Flow) (s₂ : Shared) : Prop :=
  match f with
  | .ret v => Qr v s₂
  | .brk => Qb s₂
  | _ => ∃ h' tk m' nx, s₂ = { s₁ with heap := h', toks := tk } ∧ Fr h₀ L h' m' ∧ News h₀ L h' ((I, oI) :: (keep ++ nx)) ∧ (∀ p ∈ nx, p.1 ≠ I) ∧ J m' nx
theorem TurnEnd.next {h₀ : Heap} {L I : Addr} {oI : Obj} {keep nx all : List (Addr × Obj)} {J : (Str → Option Value) → List (Addr × Obj) → Prop} {s₁ : Shared} {Qr : Value → Shared → Prop} {Qb : Shared → Prop} {h' : Heap} {tk : Nat} {m' : Str → Option Value}
    (F : Fr h₀ L h' m') (N : News h₀ L h' all) (hs : ∀ p ∈ (I, oI) :: (keep ++ nx), p ∈ all) (ho : ∀ p ∈ nx, p.1 ≠ I) (hj : J m' nx) : TurnEnd h₀ L I oI keep J s₁ Qr Qb .next { s₁ with heap := h', toks := tk } :=
  ⟨h', tk, m', nx, rfl, F, fun p hp => N p (hs p hp), ho, hj⟩
section
variable {prog : Program} {w : World} {A : Around} {E : Value → Shared → Prop} {env : Env}
/-- the loop over a list that stays, once its iterable is in hand -/
def ForAt (prog : Program) (w : World) (A : Around) (env : Env) (target : PySem.Expr) (body : List Stmt) (Q : Flow → Shared → Prop) (xv : Value) (s : Shared) : Prop :=
  ∃ (h₀ : Heap) (D : Addr) (vs : List Value) (keep nx₀ : List (Addr × Obj)) (m₀ : Str → Option Value) (J : Nat → (Str → Option Value) → List (Addr × Obj) → Prop),
    xv = .ref D ∧ A.handled = none ∧ Fr h₀ env.locals s.heap m₀ ∧ News h₀ env.locals s.heap (keep ++ nx₀) ∧
    (∀ h : Heap, (∀ b o, h₀.get? b = some o → h.get? b = some o) → (∀ p ∈ keep, h.get? p.1 = some p.2) → h.IsList D vs.toArray) ∧ J 0 m₀ nx₀ ∧
    (∀ i v I oI m₁ nx h tk, vs[i]? = some v → J i m₁ nx → (∀ p ∈ keep, p.1 < I) → (∀ p ∈ nx₀, p.1 < I) → (∀ p ∈ nx, p.1 ≠ I) → Fr h₀ env.locals h m₁ → News h₀ env.locals h ((I, oI) :: (keep ++ nx)) →
      wpAny (model prog w) A (assign target env v) (fun _ s₂ => wpAny (model prog w) A (execs body env)
        (TurnEnd h₀ env.locals I oI keep (J (i + 1)) { s with heap := h, toks := tk } (fun r s' => Q (.ret r) s') (fun s' => Q .next s')) (fun _ _ => False) s₂) (fun _ _ => False) { s with heap := h, toks := tk }) ∧
    (∀ m₁ nx h tk, J vs.length m₁ nx → Fr h₀ env.locals h m₁ → News h₀ env.locals h (keep ++ nx) → Q .next { s with heap := h, toks := tk })
theorem lot_list {s : Shared} {target : PySem.Expr} {I l : Addr} {v : Value} {i : Nat} {Q : Unit → Shared → Prop} (hit : s.heap.IsListIter I l i) (hQ : Q () s) :
    wpAny (model prog w) A (letOwnedTupleGo target (.ref I) v) Q E s := by
  obtain ⟨o, e, hc, hd⟩ := hit
  have go : ∀ a, wpAny (model prog w) A (letOwnedTupleGo (.Tuple [] 0 default) (.ref I) (.ref a)) Q E s := fun a => by
    unfold letOwnedTupleGo
    refine wpAny_bind (wpAny_load e ?_)
    rw [hc, hd]
    exact wpAny_pure hQ
  cases target <;> first
    | exact wpAny_pure hQ
    | (cases v <;> first
        | exact wpAny_pure hQ
        | exact go _)
theorem For_at {s : Shared} {target iter : PySem.Expr} {body : List Stmt} {pos : Pos} {Q : Flow → Shared → Prop}
    (h : wpAny (model prog w) A (eval iter env) (ForAt prog w A env target body Q) E s)
    (hs : ∀ x, foldedSetIterable iter env x = pure x := by intro _; rfl) :
    wpAny (model prog w) A (exec (.For target iter body [] pos) env) Q E s := by
  refine wpAny_For (wpAny_mono h (fun xv s₁ h₁ => ?_) fun _ _ e => e) hs
  obtain ⟨h₀, D, vs, keep, nx₀, m₀, J, rfl, hh, F, N, hl, hj, turn, done⟩ := h₁
  have hk0 : ∀ p ∈ keep, s₁.heap.get? p.1 = some p.2 := fun p hp => (N p (List.mem_append_left _ hp)).1
  have hL : s₁.heap.IsList D vs.toArray := hl _ F.keep hk0
  have hDlt : D < s₁.heap.objs.size := by obtain ⟨_, e, _⟩ := hL; exact Heap.lt_size e
  refine wpAny_pyIter_list hL ?_
  have hne : D ≠ s₁.heap.objs.size := Nat.ne_of_lt hDlt
  have up : ∀ b o, s₁.heap.get? b = some o → (s₁.heap.push { cls := .type "list_iterator", data := .fields #[.ref D, .int 0 0] }).get? b = some o := fun b o e => Heap.get?_push_of_some _ e
  have hI0 : h₀.get? s₁.heap.objs.size = none := Heap.get?_none_of_le (Nat.le_trans F.above (Nat.le_of_lt F.ns.lt))
  have hIL : env.locals ≠ s₁.heap.objs.size := Nat.ne_of_lt F.ns.lt
  have hlt : ∀ p ∈ keep ++ nx₀, p.1 < s₁.heap.objs.size := fun p hp => Heap.lt_size (N p hp).1
  refine codeAny_forLoop_any
    (fun k s' => ∃ h' tk m' nx i, s' = { s₁ with heap := h', toks := tk } ∧ h'.IsListIter s₁.heap.objs.size D i ∧ Fr h₀ env.locals h' m' ∧ News h₀ env.locals h' (keep ++ nx) ∧ (∀ p ∈ nx, p.1 ≠ s₁.heap.objs.size) ∧ J i m' nx ∧ i ≤ vs.length ∧ k = vs.length + 1 - i) ?_ (vs.length + 1)
    ⟨_, s₁.toks, m₀, nx₀, 0, rfl, ⟨_, Heap.get?_push_size _ rfl, rfl, rfl⟩, F.keeps up, N.grown up, fun p hp => Nat.ne_of_lt (hlt p (List.mem_append_right _ hp)), hj, Nat.zero_le _, rfl⟩
  rintro k s' ⟨h', tk, m', nx, i, rfl, hit, F', N', ho', hj', hi, rfl⟩
  have hk' : ∀ p ∈ keep, h'.get? p.1 = some p.2 := fun p hp => (N' p (List.mem_append_left _ hp)).1
  have hL' : h'.IsList D vs.toArray := hl _ F'.keep hk'
  have next : ∀ h₁ : Heap, (∀ b o, b ≠ s₁.heap.objs.size → h'.get? b = some o → h₁.get? b = some o) → Fr h₀ env.locals h₁ m' ∧ News h₀ env.locals h₁ (keep ++ nx) := fun h₁ hk₁ =>
    ⟨⟨F'.ns.at' fun o e => hk₁ _ o hIL e, fun b o e => hk₁ b o (fun q => by rw [q, hI0] at e; cases e) (F'.keep b o e), F'.above⟩, fun p hp => ⟨hk₁ _ _ (by
      rcases List.mem_append.mp hp with q | q
      · exact Nat.ne_of_lt (hlt p (List.mem_append_left _ q))
      · exact ho' p q) (N' p hp).1, (N' p hp).2⟩⟩
  cases hv : vs[i]? with
  | none =>
    have hin : i = vs.length := by have := List.getElem?_eq_none_iff.mp hv; omega
    subst hin
    refine wpAny_pyNext_list_end hh hit hL' (by simp) fun h₁ he₁ => wpAny_execs_nil ?_
    obtain ⟨F₁, N₁⟩ := next h₁ fun b o hb e => he₁ b o hb e
    exact done _ _ _ _ hj' F₁ N₁
  | some v =>
    have hlt' : i < vs.length := (List.getElem?_eq_some_iff.mp hv).1
    refine wpAny_pyNext_list_item hit hL' (x := v) (by simpa using hv) fun h₁ hit₁ hs₁ => ?_
    obtain ⟨F₁, N₁⟩ := next h₁ fun b o hb e => hs₁.extBut b o hb e
    obtain ⟨oI, heI, hcI, hdI⟩ := id hit₁
    have NI : News h₀ env.locals h₁ ((s₁.heap.objs.size, oI) :: (keep ++ nx)) := fun p hp => by
      rcases List.mem_cons.mp hp with rfl | hp
      · exact ⟨heI, Ne.symm hIL, hI0⟩
      · exact N₁ p hp
    refine lot_list (s := { s₁ with heap := h₁, toks := tk }) hit₁ ?_
    refine wpAny_mono (turn i v _ oI m' nx h₁ tk hv hj' (fun p hp => hlt p (List.mem_append_left _ hp)) (fun p hp => hlt p (List.mem_append_right _ hp)) ho' F₁ NI) (fun _ s₂ h₂ => wpAny_mono h₂ (fun f s₃ h₃ => ?_) fun _ _ e => e.elim) fun _ _ e => e.elim
    cases f with
    | ret v => exact h₃
    | brk => exact h₃
    | cont =>
      obtain ⟨h₃', tk₃, m₃, nx₃, rfl, F₃, N₃, ho₃, hj₃⟩ := h₃
      exact ⟨vs.length + 1 - (i + 1), by omega, h₃', tk₃, m₃, nx₃, i + 1, rfl, ⟨oI, (N₃ _ (.head _)).1, hcI, hdI⟩, F₃, fun p hp => N₃ p (.tail _ hp), ho₃, hj₃, hlt', rfl⟩
    | next =>
      obtain ⟨h₃', tk₃, m₃, nx₃, rfl, F₃, N₃, ho₃, hj₃⟩ := h₃
      exact ⟨vs.length + 1 - (i + 1), by omega, h₃', tk₃, m₃, nx₃, i + 1, rfl, ⟨oI, (N₃ _ (.head _)).1, hcI, hdI⟩, F₃, fun p hp => N₃ p (.tail _ hp), ho₃, hj₃, hlt', rfl⟩
end
end Mine

end
section
open PySem PySem.Calls PySem.W PyProof.Rows
set_option Elab.async false
set_option maxRecDepth 100000
set_option linter.unusedVariables false
namespace Mine
open LCg LCt
section
variable {prog : Program} {w : World} {A : Around} {E : Value → Shared → Prop} {s : Shared} {h₀ : Heap} {L : Addr} {m : Str → Option Value} {env : Env}
theorem compEnd_mono {s₁ s₂ : Shared} {I C D : Addr} {oI oC oD : Obj} {S : List (Addr × Obj) → Prop} {r r' : Value → List (Addr × Obj) → Prop} {y : Value} (f : ∀ y n, S n → r y n → r' y n)
    (h : CompEnd h₀ L m s₁ I oI C oC D oD S r y s₂) : CompEnd h₀ L m s₁ I oI C oC D oD S r' y s₂ :=
  let ⟨h', tk, n, e, a, b, c, d, x⟩ := h; ⟨h', tk, n, e, a, b, c, d, f _ _ d x⟩
/-- a comprehension with a test by what holds between its turns -/
theorem compT_inv {ct elt : PySem.Expr} {x : Str} {scope : Scope} {cl : List (Str × Addr)} {S : List (Addr × Obj) → Prop} {P : Nat → Value → Prop} {Fin : List Value → List (Addr × Obj) → Prop} {n : Nat}
    (J : Nat → List Value → List (Addr × Obj) → Prop)
    (step : ∀ i v ys news I oI C oC D m₂ h tk, i < n → P i v → J i ys news → NsObj oC m₂ → m₂ x = some v → Fr h₀ L h m → News h₀ L h ((I, oI) :: (C, oC) :: (D, lst ys) :: news) → Off3 I C D news → ((@Ne Nat I C) ∧ (@Ne Nat I D) ∧ (@Ne Nat C D)) →
      wpAny (model prog w) A (isTrue ct (compEnvC scope cl C env) (eval ct (compEnvC scope cl C env))) (fun ok s' => if ok = true then
        wpAny (model prog w) A (eval elt (compEnvC scope cl C env)) (CompEnd h₀ L m { s with heap := h, toks := tk } I oI C oC D (lst ys) S (fun y news' => J (i + 1) (ys ++ [y]) news')) (fun _ _ => False) s'
        else CompEnd h₀ L m { s with heap := h, toks := tk } I oI C oC D (lst ys) S (fun _ news' => J (i + 1) ys news') Value.none s') (fun _ _ => False) { s with heap := h, toks := tk })
    (fin : ∀ ys news, J n ys news → Fin ys news) : ∀ k i ys news, i + k = n → J i ys news → CompRestT prog w A h₀ L m env ct elt x scope cl s S P Fin k i ys news := by
  intro k
  induction k with
  | zero => intro i ys news e hj; simp only [Nat.add_zero] at e; subst e; exact CompRestT.zero (fin _ _ hj)
  | succ k ih =>
    intro i ys news e hj
    refine CompRestT.succ fun v I oI C oC D m₂ h tk E' hP hC hx F N off ne => ?_
    refine wpAny_mono (step i v ys news I oI C oC D m₂ h tk (by omega) hP hj hC hx F N off ne) (fun ok s' q => ?_) fun _ _ f => f.elim
    cases ok with
    | true =>
      simp only [if_true] at q ⊢
      exact wpAny_mono q (fun y s'' r => compEnd_mono (fun y n _ j => ih (i + 1) _ _ (by omega) j) r) fun _ _ f => f.elim
    | false =>
      simp only [Bool.false_eq_true, if_false] at q ⊢
      exact compEnd_mono (fun y n _ j => ih (i + 1) _ _ (by omega) j) q
/-- the same without a test -/
theorem compU_inv {elt : PySem.Expr} {x : Str} {scope : Scope} {cl : List (Str × Addr)} {S : List (Addr × Obj) → Prop} {P : Nat → Value → Prop} {Fin : List Value → List (Addr × Obj) → Prop} {n : Nat}
    (J : Nat → List Value → List (Addr × Obj) → Prop)
    (step : ∀ i v ys news I oI C oC D m₂ h tk, i < n → P i v → J i ys news → NsObj oC m₂ → m₂ x = some v → Fr h₀ L h m → News h₀ L h ((I, oI) :: (C, oC) :: (D, lst ys) :: news) → Off3 I C D news → ((@Ne Nat I C) ∧ (@Ne Nat I D) ∧ (@Ne Nat C D)) →
      wpAny (model prog w) A (eval elt (compEnvC scope cl C env)) (CompEnd h₀ L m { s with heap := h, toks := tk } I oI C oC D (lst ys) S (fun y news' => J (i + 1) (ys ++ [y]) news')) (fun _ _ => False) { s with heap := h, toks := tk })
    (fin : ∀ ys news, J n ys news → Fin ys news) : ∀ k i ys news, i + k = n → J i ys news → CompRest prog w A h₀ L m env elt x scope cl s S P Fin k i ys news := by
  intro k
  induction k with
  | zero => intro i ys news e hj; simp only [Nat.add_zero] at e; subst e; exact CompRest.zero (fin _ _ hj)
  | succ k ih =>
    intro i ys news e hj
    refine CompRest.succ fun v I oI C oC D m₂ h tk E' hP hC hx F N off ne => ?_
    exact wpAny_mono (step i v ys news I oI C oC D m₂ h tk (by omega) hP hj hC hx F N off ne) (fun y s' q => compEnd_mono (fun y n _ j => ih (i + 1) _ _ (by omega) j) q) fun _ _ f => f.elim

/-- a comprehension with a test over whatever walks -/
def SrcW (prog : Program) (w : World) (A : Around) (h₀ : Heap) (L : Addr) (m : Str → Option Value) (env : Env) (ct elt : PySem.Expr) (x : Str) (scope : Scope) (cl : List (Str × Addr)) (Q : Value → Shared → Prop) (it : Value) (s₂ : Shared) : Prop :=
  ∃ I fp n P St S news, it = .ref I ∧ Walks prog w A I fp [I] n P St ∧ n ≤ sizeLine ∧ (∀ i h, St i h → ∃ o, h.get? I = some o) ∧
    (∀ i (h h' : Heap) (o : Obj) (nw : List (Addr × Obj)), St i h → h.get? I = some o → h'.get? I = some o → (∀ b o, h₀.get? b = some o → h'.get? b = some o) → News h₀ L h' nw → S nw → St i h') ∧
    St 0 s₂.heap ∧ (∀ b ∈ fp, b < s₂.heap.objs.size) ∧ Fr h₀ L s₂.heap m ∧ News h₀ L s₂.heap news ∧ L ≠ I ∧ h₀.get? I = none ∧ (∀ p ∈ news, p.1 ≠ I) ∧ S news ∧
    CompRestT prog w A h₀ L m env ct elt x scope cl s₂ S P (FinE h₀ L m s₂ Q) n 0 [] news
theorem ListComp_W {ct elt iter : PySem.Expr} {x : Str} {px : Pos} {scope : Scope} {cl : List (Str × Addr)} {pos : Pos} {Q : Value → Shared → Prop}
    (hclos : closureFor scope env = pure cl) (hcell : ∀ y ∈ scope.names, y.2 ≠ .cell) (hkind : scope.kind = .function)
    (hnames : ∀ y ∈ scope.names, y.2 = .local → scope.names.lookup y.1 = some .local) (hx : scope.names.lookup x = some .local)
    (h : wpAny (model prog w) A (eval iter env) (fun xv s₁ => wpAny (model prog w) A (pyIter xv) (SrcW prog w A h₀ L m env ct elt x scope cl Q) E s₁) E s)
    (hs : ∀ x, foldedSetIterable iter env x = pure x := by intro _; rfl) :
    wpAny (model prog w) A (eval (.ListComp elt [⟨.Name x px, iter, [ct], 0⟩] scope pos) env) Q E s := by
  rw [eval_ListComp]
  refine wpAny_comprehension_free (use := none) rfl hs hclos hkind hnames (wpAny_mono h (fun xv s₁ h₁ => wpAny_mono h₁ (fun it s₂ h₂ => ?_) fun _ _ e => e) fun _ _ e => e)
  obtain ⟨I, fp, n, P, St, S, news, rfl, W, hsz, hIo, hSt, hst, hfp, F, N, hIL, hI₀, off, hS, R⟩ := h₂
  refine block_T W hsz hIo hSt hcell hkind hx hst hfp F N hIL hI₀ off hS R ?_
  intro D C h' tk m' ys news' F' N' o1 hn hC₀ hD₀ hCL hDL hCD offC fin
  refine ⟨m', hn, fun h'' hs'' => fin D h'' tk (F'.change hs'' hCL hC₀) (fun p hp => ?_) o1⟩
  refine ⟨hs''.extBut _ _ ?_ (N' p hp).1, (N' p hp).2⟩
  rcases List.mem_cons.mp hp with rfl | hp
  · exact Ne.symm hCD
  · exact offC p hp
end
end Mine

end
section
open PySem PySem.Calls PySem.W PyProof.Rows
set_option Elab.async false
set_option maxRecDepth 100000
set_option linter.unusedVariables false
namespace Mine
theorem fill2 : PySem.Challenge.rw_pb0155_01 = PySem.Challenge.rw_pb0155_01 ∧ Mine.hd.heap_39 = Mine.hd.heap_39 := by
  k_fill
  exact ⟨rfl, rfl⟩
local macro_rules | `(tactic| k_inst) => `(tactic| walk_at "own inst")
local macro_rules | `(tactic| size_fits) => `(tactic| walk_at "own fits")

local macro_rules | `(tactic| walk_at $s:str) => `(tactic| k_extra $s)
theorem row1_C2 : True := by
  k_with_none
  w_top off
  (k_with "le" => (first | exact le_fr (by with_reducible assumption) (by k_asm) | exact Fr.keep (by k_asm)))
  (k_with "fin" => (((try dsimp only); (try k_unfold); (try dsimp only); refine ⟨_, _, _, rfl, by k_asm, ?_⟩)))
  (k_with "leF" => (first | exact fun _ F9 _ => le_fr (by with_reducible assumption) F9 | exact fun _ F9 _ => Fr.keep F9))
  (k_with "own inst" => ((refine' inst_kn ?le ?h1 ?h2; (case h1 => with_reducible assumption); (case h2 => with_reducible assumption); (case le => walk_at "le"))))
  (k_with "enter" => ((
      refine' enter_pure (args := ⟨_, []⟩) ?k1 ?k2 ?k3 ?k5 ?kA ?kF ?kK ?k6 ?k7 ?k8 ?k9 ?kB ?_ ?c2 ?c3 ?c4 ?c5
      case kA => exact rfl
      case kF => exact rfl
      case kK => assumption
      case k1 => k_asm
      case k2 => k_asm
      case k3 => k_asm
      case k5 => k_asm
      case k6 => k_is
      case k7 => k_is
      case k8 => ktr_room
      case k9 => exact BindsTo.of_eq rfl
      case c5 => decide
      case kB => exact locs rfl
      case c2 => exact rfl
      case c3 => exact rfl
      case c4 => exact rfl)))
  (k_with "own fits" => (with_reducible assumption))
  (k_with "execs cons Assign cons" => (refine wpAny_execs_cons ?_))
  (k_with "exec For Name Call cons nil" => ((k_here; k_dflt (refine For_at ?_))))
  (k_with "newList" => ((k_here; k_dflt (refine' newList_K ?k1 ?k2 ?_; (case k1 => k_asm); (case k2 => k_asm); k_whole); intro l₀ hl₀ Fl₀ Nl₀ ll₀; (try k_lt ll₀); (try k_sweep))))
  (k_with "call builtin:sorted" => ((k_here; k_dflt (
      refine' sorted_tupD ?zqhh ?zqF ?zqN ?zqd ?zqp ?zqle ?zqlo ?zqn ?_
      case zqd => with_reducible assumption
      case zqp => with_reducible assumption
      case zqhh => exact rfl
      case zqF => k_asm
      case zqN => k_asm
      case zqle => walk_at "leF"
      case zqlo => with_reducible assumption
      case zqn => assumption
      intro D₁ h₁ tk₁ vs qs c₁ F₁ N₁ l₁ hR hP hW))))
  (k_with "call ref" => ((k_here; (with_reducible show wpAny _ _ (call (Value.ref 35) _) _ _ _); k_dflt (
      refine' use_pure ?F ?N (is_default_spec ?B ?F2 ?X ?T ?k ?d ?u ?V) ?_
      case F => k_asm
      case N => k_asm
      case B => k_asm
      case F2 => k_asm
      case X => k_asm
      case T => k_asm
      case k => first | exact rfl | assumption
      case d => ktr_room
      case u => ktr_units
      case V => exact VarsK.mono (by walk_at "le") (by k_asm)
      intro _ _ _ _ _ _
      rintro rfl
      (try k_sweep)))))
  (k_with "subscriptTail" => ((k_here; (with_reducible show wpAny _ _ (subscriptTail _ _ (Value.ref _) (Value.ref _)) _ _ _); k_dflt (
      refine' item_tup ?u ?d ?le ?k ?l ?_
      case d => with_reducible assumption
      case l => with_reducible assumption
      case u => ktr_units
      case le => walk_at "le"
      case k => exact KeyK.at (KeyK.mono (by walk_at "le") (by k_asm))))))
  trivial
/-- the pairs with a glyph of their own -/
def ownP (D : List (Int × List Int)) (O : List ((Int × Int) × Int)) (q : Int × Int) : Bool := decide ((lk O q).getD 0 ≠ 0) && !isDef D q.1 q.2
theorem lk_mem {β : Type} {O : List ((Int × Int) × β)} {q : Int × Int} (h : q ∈ O.map (·.1)) : ∃ g, lk O q = some g := by
  refine byC fun hG9 => ?_
  obtain ⟨x, hx, rfl⟩ := List.mem_map.mp h
  refine hG9 ?_
  clear hG9
  unfold lk
  cases hf : O.find? (fun y => decide (y.1 = x.1)) with
  | some y => exact ⟨_, rfl⟩
  | none => exact absurd (by simp) (List.find?_eq_none.mp hf x hx)

section
variable {prog : Program} {w : World} {A₀ : Around} {E : Value → Shared → Prop} {s : Shared} {base h₀ : Heap} {L : Addr} {m : Str → Option Value}
  {p : Program} {loose : List Str} {mean : ExcName → Option Value} {mg mb : Str → Option Value} {dp un : Nat} {gd : Option (List Code)} {cn : Str} {cs : Scope} {ca : Addr} {ccd : Value} {cl : List (Str × Addr)} {outer : List Env}

inductive OwnP (prog : Program) (w : World) (κ : Kn) (D : List (Int × List Int)) (O : List ((Int × Int) × Int)) (s : Shared) (r : Value) (h' : Heap) : Prop where
  | mk (a : Addr) (ws : List Value) (ps : List (Int × Int)) (n : Nat)
      (h0 : r = .ref a)
      (h1 : s.heap.get? a = none)
      (h2 : h'.get? a = some (W.listOf ws.toArray n))
      (h3 : R2 (RefV prog w κ) ws ps)
      (h4 : ps.Perm ((O.map (·.1)).filter (ownP D O)))
      (h5 : ps.Pairwise (fun a b => ltP a b = true)) : OwnP prog w κ D O s r h'
set_option maxHeartbeats 4000000 in
theorem own_pairs_spec {v : Addr} {D : List (Int × List Int)} {O : List ((Int × Int) × Int)}
    (B : Below A₀ base outer h₀) (F : Fr h₀ L s.heap m) (X : (Mine.hd.heap_39 w.params).In h₀) (T : Top p loose mean mg mb h₀) (hk : cs.kind = .function)
    (hd : dp + 10 < recursionLimit) (hu : un + 80 < cLine) {κ : Kn} (hκ : Kn.le κ (kn s.heap)) (V : VarsK prog w κ v D O) (h6 : O.length ≤ 6) :
    wpAny (model prog w) (ktrTop dp un gd cn cs L ca ccd cl outer) (call (.ref 42) [.ref v])
      (Pure1 s fun r h' => OwnP prog w κ D O s r h') E s := by
  have V' := V
  refine byC fun hG9 => ?_
  obtain ⟨dd, oo, dx, t1, t2, n, h1, h2, -, ⟨lo, xs, hD, R⟩⟩ := V'
  refine hG9 ?_
  clear hG9
  have hxp : xs.map (·.1) = (O.map (·.1)).map kp := by
    clear hD
    clear V h6
    induction R with
    | nil => rfl
    | cons h _ ih => simpa [h.1] using ih
  have h6' : (O.map (·.1)).length ≤ 6 := by simpa using h6
  walk_at "enter"
  intro L' h' F' N' B' X' T'
  clear B F X T
  (try dsimp only)
  show wpAny _ _ _ _ _ _
  (try k_fold)
  refine letA ?_
  intro A9 hAu hAd
  simp only [units_deeper, depth_deeper] at hAu hAd
  (try dsimp only [ktrTop] at hAu hAd)
  k_steps
  refine ⟨_, D₁, vs, [(D₁, W.listOf vs.toArray c₁)], [(l₀, W.listOf #[] 0)], ?m₀, fun i m nx => ∃ u n ws ps, m = (fun y => if y = Str.ofString "pair" then u else ?m₀ y) ∧ nx = [(l₀, W.listOf ws.toArray n)] ∧ ws.length ≤ i ∧
    R2 (RefV prog w κ) ws ps ∧ ps = (qs.take i).filter (ownP D O), rfl, rfl, by k_asm, by k_asm, ?_, ?_, ?_, ?_⟩
  · intro h _ hkeep
    exact ⟨_, hkeep _ (.head _), rfl, _, rfl⟩
  · exact ⟨_, 0, [], [], upd_self _ (Str.ofString "pair"), rfl, Nat.le_refl _, .nil, rfl⟩
  · rintro i v I oI m₁ nx h tk hv hJ99 hI1 hI2 hI3 F₂ N₂
    refine byC fun hG9 => ?_
    obtain ⟨u, n, ws, ps, rfl, rfl, hlen, hws, rfl⟩ := hJ99
    obtain ⟨q, hq, a, rfl, hka⟩ := hR.get hv
    refine hG9 ?_
    clear hG9
    have hqO : q ∈ O.map (·.1) := hP.mem_iff.mp (List.mem_of_getElem? hq)
    refine byC fun hG9 => ?_
    obtain ⟨g, hg⟩ := lk_mem hqO
    refine hG9 ?_
    clear hG9
    rcases R.lookH q with ⟨-, e2⟩ | ⟨ax, r, b, e1, e2, t, e3⟩
    · rw [e2] at hg; cases hg
    clear hg
    have htk : qs.take (i + 1) = qs.take i ++ [q] := by rw [List.take_add_one, hq]; rfl
    refine byC fun hG9 => ?_
    obtain ⟨ok, t3, t4, n3, hok, hcl, hdt⟩ := key_items (hka.mono hκ)
    refine hG9 ?_
    clear hG9
    have ht : IsTup s.heap a #[.int q.1 t3, .int q.2 t4] := ⟨_, hok, hcl, _, hdt⟩
    dsimp only [List.cons_append, List.nil_append] at N₂
    subst e3
    k_lt l₁
    k_lt hI1
    k_lt hI2
    have hi7 : i < qs.length := (List.getElem?_eq_some_iff.mp hq).1
    have hq6 : qs.length ≤ 6 := by rw [hP.length_eq]; exact h6'
    have hz9 : ws.toArray.size ≤ sizeLine := by rw [List.size_toArray, sizeLine_eq]; omega
    have hoff : ∀ (o : Obj), ∀ p ∈ [(l₀, o)], p.1 ≠ I := fun o p hp => by
      rcases List.mem_singleton.mp hp with rfl
      exact Nat.ne_of_lt hI2
    (try (show wpAny _ _ _ _ _ _; k_fold))
    k_steps
    · refine TurnEnd.next (nx := [(l₀, _)]) (by k_asm) (by k_asm) (fun _ h => h) (hoff _) ⟨_, _, _, _, upd_upd _ _ _ _, rfl, Nat.le_succ_of_le hlen, hws, ?_⟩
      have e9 : ownP D O q = false := by simp [ownP, *]
      rw [htk, List.filter_append]
      simp [e9]
    · refine TurnEnd.next (nx := [(l₀, _)]) (by k_asm) (by k_asm) (fun _ h => h) (hoff _) ⟨_, n + 1, ws ++ [.ref a], _, upd_upd _ _ _ _, by simp, by simpa using hlen, hws.append (.cons ⟨a, rfl, hka⟩ .nil), ?_⟩
      have e9 : ownP D O q = true := by simp [ownP, *]
      rw [htk, List.filter_append]
      simp [e9]
    · refine TurnEnd.next (nx := [(l₀, _)]) (by k_asm) (by k_asm) (fun _ h => h) (hoff _) ⟨_, _, _, _, upd_upd _ _ _ _, rfl, Nat.le_succ_of_le hlen, hws, ?_⟩
      have e9 : ownP D O q = false := by simp [ownP, *]
      rw [htk, List.filter_append]
      simp [e9]
  · rintro m₁ nx h tk hJ94 F₂ N₂
    refine byC fun hG9 => ?_
    obtain ⟨u, n, ws, ps, rfl, rfl, hlen, hws, rfl⟩ := hJ94
    refine hG9 ?_
    clear hG9
    rw [List.take_of_length_le (by rw [hR.length]; exact Nat.le_refl _)] at hws
    dsimp only
    (try (show wpAny _ _ _ _ _ _; k_fold))
    k_steps
    walk_at "fin"
    exact ⟨_, _, _, _, rfl, News.fresh (by k_asm) (.tail _ (.head _)), News.get (by k_asm) (.tail _ (.head _)), hws, hP.filter _, hW.filter _⟩
end
end Mine


end
open PySem PySem.Calls PySem.W PyProof.Rows
open LCg LCt
set_option maxRecDepth 100000
set_option linter.unusedVariables false
set_option linter.unusedSimpArgs false
namespace Mine
local macro_rules | `(tactic| walk_at $s:str) => `(tactic| k_extra $s)
section
theorem News.sub {h₀ h : Heap} {L : Addr} {big small : List (Addr × Obj)} (N : News h₀ L h big) (hs : ∀ q ∈ small, q ∈ big) : News h₀ L h small := fun q hq => N q (hs q hq)
def Hold (p : Prop) : Prop := p
theorem hold {p : Prop} (h : Hold p) : p := h
theorem intsGet : ∀ {vs : List Value} {ns : List Int}, IntsAre vs ns → ∀ {i : Nat} {v : Value}, vs[i]? = some v → ∃ n t, v = .int n t ∧ ns[i]? = some n
  | _, _, .nil, i, v, e => by simp at e
  | _, _, .cons n t _, 0, v, e => by simp at e; subst e; exact ⟨n, t, rfl, rfl⟩
  | _, _, .cons _ _ h, i + 1, v, e => by simpa using intsGet h (i := i) (by simpa using e)
theorem News.grew {h₀ h h' : Heap} {L a : Addr} {o : Obj} {m : Str → Option Value} {news : List (Addr × Obj)} (F : Fr h₀ L h m) (N : News h₀ L h' news) (hn : h.get? a = none) (ho : h'.get? a = some o) : News h₀ L h' ((a, o) :: news) := by
  intro p hp
  rcases List.mem_cons.mp hp with rfl | hp
  · refine ⟨ho, fun e => ?_, ?_⟩
    · obtain ⟨o', es, ep, e1, _⟩ := F.ns
      rw [← e] at e1
      simp only [hn] at e1; cases e1
    · cases e : h₀.get? a with
      | none => rfl
      | some o' => have := F.keep _ _ e; rw [hn] at this; cases this
  · exact N p hp
section
variable {prog : Program} {w : World} {A : Around} {E : Value → Shared → Prop} {s : Shared} {κ : Kn}
theorem truthy_row {t : Addr} {row : List Int} {Q : Bool → Shared → Prop} (hr : RowK κ t row) (le : Kn.le κ (kn s.heap)) (hz : row.length ≤ 8)
    (h : Q (decide (row ≠ [])) { s with toks := s.toks + 1 + 1 }) : wpAny (model prog w) A (truthy (.ref t)) Q E s := by
  obtain ⟨vs, tv, iv⟩ := hr
  have hl := iv.length
  refine truthy_tuple (tv.mono le).at (by rw [List.size_toArray, hl]; omega) ?_
  have : (!vs.toArray.isEmpty) = decide (row ≠ []) := by
    cases iv <;> simp
  rw [this]; exact h
theorem tup_row {t : Addr} {row : List Int} {Q : Value → Shared → Prop} (hr : RowK κ t row) (le : Kn.le κ (kn s.heap)) (h : Q (.ref t) s) : wpAny (model prog w) A (call (.type "tuple") [.ref t]) Q E s := by
  obtain ⟨vs, tv, iv⟩ := hr
  exact call_tuple_tup (tv.mono le).at h
end


end
local macro_rules | `(tactic| k_ne) => `(tactic| walk_at "own ne")
local macro_rules | `(tactic| k_inst) => `(tactic| walk_at "own inst")
local macro_rules | `(tactic| size_fits) => `(tactic| walk_at "own fits")
local macro_rules | `(tactic| k_all) => `(tactic| walk_at "own all")
theorem rows_C3 : True := by
  k_with_none
  w_top off
  (k_with "own tail" => (first | ((repeat apply List.Mem.tail); first | exact hp | exact List.mem_append_left _ hp | exact List.mem_append_right _ hp) | (simp only [List.mem_cons, List.mem_append, List.not_mem_nil, or_false] at hp ⊢; grind)))
  (k_with "own subs" => (((try dsimp only [List.cons_append, List.nil_append]); (repeat (refine List.forall_mem_cons.mpr ⟨?_, ?_⟩; (· ((repeat (first | with_reducible exact List.Mem.head _ | refine List.Mem.tail _ ?_)); done)))); intro p hp; first | exact absurd hp List.not_mem_nil | ((repeat apply List.Mem.tail); first | exact hp | exact List.mem_append_left _ hp | exact List.mem_append_right _ hp) | (simp only [List.mem_cons, List.mem_append, List.not_mem_nil, or_false] at hp ⊢; grind))))
  (k_with "own ne" => ((refine neN ?_; (try dsimp only); first | assumption | exact Ne.symm (by assumption) | exact Nat.ne_of_lt (by assumption) | exact Nat.ne_of_gt (by assumption) | exact And.left (by assumption) | exact And.left (And.right (by assumption)) | exact And.right (And.right (by assumption)) | exact Ne.symm (And.left (by assumption)) | exact Ne.symm (And.left (And.right (by assumption))) | exact Ne.symm (And.right (And.right (by assumption))) | ((repeat (rename @Ne _ _ _ => hne9; clear hne9)); (repeat (rename And (@Ne _ _ _) _ => hne9; clear hne9)); omega))))
  (k_with "le" => (first | (refine' le_fr ?zla ?zlb; (case zlb => k_asm); (case zla => with_reducible assumption)) | exact Fr.keep (by k_asm)))
  (k_with "fin" => (((try dsimp only); (try k_unfold); (try dsimp only); refine ⟨_, _, _, rfl, by k_asm, ?_⟩)))
  (k_with "leF" => (first | exact fun _ F9 _ => le_fr (by with_reducible assumption) F9 | exact fun _ F9 _ => Fr.keep F9))
  (k_with "own inst" => ((refine' inst_kn ?le ?h1 ?h2; (case h1 => with_reducible assumption); (case h2 => with_reducible assumption); (case le => walk_at "le"))))
  (k_with "own fits" => (with_reducible assumption))
  (k_with "execs cons Assign cons" => (refine wpAny_execs_cons ?_))
  (k_with "exec For Name Call cons nil" => ((k_here; k_dflt (refine For_at ?_))))
  (k_with "getMethod ref" => ((k_here; first
      | (refine' getm_int ?d ?le ?_; (case d => with_reducible assumption); (case le => walk_at "le"))
      | (refine' getm_tup ?d ?le ?_; (case d => with_reducible assumption); (case le => walk_at "le")))))
  (k_with "key" => (exact key2 (by k_asm) (by k_mem)))
  (k_with "call builtin:dict.get" => ((k_here; first
      | (refine' get2_int ?d ?le ?lo ?_; (case d => with_reducible assumption); (case lo => with_reducible assumption); (case le => walk_at "le"))
      | (refine' get2_tup ?u ?d ?le ?lo ?k ?_; (case d => with_reducible assumption); (case lo => with_reducible assumption); (case u => ktr_units); (case le => walk_at "le"); (case k => walk_at "key")))))
  (k_with "enterC" => ((
      refine' enter_cells (args := ⟨_, []⟩) ?k1 ?k2 ?k3 ?k5 ?kA ?kF ?kK ?k6 ?k7 ?k8 ?k9 ?kB ?kD ?_ ?c2 ?c3 ?c4
      case kA => exact rfl
      case kF => exact rfl
      case kK => assumption
      case k1 => k_asm
      case k2 => k_asm
      case k3 => k_asm
      case k5 => k_asm
      case k6 => k_is
      case k7 => k_is
      case k8 => ktr_room
      case k9 => exact BindsTo.of_eq rfl
      case kB => exact rfl
      case kD => decide +kernel
      case c2 => exact rfl
      case c3 => exact rfl
      case c4 => exact rfl)))
  (k_with "enter" => ((
      refine' enter_pure (args := ⟨_, []⟩) ?k1 ?k2 ?k3 ?k5 ?kA ?kF ?kK ?k6 ?k7 ?k8 ?k9 ?kB ?_ ?c2 ?c3 ?c4 ?c5
      case kA => exact rfl
      case kF => exact rfl
      case kK => assumption
      case k1 => k_asm
      case k2 => k_asm
      case k3 => k_asm
      case k5 => k_asm
      case k6 => k_is
      case k7 => k_is
      case k8 => ktr_room
      case k9 => exact BindsTo.of_eq rfl
      case c5 => decide
      case kB => exact locs rfl
      case c2 => exact rfl
      case c3 => exact rfl
      case c4 => exact rfl)))
  (k_with "newList" => ((k_here; k_dflt (refine' newList_K ?k1 ?k2 ?_; (case k1 => k_asm); (case k2 => k_asm); k_whole); intro l₀ hl₀ Fl₀ Nl₀ ll₀; (try k_lt ll₀); (try k_sweep))))
  (k_with "newTuple" => ((k_here; k_dflt (refine' kup_newTuple ?zqk1 ?zqk2 ?_ ?zqk3; (case zqk1 => k_asm); (case zqk2 => k_asm); (case zqk3 => exact Nat.le_of_ble_eq_true rfl)); intro t₀ ht₀ Ft₀ Nt₀ lt₀; (try k_lt lt₀); (try k_sweep))))
  (k_with "call builtin:sorted" => ((k_here; k_dflt (
      refine' sorted_intD ?zqhh ?zqF ?zqN ?zqd ?zqle ?zqlo ?zqn ?_
      case zqd => with_reducible assumption
      case zqhh => exact rfl
      case zqF => k_asm
      case zqN => k_asm
      case zqle => walk_at "le"
      case zqlo => with_reducible assumption
      case zqn => with_reducible assumption
      intro D₁ h₁ tk₁ vs ns c₁ F₁ N₁ l₁ hI hP hW))))
  (k_with "call builtin:sorted" => ((k_here; k_dflt (
      refine' sorted_tupD ?zqhh ?zqF ?zqN ?zqd ?zqp ?zqle ?zqlo ?zqn ?_
      case zqd => with_reducible assumption
      case zqp => with_reducible assumption
      case zqhh => exact rfl
      case zqF => k_asm
      case zqN => k_asm
      case zqle => walk_at "leF"
      case zqlo => with_reducible assumption
      case zqn => assumption
      intro D₁ h₁ tk₁ vs qs c₁ F₁ N₁ l₁ hR hP hW))))
  (k_with "subscriptTail" => ((k_here; (with_reducible show wpAny _ _ (subscriptTail _ _ (Value.ref _) (Value.ref _)) _ _ _); k_dflt (
      refine' item_tup ?u ?d ?le ?k ?l ?_
      case d => with_reducible assumption
      case l => with_reducible assumption
      case u => ktr_units
      case le => walk_at "le"
      case k => (refine' KeyK.at (KeyK.mono ?zle ?zk); (case zk => with_reducible assumption); (case zle => walk_at "le"))))))
  (k_with "subscriptTail" => ((k_here; (with_reducible show wpAny _ _ (subscriptTail _ _ (Value.ref _) (Value.int _ _)) _ _ _); k_dflt (
      refine' item_int ?d ?le ?l ?_
      case d => with_reducible assumption
      case l => with_reducible assumption
      case le => walk_at "le"))))
  (k_with "compareOp In int ref" => ((k_here; k_dflt (
      refine' in_int ?d ?le ?lo ?_
      case d => with_reducible assumption
      case lo => with_reducible assumption
      case le => walk_at "le"))))
  (k_with "compareOp NotIn int ref" => ((k_here; k_dflt (
      refine' notin_int ?d ?le ?lo ?_
      case d => with_reducible assumption
      case lo => with_reducible assumption
      case le => walk_at "le"))))
  (k_with "truthy ref" => ((k_here; k_dflt (
      refine' truthy_row ?r ?le ?z ?_
      case r => with_reducible assumption
      case z => with_reducible assumption
      case le => walk_at "le"))))
  (k_with "call type:tuple" => ((k_here; (with_reducible show wpAny _ _ (call (Value.type _) [Value.ref _]) _ _ _); k_dflt (
      refine' tup_row ?r ?le ?_
      case r => with_reducible assumption
      case le => walk_at "le"))))
  (k_with "call type:tuple" => ((k_here; (with_reducible show wpAny _ _ (call (Value.type _) [Value.ref _]) _ _ _); k_dflt (
      refine' kde_tupleOf ?k1 ?k2 ?k3 ?k4 ?k5 ?_
      case k1 => k_asm
      case k2 => k_asm
      case k3 => exact News.isList (by k_asm) (by k_mem)
      case k4 => with_reducible assumption
      case k5 => exact rfl
      intro t₅ h₅ F₅ N₅ l₅
      (try k_lt l₅)))))
  (k_with "call ref" => ((k_here; (with_reducible show wpAny _ _ (call (Value.ref 35) _) _ _ _); k_dflt (
      refine' use_pure ?F ?N (is_default_spec ?B ?F2 ?X ?T ?k ?d ?u ?V) ?_
      case F => k_asm
      case N => k_asm
      case B => k_asm
      case F2 => k_asm
      case X => k_asm
      case T => k_asm
      case k => first | exact rfl | assumption
      case d => ktr_room
      case u => ktr_units
      case V => (refine' VarsK.mono ?zle ?zk; (case zk => with_reducible assumption); (case zle => walk_at "le"))
      intro _ _ _ _ _ _
      rintro rfl
      (try k_sweep)))))
  (k_with "call ref" => ((k_here; (with_reducible show wpAny _ _ (call (Value.ref 42) _) _ _ _); k_dflt (
      refine' use_pure ?zqF ?zqN (own_pairs_spec ?zqB ?zqF2 ?zqX ?zqT ?zqk ?zqd ?zqu ?zqK ?zqV ?zq6) ?_
      case zqF => k_asm
      case zqN => k_asm
      case zqB => k_asm
      case zqF2 => k_asm
      case zqX => k_asm
      case zqT => k_asm
      case zqk => first | exact rfl | assumption
      case zqd => ktr_room
      case zqu => ktr_units
      case zqV => with_reducible assumption
      case zqK => walk_at "le"
      case zq6 => with_reducible assumption
      intro r₂ h₂ tk₂ F₂ N₂ G₂ P₂
      obtain ⟨a₂, ws₂, ps₂, n₂, e₂, f₂, g₂, hR₂, hP₂, hW₂⟩ := P₂
      subst e₂
      have N₂' := News.grew (by k_asm) N₂ f₂ g₂))))
  (k_with "eval ListComp" => ((k_here; (with_reducible show wpAny _ _ (eval (Expr.ListComp _ [⟨_, _, [], _⟩] _ _) _) _ _ _); k_dflt (refine LCg.ListComp_U (F₀ := by k_asm) (by with_unfolding_all rfl) (by decide) (by rfl) (by decide) (by rfl) ?_))))
  (k_with "eval ListComp" => ((k_here; (with_reducible show wpAny _ _ (eval (Expr.ListComp _ [⟨_, _, [_], _⟩] _ _) _) _ _ _); k_dflt (refine LCt.ListComp_T (F₀ := by k_asm) (by with_unfolding_all rfl) (by decide) (by rfl) (by decide) (by rfl) ?_))))
  (k_with "own all" => (first | with_reducible assumption | (refine List.forall_mem_append.mpr ⟨?_, ?_⟩ <;> k_all)))
  (k_with "exec For Tuple Call cons nil" => ((k_here; k_dflt (refine For_at ?_))))
  trivial
section
theorem row1_C3 : True := by
  (k_with "exec Assign cons ListComp" => ((k_here; k_dflt (refine LCt.Assign_ListComp_T (F₀ := by k_asm) (by rfl) (by with_unfolding_all rfl) (by with_unfolding_all rfl) (by decide) (by rfl) (by decide) (by rfl) (by rfl) (by rfl) ?_))))
  trivial
def RowD (κ : Kn) (v : Value) (d : Int × List Int) : Prop := ∃ a t r, v = .ref a ∧ TupK κ a [.int d.1 t, .ref r] ∧ RowK κ r d.2
def PairD (prog : Program) (w : World) (κ : Kn) (v : Value) (d : (Int × Int) × Int) : Prop := ∃ a t r, v = .ref a ∧ TupK κ a [.ref r, .int d.2 t] ∧ KeyK prog w κ (kp d.1) r
inductive ToldK (prog : Program) (w : World) (κ : Kn) (v : Value) (rows : List (Int × List Int)) (pairs : List ((Int × Int) × Int)) : Prop where
  | mk (a r1 r2 : Addr) (vs1 vs2 : List Value)
      (h0 : v = .ref a)
      (h1 : TupK κ a [.ref r1, .ref r2])
      (h2 : TupK κ r1 vs1)
      (h3 : R2 (RowD κ) vs1 rows)
      (h4 : TupK κ r2 vs2)
      (h5 : R2 (PairD prog w κ) vs2 pairs) : ToldK prog w κ v rows pairs
def rowAt (D : List (Int × List Int)) (k : Int) : Option (Int × List Int) := if (lk D k).getD [] = [] then none else some (k, (lk D k).getD [])
def rowsOf (D : List (Int × List Int)) (ks : List Int) : List (Int × List Int) := ks.filterMap (rowAt D)
def pairsOfQ (O : List ((Int × Int) × Int)) (ps : List (Int × Int)) : List ((Int × Int) × Int) := ps.map fun q => (q, (lk O q).getD 0)
theorem rows_succ {D : List (Int × List Int)} {ns : List Int} {i : Nat} {k : Int} (h : ns[i]? = some k) : rowsOf D (ns.take (i + 1)) = rowsOf D (ns.take i) ++ (rowAt D k).toList := by
  rw [List.take_add_one, h, rowsOf, rowsOf, List.filterMap_append]
  simp only [Option.toList, List.filterMap_cons, List.filterMap_nil]
  cases rowAt D k <;> rfl
theorem valueAt_some_of_mem {kvs : List (Int × Value)} {x : Int × Value} (h : x ∈ kvs) : ∃ y, valueAt kvs x.1 = some y := by
  unfold valueAt
  cases hf : kvs.find? (fun y => decide (y.1 = x.1)) with
  | some y => exact ⟨_, rfl⟩
  | none => exact absurd (by simp) (List.find?_eq_none.mp hf x h)
theorem lk_some_mem {α β : Type} [DecidableEq α] {O : List (α × β)} {q : α} {g : β} (h : lk O q = some g) : (q, g) ∈ O := by
  unfold lk at h
  refine byC fun hG9 => ?_
  obtain ⟨x, hx, rfl⟩ := Option.map_eq_some_iff.mp h
  refine hG9 ?_
  clear hG9
  have h1 := List.find?_some hx
  have h2 := List.mem_of_find?_eq_some hx
  simp at h1
  rw [← h1]; exact h2
theorem RowD.mono {κ κ' : Kn} (le : Kn.le κ κ') {v d} (h : RowD κ v d) : RowD κ' v d := let ⟨a, t, r, e, x, y⟩ := h; ⟨a, t, r, e, x.mono le, y.mono le⟩
theorem PairD.mono {prog : Program} {w : World} {κ κ' : Kn} (le : Kn.le κ κ') {v d} (h : PairD prog w κ v d) : PairD prog w κ' v d := let ⟨a, t, r, e, x, y⟩ := h; ⟨a, t, r, e, x.mono le, y.mono le⟩
theorem ToldK.mono {prog : Program} {w : World} {κ κ' : Kn} (le : Kn.le κ κ') {v x y} (h : ToldK prog w κ v x y) : ToldK prog w κ' v x y :=
  let ⟨a, r1, r2, vs1, vs2, e, p, q, r, s, t⟩ := h; ⟨a, r1, r2, vs1, vs2, e, p.mono le, q.mono le, r.imp fun _ _ z => z.mono le, s.mono le, t.imp fun _ _ z => z.mono le⟩

section
variable {prog : Program} {w : World} {A₀ : Around} {E : Value → Shared → Prop} {s : Shared} {base h₀ : Heap} {L : Addr} {m : Str → Option Value}
  {p : Program} {loose : List Str} {mean : ExcName → Option Value} {mg mb : Str → Option Value} {dp un : Nat} {gd : Option (List Code)} {cn : Str} {cs : Scope} {ca : Addr} {ccd : Value} {cl : List (Str × Addr)} {outer : List Env}

inductive ToldP (prog : Program) (w : World) (κ : Kn) (D : List (Int × List Int)) (O : List ((Int × Int) × Int)) (s : Shared) (r : Value) (h' : Heap) : Prop where
  | mk (tl : List (Addr × Obj)) (ks : List Int) (ps : List (Int × Int))
      (h0 : (∀ q ∈ tl, h'.get? q.1 = some q.2 ∧ s.heap.get? q.1 = none))
      (h1 : ToldK prog w (κ.add tl) r (rowsOf D ks) (pairsOfQ O ps))
      (h2 : ks.Perm (D.map (·.1)))
      (h3 : ks.Pairwise (· ≤ ·))
      (h4 : ps.Perm ((O.map (·.1)).filter (ownP D O)))
      (h5 : ps.Pairwise (fun a b => ltP a b = true)) : ToldP prog w κ D O s r h'
set_option maxHeartbeats 4000000 in
theorem told_spec {v : Addr} {D : List (Int × List Int)} {O : List ((Int × Int) × Int)} {κ : Kn} 
    (B : Below A₀ base outer h₀) (F : Fr h₀ L s.heap m) (X : (Mine.hd.heap_39 w.params).In h₀) (T : Top p loose mean mg mb h₀) (hk : cs.kind = .function)
    (hd : dp + 20 < recursionLimit) (hu : un + 160 < cLine) (hκ : Kn.le κ (kn s.heap)) (V : VarsK prog w κ v D O) (h6 : O.length ≤ 6) (h7 : D.length ≤ 3) (h5 : ∀ d ∈ D, d.2.length ≤ 8) :
    wpAny (model prog w) (ktrTop dp un gd cn cs L ca ccd cl outer) (call (.ref 47) [.ref v])
      (Pure1 s fun r h' => ToldP prog w κ D O s r h') E s := by
  have V' := V
  refine byC fun hG9 => ?_
  obtain ⟨dd, oo, dx, t1, t2, n, h1, h2, ⟨lo, kvs, hD, R⟩, ⟨lo', xs, hO, R'⟩⟩ := V'
  refine hG9 ?_
  clear hG9
  have hkl : kvs.length < 64 := by rw [R.length]; omega
  walk_at "enterC"
  intro L' h' tk' cells' F' N' Y' B' X' T'
  clear B F X T
  k_cells Y'
  rename_i oS dS
  replace dS : oS.data = Data.cell (some (.ref v)) := dS
  simp only [List.cons_append, List.nil_append, List.append_nil] at N'
  (try dsimp only)
  show wpAny _ _ _ _ _ _
  (try k_fold)
  refine letA ?_
  intro A9 hAu hAd
  simp only [units_deeper, depth_deeper] at hAu hAd
  (try dsimp only [ktrTop] at hAu hAd)
  k_steps
  have hz8 : vs.toArray.size ≤ sizeLine := by rw [List.size_toArray, hI.length, hP.length_eq, List.length_map, sizeLine_eq]; omega
  refine LCt.CompSrcT.ledger rfl (by k_asm) (by k_asm) (by k_mem) hz8 ?_
  intro g
  refine compT_inv (n := vs.toArray.size) (fun i ys nx => ∃ tl, nx = (D₁, W.listOf vs.toArray c₁) :: (L' + 1, oS) :: tl ∧ R2 (RowD (κ.add tl)) ys (rowsOf D (ns.take i))) ?_ ?_ _ 0 [] _ (Nat.zero_add _) ⟨[], rfl, .nil⟩
  · rintro i v₁ ys nx I oI C oC D₂ m₂ h tk hi hv hJ914 hC hm F₂ N₂ off ne
    refine byC fun hG9 => ?_
    obtain ⟨tl, rfl, hys⟩ := hJ914
    obtain ⟨k, t₁, rfl, hk1⟩ := intsGet hI (by simpa using hv)
    refine hG9 ?_
    clear hG9
    have hkD := hP.mem_iff.mp (List.mem_of_getElem? hk1)
    refine byC fun hG9 => ?_
    obtain ⟨ne1, ne2, ne3⟩ := ne
    refine hG9 ?_
    clear hG9
    rcases R.look k with ⟨e1, e2⟩ | ⟨x, row, e1, e2, r, rfl, hr⟩
    · obtain ⟨x, hx, rfl⟩ := List.mem_map.mp hkD
      exact absurd e1 (by obtain ⟨y, hy⟩ := valueAt_some_of_mem hx; rw [hy]; simp)
    have hr8 : row.length ≤ 8 := h5 _ (lk_some_mem e2)
    refine byC fun hG9 => ?_
    obtain ⟨o1, o2, o3⟩ := off
    refine hG9 ?_
    clear hG9
    (try (show wpAny _ _ _ _ _ _; k_fold))
    k_steps
    · (try k_unfold)
      refine CompEnd.intro (by k_asm) (by k_asm) ((D₁, W.listOf vs.toArray c₁) :: (L' + 1, oS) :: (t₀, { cls := .type "tuple", data := .seq #[.int k t₁, .ref r] }) :: tl) (fun q hq => ?_)
        ⟨o1, o2, ⟨Nat.ne_of_gt lt₀.1, Nat.ne_of_gt lt₀.2.1, Nat.ne_of_gt lt₀.2.2.1⟩, o3⟩ (.inr ⟨_, .head _, rfl, _, rfl⟩) ⟨(t₀, _) :: tl, rfl, ?_⟩
      · revert q; walk_at "own subs"
      · rw [rows_succ hk1, show rowAt D k = some (k, row) by simp [rowAt, *]]
        exact (hys.imp fun _ _ => RowD.mono (Kn.add_mono (fun _ _ x => x) fun _ x => .tail _ x)).append (.cons ⟨t₀, _, r, rfl, ⟨_, _, .inr (.head _), rfl, rfl⟩, hr.mono (Kn.le_add _ _)⟩ .nil)
    · refine CompEnd.intro (by k_asm) (by k_asm) ((D₁, W.listOf vs.toArray c₁) :: (L' + 1, oS) :: tl) (fun q hq => hq) ⟨o1, o2, o3⟩ (.inr ⟨_, .head _, rfl, _, rfl⟩) ⟨tl, rfl, ?_⟩
      rw [rows_succ hk1, show rowAt D k = none by simp [rowAt, *]]
      simpa using hys
  · rintro ys nx hJ92
    refine byC fun hG9 => ?_
    obtain ⟨tl, rfl, hys⟩ := hJ92
    refine hG9 ?_
    clear hG9
    rw [List.take_of_length_le (by rw [List.size_toArray, hI.length]; exact Nat.le_refl _)] at hys
    intro D₃ h₃ tk₃ F₃ N₃ off₃
    have hkeys : kvs.map (·.1) = D.map (·.1) := R.keys
    rw [hkeys] at hP
    have hz9 : ys.toArray.size ≤ 16384 := by
      rw [List.size_toArray, hys.length]
      have hA : (rowsOf D ns).length ≤ ns.length := List.length_filterMap_le _ _
      rw [hP.length_eq, List.length_map] at hA; omega
    (try (show wpAny _ _ _ _ _ _; k_fold))
    k_steps
    have hpl : ps₂.length ≤ 6 := by rw [hP₂.length_eq]; exact Nat.le_trans (List.length_filter_le _ _) (by simpa using h6)
    have hz7 : ws₂.toArray.size ≤ sizeLine := by rw [List.size_toArray, hR₂.length, sizeLine_eq]; omega
    have hpO : ∀ q ∈ ps₂, q ∈ O.map (·.1) := fun q hq => (List.mem_filter.mp (hP₂.mem_iff.mp hq)).1
    refine LCg.CompSrc.ledger rfl (by k_asm) N₂' (.head _) hz7 ?_
    intro g₂
    refine compU_inv (n := ws₂.toArray.size) (fun i zs nx => ∃ t2, nx = (a₂, W.listOf ws₂.toArray n₂) :: (t₅, { cls := .type "tuple", data := .seq ys.toArray.toList.toArray }) :: (D₃, lst ys) :: (D₁, W.listOf vs.toArray c₁) :: (L' + 1, oS) :: (t2 ++ tl) ∧ R2 (PairD prog w (κ.add t2)) zs (pairsOfQ O (ps₂.take i))) ?_ ?_ _ 0 [] _ (Nat.zero_add _) ⟨[], rfl, .nil⟩
    · rintro i v₁ zs nx I oI C oC D₂ m₂ h tk hi hv hJ914 hC hm F₄ N₄ off ne
      refine byC fun hG9 => ?_
      obtain ⟨t2, rfl, hzs⟩ := hJ914
      obtain ⟨q, hq, x, rfl, hkx⟩ := hR₂.get (by simpa using hv)
      obtain ⟨g', hg'⟩ := lk_mem (hpO q (List.mem_of_getElem? hq))
      obtain ⟨ne1, ne2, ne3⟩ := ne
      refine hG9 ?_
      clear hG9
      rcases R'.lookH q with ⟨e1, e2⟩ | ⟨x', r, b, e1, e2, t, e3⟩
      · rw [e2] at hg'; cases hg'
      subst e3
      refine byC fun hG9 => ?_
      obtain ⟨o1, o2, o3, o4, o5, o6⟩ := off
      refine hG9 ?_
      clear hG9
      (try (show wpAny _ _ _ _ _ _; k_fold))
      k_steps
      refine CompEnd.intro (by k_asm) (by k_asm) ((a₂, W.listOf ws₂.toArray n₂) :: (t₅, { cls := .type "tuple", data := .seq ys.toArray.toList.toArray }) :: (D₃, lst ys) :: (D₁, W.listOf vs.toArray c₁) :: (L' + 1, oS) :: (((t₀, { cls := .type "tuple", data := .seq #[.ref x, .int b t] }) :: t2) ++ tl)) (fun q hq => ?_)
        ⟨o1, o2, o3, o4, o5, ⟨Nat.ne_of_gt lt₀.1, Nat.ne_of_gt lt₀.2.1, Nat.ne_of_gt lt₀.2.2.1⟩, o6⟩ (.inr ⟨_, .head _, rfl, _, rfl⟩) ⟨(t₀, _) :: t2, rfl, ?_⟩
      · revert q; walk_at "own subs"
      · rw [List.take_add_one, hq, pairsOfQ, List.map_append]
        exact (hzs.imp fun _ _ => PairD.mono (Kn.add_mono (fun _ _ x => x) fun _ x => .tail _ x)).append (.cons ⟨t₀, t, x, rfl, ⟨{ cls := .type "tuple", data := .seq #[.ref x, .int b t] }, 0, .inr (.head _), rfl, by simp [e2]⟩, hkx.mono (Kn.le_add _ _)⟩ .nil)
    · rintro zs nx hJ92
      refine byC fun hG9 => ?_
      obtain ⟨t2, rfl, hzs⟩ := hJ92
      refine hG9 ?_
      clear hG9
      rw [List.take_of_length_le (by rw [List.size_toArray, hR₂.length]; exact Nat.le_refl _)] at hzs
      intro D₄ h₄ tk₄ F₄ N₄ off₄
      have hz6 : zs.toArray.size ≤ 16384 := by
        rw [List.size_toArray, hzs.length, pairsOfQ, List.length_map]; omega
      refine byC fun hG9 => ?_
      obtain ⟨t₆, rfl⟩ : ∃ x, x = t₅ := ⟨_, rfl⟩
      refine hG9 ?_
      clear hG9
      (try (show wpAny _ _ _ _ _ _; k_fold))
      k_steps
      walk_at "fin"
      refine ⟨(t₀, { cls := .type "tuple", data := .seq #[.ref t₆, .ref t₅] }) :: (t₅, { cls := .type "tuple", data := .seq zs.toArray.toList.toArray }) :: (t₆, { cls := .type "tuple", data := .seq ys.toArray.toList.toArray }) :: (t2 ++ tl), ns, ps₂, fun q hq => ?_,
        ⟨t₀, t₆, t₅, ys, zs, rfl, ⟨_, 0, .inr (.head _), rfl, rfl⟩, ⟨_, 0, .inr (.tail _ (.tail _ (.head _))), rfl, rfl⟩, ?_, ⟨_, 0, .inr (.tail _ (.head _)), rfl, rfl⟩, ?_⟩, hP, hW, hP₂, hW₂⟩
      · have hq' := Nt₀ q (by revert q; walk_at "own subs")
        exact ⟨hq'.1, hq'.2.2⟩
      · exact hys.imp fun _ _ => RowD.mono (Kn.add_mono (fun _ _ x => x) fun _ x => by simp [x])
      · exact hzs.imp fun _ _ => PairD.mono (Kn.add_mono (fun _ _ x => x) fun _ x => by simp [x])
end


end
theorem rows_C4 : True := by
  k_with_none
  w_top off
  (k_with "own tail" => (first | ((repeat apply List.Mem.tail); first | exact hp | exact List.mem_append_left _ hp | exact List.mem_append_right _ hp) | (simp only [List.mem_cons, List.mem_append, List.not_mem_nil, or_false] at hp ⊢; grind)))
  (k_with "own subs" => (((try dsimp only [List.cons_append, List.nil_append]); (repeat (refine List.forall_mem_cons.mpr ⟨?_, ?_⟩; (· ((repeat (first | with_reducible exact List.Mem.head _ | refine List.Mem.tail _ ?_)); done)))); intro p hp; first | exact absurd hp List.not_mem_nil | ((repeat apply List.Mem.tail); first | exact hp | exact List.mem_append_left _ hp | exact List.mem_append_right _ hp) | (simp only [List.mem_cons, List.mem_append, List.not_mem_nil, or_false] at hp ⊢; grind))))
  (k_with "own ne" => ((refine neN ?_; (try dsimp only); first | assumption | exact Ne.symm (by assumption) | exact Nat.ne_of_lt (by assumption) | exact Nat.ne_of_gt (by assumption) | exact And.left (by assumption) | exact And.left (And.right (by assumption)) | exact And.right (And.right (by assumption)) | exact Ne.symm (And.left (by assumption)) | exact Ne.symm (And.left (And.right (by assumption))) | exact Ne.symm (And.right (And.right (by assumption))) | ((repeat (rename @Ne _ _ _ => hne9; clear hne9)); (repeat (rename And (@Ne _ _ _) _ => hne9; clear hne9)); omega))))
  (k_with "le" => (first | (refine' le_fr ?zla ?zlb; (case zlb => k_asm); (case zla => with_reducible assumption)) | exact Fr.keep (by k_asm)))
  (k_with "fin" => (((try dsimp only); (try k_unfold); (try dsimp only); refine ⟨_, _, _, rfl, by k_asm, ?_⟩)))
  (k_with "leF" => (first | exact fun _ F9 _ => le_fr (by with_reducible assumption) F9 | exact fun _ F9 _ => Fr.keep F9))
  (k_with "own inst" => ((refine' inst_kn ?le ?h1 ?h2; (case h1 => with_reducible assumption); (case h2 => with_reducible assumption); (case le => walk_at "le"))))
  (k_with "own fits" => (with_reducible assumption))
  (k_with "execs cons Assign cons" => (refine wpAny_execs_cons ?_))
  (k_with "exec For Name Call cons nil" => ((k_here; k_dflt (refine For_at ?_))))
  (k_with "getMethod ref" => ((k_here; first
      | (refine' getm_int ?d ?le ?_; (case d => with_reducible assumption); (case le => walk_at "le"))
      | (refine' getm_tup ?d ?le ?_; (case d => with_reducible assumption); (case le => walk_at "le")))))
  (k_with "key" => (exact key2 (by k_asm) (by k_mem)))
  (k_with "call builtin:dict.get" => ((k_here; first
      | (refine' get2_int ?d ?le ?lo ?_; (case d => with_reducible assumption); (case lo => with_reducible assumption); (case le => walk_at "le"))
      | (refine' get2_tup ?u ?d ?le ?lo ?k ?_; (case d => with_reducible assumption); (case lo => with_reducible assumption); (case u => ktr_units); (case le => walk_at "le"); (case k => walk_at "key")))))
  (k_with "enterC" => ((
      refine' enter_cells (args := ⟨_, []⟩) ?k1 ?k2 ?k3 ?k5 ?kA ?kF ?kK ?k6 ?k7 ?k8 ?k9 ?kB ?kD ?_ ?c2 ?c3 ?c4
      case kA => exact rfl
      case kF => exact rfl
      case kK => assumption
      case k1 => k_asm
      case k2 => k_asm
      case k3 => k_asm
      case k5 => k_asm
      case k6 => k_is
      case k7 => k_is
      case k8 => ktr_room
      case k9 => exact BindsTo.of_eq rfl
      case kB => exact rfl
      case kD => decide +kernel
      case c2 => exact rfl
      case c3 => exact rfl
      case c4 => exact rfl)))
  (k_with "enter" => ((
      refine' enter_pure (args := ⟨_, []⟩) ?k1 ?k2 ?k3 ?k5 ?kA ?kF ?kK ?k6 ?k7 ?k8 ?k9 ?kB ?_ ?c2 ?c3 ?c4 ?c5
      case kA => exact rfl
      case kF => exact rfl
      case kK => assumption
      case k1 => k_asm
      case k2 => k_asm
      case k3 => k_asm
      case k5 => k_asm
      case k6 => k_is
      case k7 => k_is
      case k8 => ktr_room
      case k9 => exact BindsTo.of_eq rfl
      case c5 => decide
      case kB => exact locs rfl
      case c2 => exact rfl
      case c3 => exact rfl
      case c4 => exact rfl)))
  (k_with "newList" => ((k_here; k_dflt (refine' newList_K ?k1 ?k2 ?_; (case k1 => k_asm); (case k2 => k_asm); k_whole); intro l₀ hl₀ Fl₀ Nl₀ ll₀; (try k_lt ll₀); (try k_sweep))))
  (k_with "newTuple" => ((k_here; k_dflt (refine' kup_newTuple ?zqk1 ?zqk2 ?_ ?zqk3; (case zqk1 => k_asm); (case zqk2 => k_asm); (case zqk3 => exact Nat.le_of_ble_eq_true rfl)); intro t₀ ht₀ Ft₀ Nt₀ lt₀; (try k_lt lt₀); (try k_sweep))))
  (k_with "call builtin:sorted" => ((k_here; k_dflt (
      refine' sorted_intD ?zqhh ?zqF ?zqN ?zqd ?zqle ?zqlo ?zqn ?_
      case zqd => with_reducible assumption
      case zqhh => exact rfl
      case zqF => k_asm
      case zqN => k_asm
      case zqle => walk_at "le"
      case zqlo => with_reducible assumption
      case zqn => with_reducible assumption
      intro D₁ h₁ tk₁ vs ns c₁ F₁ N₁ l₁ hI hP hW))))
  (k_with "call builtin:sorted" => ((k_here; k_dflt (
      refine' sorted_tupD ?zqhh ?zqF ?zqN ?zqd ?zqp ?zqle ?zqlo ?zqn ?_
      case zqd => with_reducible assumption
      case zqp => with_reducible assumption
      case zqhh => exact rfl
      case zqF => k_asm
      case zqN => k_asm
      case zqle => walk_at "leF"
      case zqlo => with_reducible assumption
      case zqn => assumption
      intro D₁ h₁ tk₁ vs qs c₁ F₁ N₁ l₁ hR hP hW))))
  (k_with "subscriptTail" => ((k_here; (with_reducible show wpAny _ _ (subscriptTail _ _ (Value.ref _) (Value.ref _)) _ _ _); k_dflt (
      refine' item_tup ?u ?d ?le ?k ?l ?_
      case d => with_reducible assumption
      case l => with_reducible assumption
      case u => ktr_units
      case le => walk_at "le"
      case k => (refine' KeyK.at (KeyK.mono ?zle ?zk); (case zk => with_reducible assumption); (case zle => walk_at "le"))))))
  (k_with "subscriptTail" => ((k_here; (with_reducible show wpAny _ _ (subscriptTail _ _ (Value.ref _) (Value.int _ _)) _ _ _); k_dflt (
      refine' item_int ?d ?le ?l ?_
      case d => with_reducible assumption
      case l => with_reducible assumption
      case le => walk_at "le"))))
  (k_with "compareOp In int ref" => ((k_here; k_dflt (
      refine' in_int ?d ?le ?lo ?_
      case d => with_reducible assumption
      case lo => with_reducible assumption
      case le => walk_at "le"))))
  (k_with "compareOp NotIn int ref" => ((k_here; k_dflt (
      refine' notin_int ?d ?le ?lo ?_
      case d => with_reducible assumption
      case lo => with_reducible assumption
      case le => walk_at "le"))))
  (k_with "truthy ref" => ((k_here; k_dflt (
      refine' truthy_row ?r ?le ?z ?_
      case r => with_reducible assumption
      case z => with_reducible assumption
      case le => walk_at "le"))))
  (k_with "call type:tuple" => ((k_here; (with_reducible show wpAny _ _ (call (Value.type _) [Value.ref _]) _ _ _); k_dflt (
      refine' tup_row ?r ?le ?_
      case r => with_reducible assumption
      case le => walk_at "le"))))
  (k_with "call type:tuple" => ((k_here; (with_reducible show wpAny _ _ (call (Value.type _) [Value.ref _]) _ _ _); k_dflt (
      refine' kde_tupleOf ?k1 ?k2 ?k3 ?k4 ?k5 ?_
      case k1 => k_asm
      case k2 => k_asm
      case k3 => exact News.isList (by k_asm) (by k_mem)
      case k4 => with_reducible assumption
      case k5 => exact rfl
      intro t₅ h₅ F₅ N₅ l₅
      (try k_lt l₅)))))
  (k_with "call ref" => ((k_here; (with_reducible show wpAny _ _ (call (Value.ref 35) _) _ _ _); k_dflt (
      refine' use_pure ?F ?N (is_default_spec ?B ?F2 ?X ?T ?k ?d ?u ?V) ?_
      case F => k_asm
      case N => k_asm
      case B => k_asm
      case F2 => k_asm
      case X => k_asm
      case T => k_asm
      case k => first | exact rfl | assumption
      case d => ktr_room
      case u => ktr_units
      case V => (refine' VarsK.mono ?zle ?zk; (case zk => with_reducible assumption); (case zle => walk_at "le"))
      intro _ _ _ _ _ _
      rintro rfl
      (try k_sweep)))))
  (k_with "call ref" => ((k_here; (with_reducible show wpAny _ _ (call (Value.ref 42) _) _ _ _); k_dflt (
      refine' use_pure ?zqF ?zqN (own_pairs_spec ?zqB ?zqF2 ?zqX ?zqT ?zqk ?zqd ?zqu ?zqK ?zqV ?zq6) ?_
      case zqF => k_asm
      case zqN => k_asm
      case zqB => k_asm
      case zqF2 => k_asm
      case zqX => k_asm
      case zqT => k_asm
      case zqk => first | exact rfl | assumption
      case zqd => ktr_room
      case zqu => ktr_units
      case zqV => with_reducible assumption
      case zqK => walk_at "le"
      case zq6 => with_reducible assumption
      intro r₂ h₂ tk₂ F₂ N₂ G₂ P₂
      obtain ⟨a₂, ws₂, ps₂, n₂, e₂, f₂, g₂, hR₂, hP₂, hW₂⟩ := P₂
      subst e₂
      have N₂' := News.grew (by k_asm) N₂ f₂ g₂))))
  (k_with "eval ListComp" => ((k_here; (with_reducible show wpAny _ _ (eval (Expr.ListComp _ [⟨_, _, [], _⟩] _ _) _) _ _ _); k_dflt (refine LCg.ListComp_U (F₀ := by k_asm) (by with_unfolding_all rfl) (by decide) (by rfl) (by decide) (by rfl) ?_))))
  (k_with "eval ListComp" => ((k_here; (with_reducible show wpAny _ _ (eval (Expr.ListComp _ [⟨_, _, [_], _⟩] _ _) _) _ _ _); k_dflt (refine LCt.ListComp_T (F₀ := by k_asm) (by with_unfolding_all rfl) (by decide) (by rfl) (by decide) (by rfl) ?_))))
  (k_with "own all" => (first | with_reducible assumption | (refine List.forall_mem_append.mpr ⟨?_, ?_⟩ <;> k_all)))
  (k_with "exec For Tuple Call cons nil" => ((k_here; k_dflt (refine For_at ?_))))
  trivial
section
theorem News.grewL {h₀ h h' : Heap} {L : Addr} {m : Str → Option Value} {news : List (Addr × Obj)} (F : Fr h₀ L h m) (N : News h₀ L h' news) : ∀ {tl : List (Addr × Obj)}, (∀ q ∈ tl, h'.get? q.1 = some q.2 ∧ h.get? q.1 = none) → News h₀ L h' (tl ++ news)
  | [], _ => N
  | q :: tl, ht => News.grew F (News.grewL F N fun p hp => ht p (.tail _ hp)) (ht q (.head _)).2 (ht q (.head _)).1
theorem row1_C4 : True := by
  (k_with "call ref" => ((k_here; (with_reducible show wpAny _ _ (call (Value.ref 47) _) _ _ _); k_dflt (
      refine' use_pure ?zqF ?zqN (told_spec ?zqB ?zqF2 ?zqX ?zqT ?zqk ?zqd ?zqu ?zqK ?zqV ?zq6 ?zq7 ?zq5) ?_
      case zqF => k_asm
      case zqN => k_asm
      case zqB => k_asm
      case zqF2 => k_asm
      case zqX => k_asm
      case zqT => k_asm
      case zqk => first | exact rfl | assumption
      case zqd => ktr_room
      case zqu => ktr_units
      case zqV => with_reducible assumption
      case zqK => walk_at "le"
      case zq6 => with_reducible assumption
      case zq7 => with_reducible assumption
      case zq5 => assumption
      intro r₂ h₂ tk₂ F₂ N₂ G₂ P₂
      refine byC fun hG9 => ?_
      obtain ⟨tl₂, ks₂, ps₂, hT₂, hV₂, hk₂, hkw₂, hp₂, hpw₂⟩ := P₂
      refine hG9 ?_
      clear hG9
      have N₂' := News.grewL (by k_asm) N₂ hT₂))))
  trivial
def IPair (κ : Kn) (v : Value) (d : Int × Int) : Prop := ∃ a t u, v = .ref a ∧ TupK κ a [.int d.1 t, .int d.2 u]
theorem IPair.mono {κ κ' : Kn} (le : Kn.le κ κ') {v d} (h : IPair κ v d) : IPair κ' v d := let ⟨a, t, u, e, x⟩ := h; ⟨a, t, u, e, x.mono le⟩
inductive CToldK (prog : Program) (w : World) (κ : Kn) (v : Value) (cs : List (Int × Int)) (rows : List (Int × List Int)) (pairs : List ((Int × Int) × Int)) : Prop where
  | mk (a r1 : Addr) (v2 : Value) (vs1 : List Value)
      (h0 : v = .ref a)
      (h1 : TupK κ a [.ref r1, v2])
      (h2 : TupK κ r1 vs1)
      (h3 : R2 (IPair κ) vs1 cs)
      (h4 : ToldK prog w κ v2 rows pairs) : CToldK prog w κ v cs rows pairs
theorem CToldK.mono {prog : Program} {w : World} {κ κ' : Kn} (le : Kn.le κ κ') {v x y z} (h : CToldK prog w κ v x y z) : CToldK prog w κ' v x y z :=
  let ⟨a, r1, v2, vs1, e, p, q, r, s⟩ := h; ⟨a, r1, v2, vs1, e, p.mono le, q.mono le, r.imp fun _ _ z => z.mono le, s.mono le⟩
def codesOf (C : List (Int × Int)) (ks : List Int) : List (Int × Int) := ks.map fun k => (k, gl C k)

section
variable {prog : Program} {w : World} {A₀ : Around} {E : Value → Shared → Prop} {s : Shared} {base h₀ : Heap} {L : Addr} {m : Str → Option Value}
  {p : Program} {loose : List Str} {mean : ExcName → Option Value} {mg mb : Str → Option Value} {dp un : Nat} {gd : Option (List Code)} {cn : Str} {cs : Scope} {ca : Addr} {ccd : Value} {cl : List (Str × Addr)} {outer : List Env}

inductive CToldP (prog : Program) (w : World) (κ : Kn) (C : List (Int × Int)) (D : List (Int × List Int)) (O : List ((Int × Int) × Int)) (s : Shared) (r : Value) (h' : Heap) : Prop where
  | mk (tl : List (Addr × Obj)) (ns : List Int) (ks : List Int) (ps : List (Int × Int))
      (h0 : (∀ q ∈ tl, h'.get? q.1 = some q.2 ∧ s.heap.get? q.1 = none))
      (h1 : CToldK prog w (κ.add tl) r (codesOf C ns) (rowsOf D ks) (pairsOfQ O ps))
      (h2 : ns.Perm (C.map (·.1)))
      (h3 : ns.Pairwise (· ≤ ·))
      (h4 : ks.Perm (D.map (·.1)))
      (h5 : ks.Pairwise (· ≤ ·))
      (h6 : ps.Perm ((O.map (·.1)).filter (ownP D O)))
      (h7 : ps.Pairwise (fun a b => ltP a b = true)) : CToldP prog w κ C D O s r h'
set_option maxHeartbeats 4000000 in
theorem cmtold_spec {c v : Addr} {C : List (Int × Int)} {D : List (Int × List Int)} {O : List ((Int × Int) × Int)} {κ : Kn} 
    (B : Below A₀ base outer h₀) (F : Fr h₀ L s.heap m) (X : (Mine.hd.heap_39 w.params).In h₀) (T : Top p loose mean mg mb h₀) (hk : cs.kind = .function)
    (hd : dp + 30 < recursionLimit) (hu : un + 240 < cLine) (hκ : Kn.le κ (kn s.heap)) (VC : CmK prog w κ c C (.ref v)) (V : VarsK prog w κ v D O) (h6 : O.length ≤ 6) (h7 : D.length ≤ 3) (h5 : ∀ d ∈ D, d.2.length ≤ 8) (h8 : C.length ≤ 8) :
    wpAny (model prog w) (ktrTop dp un gd cn cs L ca ccd cl outer) (call (.ref 93) [.ref c])
      (Pure1 s fun r h' => CToldP prog w κ C D O s r h') E s := by
  have V' := VC
  refine byC fun hG9 => ?_
  obtain ⟨cc, dx, t1, t2, n, h1, h2, lo, kvs, hD, R⟩ := V'
  refine hG9 ?_
  clear hG9
  have W' := V
  refine byC fun hG9 => ?_
  obtain ⟨dd, oo, dx', t1', t2', n', h3, h4, -, -⟩ := W'
  refine hG9 ?_
  clear hG9
  have hkl : kvs.length < 64 := by rw [R.length]; omega
  walk_at "enterC"
  intro L' h' tk' cells' F' N' Y' B' X' T'
  clear B F X T
  k_cells Y'
  rename_i oS dS
  replace dS : oS.data = Data.cell (some (.ref c)) := dS
  simp only [List.cons_append, List.nil_append, List.append_nil] at N'
  (try dsimp only)
  show wpAny _ _ _ _ _ _
  (try k_fold)
  refine letA ?_
  intro A9 hAu hAd
  simp only [units_deeper, depth_deeper] at hAu hAd
  (try dsimp only [ktrTop] at hAu hAd)
  k_steps
  have hz8 : vs.toArray.size ≤ sizeLine := by rw [List.size_toArray, hI.length, hP.length_eq, List.length_map, sizeLine_eq]; omega
  refine LCg.CompSrc.ledger rfl (by k_asm) (by k_asm) (by k_mem) hz8 ?_
  intro g
  refine compU_inv (n := vs.toArray.size) (fun i ys nx => ∃ tl, nx = (D₁, W.listOf vs.toArray c₁) :: (L' + 1, oS) :: tl ∧ R2 (IPair (κ.add tl)) ys (codesOf C (ns.take i))) ?_ ?_ _ 0 [] _ (Nat.zero_add _) ⟨[], rfl, .nil⟩
  · rintro i v₁ ys nx I oI C' oC D₂ m₂ h tk hi hv hJ914 hC hm F₂ N₂ off ne
    refine byC fun hG9 => ?_
    obtain ⟨tl, rfl, hys⟩ := hJ914
    obtain ⟨k, t₁, rfl, hk1⟩ := intsGet hI (by simpa using hv)
    refine hG9 ?_
    clear hG9
    have hkD := hP.mem_iff.mp (List.mem_of_getElem? hk1)
    refine byC fun hG9 => ?_
    obtain ⟨ne1, ne2, ne3⟩ := ne
    refine hG9 ?_
    clear hG9
    rcases R.look k with ⟨e1, e2⟩ | ⟨x, b, e1, e2, t, rfl⟩
    · obtain ⟨x, hx, rfl⟩ := List.mem_map.mp hkD
      exact absurd e1 (by obtain ⟨y, hy⟩ := valueAt_some_of_mem hx; rw [hy]; simp)
    refine byC fun hG9 => ?_
    obtain ⟨o1, o2, o3⟩ := off
    refine hG9 ?_
    clear hG9
    (try (show wpAny _ _ _ _ _ _; k_fold))
    k_steps
    (try k_unfold)
    refine CompEnd.intro (by k_asm) (by k_asm) ((D₁, W.listOf vs.toArray c₁) :: (L' + 1, oS) :: (t₀, { cls := .type "tuple", data := .seq #[.int k t₁, .int b t] }) :: tl) (fun q hq => ?_)
        ⟨o1, o2, ⟨Nat.ne_of_gt lt₀.1, Nat.ne_of_gt lt₀.2.1, Nat.ne_of_gt lt₀.2.2.1⟩, o3⟩ (.inr ⟨_, .head _, rfl, _, rfl⟩) ⟨(t₀, _) :: tl, rfl, ?_⟩
    · revert q; walk_at "own subs"
    · rw [List.take_add_one, hk1, codesOf, List.map_append]
      exact (hys.imp fun _ _ => IPair.mono (Kn.add_mono (fun _ _ x => x) fun _ x => .tail _ x)).append (.cons ⟨t₀, t₁, t, rfl, ⟨{ cls := .type "tuple", data := .seq #[.int k t₁, .int b t] }, 0, .inr (.head _), rfl, by simp [gl, e2]⟩⟩ .nil)
  · rintro ys nx hJ92
    refine byC fun hG9 => ?_
    obtain ⟨tl, rfl, hys⟩ := hJ92
    refine hG9 ?_
    clear hG9
    rw [List.take_of_length_le (by rw [List.size_toArray, hI.length]; exact Nat.le_refl _)] at hys
    intro D₃ h₃ tk₃ F₃ N₃ off₃
    have hkeys : kvs.map (·.1) = C.map (·.1) := R.keys
    rw [hkeys] at hP
    have hz9 : ys.toArray.size ≤ 16384 := by
      rw [List.size_toArray, hys.length, codesOf, List.length_map, hP.length_eq, List.length_map]; omega
    (try (show wpAny _ _ _ _ _ _; k_fold))
    k_steps
    walk_at "fin"
    refine ⟨(t₀, { cls := .type "tuple", data := .seq #[.ref t₅, r₂] }) :: (t₅, { cls := .type "tuple", data := .seq ys.toArray.toList.toArray }) :: (tl₂ ++ tl), ns, ks₂, ps₂, fun q hq => ?_,
        ⟨t₀, t₅, r₂, ys, rfl, ⟨_, 0, .inr (.head _), rfl, rfl⟩, ⟨_, 0, .inr (.tail _ (.head _)), rfl, rfl⟩, ?_, ?_⟩, hP, hW, hk₂, hkw₂, hp₂, hpw₂⟩
    · have hq' := Nt₀ q (by revert q; walk_at "own subs")
      exact ⟨hq'.1, hq'.2.2⟩
    · exact hys.imp fun _ _ => IPair.mono (Kn.add_mono (fun _ _ x => x) fun _ x => by simp [x])
    · exact hV₂.mono (Kn.add_mono (fun _ _ x => x) fun _ x => by simp [x])
end


end
section
section
variable {prog : Program} {w : World} {A A₀ : Around} {E : Value → Shared → Prop} {s : Shared} {h₀ h : Heap} {L d a b : Addr} {m : Str → Option Value} {news : List (Addr × Obj)} {κ κ' : Kn}

/-- a value of the data -/
def At (κ : Kn) (v : Value) (d : PyData) : Prop := ∀ h, Kn.le κ (kn h) → ∃ as, Reads h v d as
theorem readsAll_of {α : Type} {P : Value → α → Prop} {f : α → PyData} (hp : ∀ v x, P v x → ∃ as, Reads h v (f x) as) : ∀ {vs : List Value} {xs : List α}, R2 P vs xs → ∃ as, ReadsAll h vs (xs.map f) as
  | _, _, .nil => ⟨_, ReadsAll.nil⟩
  | _, _, .cons q r => by
    obtain ⟨_, q'⟩ := hp _ _ q
    obtain ⟨_, r'⟩ := readsAll_of hp r
    exact ⟨_, ReadsAll.cons q' r'⟩
theorem TupK.reads {vs : List Value} {xs : List PyData} {as : List Addr} (le : Kn.le κ (kn h)) (ht : TupK κ a vs) (ra : ReadsAll h vs xs as) : Reads h (.ref a) (.tuple xs) as := by
  obtain ⟨o, n, e, c, dd⟩ := ht
  exact reads_tuple_at (le _ _ e) c dd (by simpa using ra)
theorem RowK.reads {row : List Int} (le : Kn.le κ (kn h)) (hr : RowK κ a row) : ∃ as, Reads h (.ref a) (.tuple (row.map .int)) as := by
  obtain ⟨vs, t, i⟩ := hr
  exact ⟨_, t.reads le (i.reads h)⟩
theorem KeyK.reads {q : Int × Int} (le : Kn.le κ (kn h)) (hk : KeyK prog w κ (kp q) a) : ∃ as, Reads h (.ref a) (.tuple [.int q.1, .int q.2]) as := by
  obtain ⟨o, t, u, n, e, c, dd⟩ := key_items (hk.mono le)
  exact ⟨_, reads_tuple_at e c dd (ReadsAll.cons (as := []) (.int _ _) (ReadsAll.cons (as := []) (.int _ _) ReadsAll.nil))⟩
def rowP (d : Int × List Int) : PyData := .tuple [.int d.1, .tuple (d.2.map .int)]
def pairP (d : (Int × Int) × Int) : PyData := .tuple [.tuple [.int d.1.1, .int d.1.2], .int d.2]
def toldP (rows : List (Int × List Int)) (pairs : List ((Int × Int) × Int)) : PyData := .tuple [.tuple (rows.map rowP), .tuple (pairs.map pairP)]
def codeP (d : Int × Int) : PyData := .tuple [.int d.1, .int d.2]
def ctoldP (cs : List (Int × Int)) (rows : List (Int × List Int)) (pairs : List ((Int × Int) × Int)) : PyData := .tuple [.tuple (cs.map codeP), toldP rows pairs]
theorem reads2 {v u : Value} {x y : PyData} (hv : ∃ as, Reads h v x as) (hu : ∃ as, Reads h u y as) : ∃ as, ReadsAll h [v, u] [x, y] as := by
  obtain ⟨_, p⟩ := hv
  obtain ⟨_, q⟩ := hu
  exact ⟨_, ReadsAll.cons p (ReadsAll.cons q ReadsAll.nil)⟩
theorem ToldK.at_ {v : Value} {rows pairs} (ht : ToldK prog w κ v rows pairs) : At κ v (toldP rows pairs) := by
  intro h le
  obtain ⟨x, r1, r2, vs1, vs2, rfl, t0, t1, q1, t2, q2⟩ := ht
  obtain ⟨_, a1⟩ := readsAll_of (h := h) (f := rowP) (fun v d ⟨a, t, r, e, x, y⟩ => by
    subst e
    obtain ⟨_, p⟩ := reads2 ⟨_, Reads.int (h := h) d.1 t⟩ (y.reads le)
    exact ⟨_, x.reads le p⟩) q1
  obtain ⟨_, a2⟩ := readsAll_of (h := h) (f := pairP) (fun v d ⟨a, t, r, e, x, y⟩ => by
    subst e
    obtain ⟨_, p⟩ := reads2 (KeyK.reads le y) ⟨_, Reads.int (h := h) d.2 t⟩
    exact ⟨_, x.reads le p⟩) q2
  obtain ⟨_, p⟩ := reads2 ⟨_, t1.reads le a1⟩ ⟨_, t2.reads le a2⟩
  exact ⟨_, t0.reads le p⟩
theorem CToldK.at_ {v : Value} {cs rows pairs} (ht : CToldK prog w κ v cs rows pairs) : At κ v (ctoldP cs rows pairs) := by
  intro h le
  obtain ⟨x, r1, v2, vs1, rfl, t0, t1, q1, t2⟩ := ht
  obtain ⟨_, a1⟩ := readsAll_of (h := h) (f := codeP) (fun v d ⟨a, t, u, e, x⟩ => by
    subst e
    obtain ⟨_, p⟩ := reads2 ⟨_, Reads.int (h := h) d.1 t⟩ ⟨_, Reads.int (h := h) d.2 u⟩
    exact ⟨_, x.reads le p⟩) q1
  obtain ⟨_, p⟩ := reads2 ⟨_, t1.reads le a1⟩ (t2.at_ h le)
  exact ⟨_, t0.reads le p⟩
/-- laid flat enough -/
def Lays (n : Nat) (d : PyData) : Prop := d.canLay0 = true ∧ d.depth ≤ n
theorem lays_int (i : Int) : Lays 1 (.int i) := ⟨rfl, by simp [PyData.depth]⟩
theorem lays_all {n : Nat} : ∀ {xs : List PyData}, (∀ x ∈ xs, Lays n x) → PyData.canLayAll0 xs = true ∧ PyData.depthAll xs ≤ n
  | [], _ => by simp [PyData.canLayAll0, PyData.depthAll]
  | x :: xs, hx => by
    have h1 := hx x (.head _)
    have h2 := lays_all fun y hy => hx y (.tail _ hy)
    simp only [PyData.canLayAll0, PyData.depthAll, h1.1, h2.1, Bool.and_self, true_and]
    have a1 := h1.2
    have a2 := h2.2
    omega
theorem lays_tuple {n : Nat} {xs : List PyData} (hx : ∀ x ∈ xs, Lays n x) : Lays (n + 1) (.tuple xs) := by
  have q := lays_all hx
  have q2 := q.2
  refine ⟨by simp only [PyData.canLay0, q.1], ?_⟩
  simp only [PyData.depth]
  omega
theorem Lays.up {n k : Nat} {d : PyData} (hl : Lays n d) (hk : n ≤ k) : Lays k d := ⟨hl.1, Nat.le_trans hl.2 hk⟩
theorem lays_two {n : Nat} {x y : PyData} (hx : Lays n x) (hy : Lays n y) : Lays (n + 1) (.tuple [x, y]) := lays_tuple fun z hz => by
  rcases List.mem_cons.mp hz with rfl | hz
  · exact hx
  · rw [List.mem_singleton.mp hz]; exact hy
theorem lays_row (row : List Int) : Lays 2 (.tuple (row.map .int)) := lays_tuple fun x hx => by
  obtain ⟨i, _, rfl⟩ := List.mem_map.mp hx; exact lays_int i
theorem lays_told (rows pairs) : Lays 5 (toldP rows pairs) := lays_two
  (lays_tuple fun x hx => by obtain ⟨d, _, rfl⟩ := List.mem_map.mp hx; exact lays_two ((lays_int _).up (by decide)) (lays_row _))
  (lays_tuple fun x hx => by obtain ⟨d, _, rfl⟩ := List.mem_map.mp hx; exact lays_two (lays_two (lays_int _) (lays_int _)) ((lays_int _).up (by decide)))
theorem lays_ctold (cs rows pairs) : Lays 6 (ctoldP cs rows pairs) := lays_two
  (lays_tuple fun x hx => by obtain ⟨d, _, rfl⟩ := List.mem_map.mp hx; exact (lays_two (lays_int _) (lays_int _)).up (by decide))
  (lays_told _ _)
theorem Lays.shaped {n : Nat} {d : PyData} (hl : Lays n d) (hn : n ≤ 64) : SeqAt.shaped d = true := by
  unfold SeqAt.shaped
  rw [hl.1, Bool.true_and]
  exact decide_eq_true (Nat.le_trans hl.2 hn)
theorem eq_at {v u : Value} {d : PyData} {n : Nat} {Q : Value → Shared → Prop} (hv : At κ v d) (hu : At κ' u d) (le : Kn.le κ (kn s.heap)) (le' : Kn.le κ' (kn s.heap)) (hl : Lays n d) (hn : n ≤ 64) (hU : A.units + 64 < cLine)
    (h : Q (.bool true) s) : wpAny (model prog w) A (compareOp .Eq v u) Q E s := by
  obtain ⟨_, r1⟩ := hv _ le
  obtain ⟨_, r2⟩ := hu _ le'
  exact eq_dataH r1 r2 (hl.shaped hn) (hl.shaped hn) hU (by rw [SeqAt.eqv_refl _ hl.1]; exact h)
theorem ne_at {v u : Value} {d : PyData} {n : Nat} {Q : Value → Shared → Prop} (hv : At κ v d) (hu : At κ' u d) (le : Kn.le κ (kn s.heap)) (le' : Kn.le κ' (kn s.heap)) (hl : Lays n d) (hn : n ≤ 64) (hU : A.units + 64 < cLine)
    (h : Q (.bool false) s) : wpAny (model prog w) A (compareOp .NotEq v u) Q E s := by
  obtain ⟨_, r1⟩ := hv _ le
  obtain ⟨_, r2⟩ := hu _ le'
  exact ne_dataH r1 r2 (hl.shaped hn) (hl.shaped hn) hU (by rw [SeqAt.eqv_refl _ hl.1]; exact h)
theorem eqv_row (row : List Int) : PyData.eqv (.tuple (row.map .int)) (.tuple []) = decide (row = []) := by
  cases row <;> simp [PyData.eqv, PyData.eqvAll]
theorem ne_nil {row : List Int} {Q : Value → Shared → Prop} (hr : RowK κ a row) (hb : RowK κ' b []) (le : Kn.le κ (kn s.heap)) (le' : Kn.le κ' (kn s.heap)) (hU : A.units + 64 < cLine)
    (h : Q (.bool (!decide (row = []))) s) : wpAny (model prog w) A (compareOp .NotEq (.ref a) (.ref b)) Q E s := by
  obtain ⟨_, r1⟩ := hr.reads le
  obtain ⟨_, r2⟩ := hb.reads le'
  exact ne_dataH r1 r2 ((lays_row _).shaped (by decide)) ((lays_row _).shaped (by decide)) hU (by rw [List.map_nil, eqv_row]; exact h)
theorem eq_nil {row : List Int} {Q : Value → Shared → Prop} (hr : RowK κ a row) (hb : RowK κ' b []) (le : Kn.le κ (kn s.heap)) (le' : Kn.le κ' (kn s.heap)) (hU : A.units + 64 < cLine)
    (h : Q (.bool (decide (row = []))) s) : wpAny (model prog w) A (compareOp .Eq (.ref a) (.ref b)) Q E s := by
  obtain ⟨_, r1⟩ := hr.reads le
  obtain ⟨_, r2⟩ := hb.reads le'
  exact eq_dataH r1 r2 ((lays_row _).shaped (by decide)) ((lays_row _).shaped (by decide)) hU (by rw [List.map_nil, eqv_row]; exact h)

/-- a dict of pairs as one object -/
def IsDictH (prog : Program) (w : World) (κ : Kn) (o : Obj) (xs : List (List Int × Addr × Value)) : Prop :=
  o.ExactDict ∧ ∃ es ep, o.data = .dict es ep ∧ es.toList = xs.map (entryOfKey (tupleKind (intKind prog w))) ∧ (∀ x ∈ xs, KeyK prog w κ x.1 x.2.1) ∧ (xs.map (·.1)).Nodup
theorem IsDictH.mono {o : Obj} {xs} (le : Kn.le κ κ') (hd : IsDictH prog w κ o xs) : IsDictH prog w κ' o xs := let ⟨c, es, ep, a, b, k, n⟩ := hd; ⟨c, es, ep, a, b, fun x hx => (k x hx).mono le, n⟩
theorem IsDictH.K {o : Obj} {xs} (hd : IsDictH prog w κ o xs) (ho : κ d o) : DictHK prog w κ d xs := let ⟨c, es, ep, a, b, k, n⟩ := hd; ⟨o, es, ep, ho, c, a, b, k, n⟩
theorem IsDictH.nil {o : Obj} (hd : o.IsDictOf (intKind prog w) []) : IsDictH prog w κ o [] := by
  obtain ⟨es, ep, c, e, _, hp, _⟩ := hd
  refine ⟨c, es, ep, e, ?_, ?_, List.nodup_nil⟩; rotate_left
  · intro x hx; cases hx
  have := hp.length
  simpa using this
theorem storedH_key {xs : List (List Int × Addr × Value)} {ks : List Int} {v : Value} {x : List Int × Addr × Value} (hx : x ∈ storedH xs ks a v) : (∃ y ∈ xs, y.1 = x.1 ∧ y.2.1 = x.2.1) ∨ (x.1 = ks ∧ x.2.1 = a) := by
  unfold storedH at hx
  split at hx
  · obtain ⟨y, hy, rfl⟩ := List.mem_map.mp hx
    refine .inl ⟨y, hy, ?_⟩
    unfold putAt
    split <;> exact ⟨rfl, rfl⟩
  · rcases List.mem_append.mp hx with hx | hx
    · exact .inl ⟨x, hx, rfl, rfl⟩
    · rw [List.mem_singleton.mp hx]; exact .inr ⟨rfl, rfl⟩
theorem setItem_H {o : Obj} {g : Obj → List (Addr × Obj)} {xs : List (List Int × Addr × Value)} {ks : List Int} {v : Value} {Q : Unit → Shared → Prop} (hu : A.units + 2 < cLine) (F : Fr h₀ L s.heap m) (N : News h₀ L s.heap news) (U : UpdF d o news g)
    (hd : IsDictH prog w κ o xs) (hk : KeyK prog w κ' ks a) (le : Kn.le κ (kn s.heap)) (le' : Kn.le κ' (kn s.heap)) (κ'' : Kn) (l1 : Kn.le κ κ'') (l2 : Kn.le κ' κ'') (hsz : xs.length ≤ sizeLine)
    (h : ∀ h' o', Fr h₀ L h' m → News h₀ L h' (g o') → IsDictH prog w κ'' o' (storedH xs ks a v) → Q () { s with heap := h', toks := s.toks + (ks.length + 1) }) :
    wpAny (model prog w) A (setItem (.ref d) (.ref a) v) Q E s := by
  obtain ⟨pre, post, rfl, hg, na, nb⟩ := U.split
  have hdn := N (d, o) (List.mem_append_right _ (.head _))
  have hD : s.heap.DictOfH (tupleKind (intKind prog w)) d xs := ((hd.mono le).K hdn.1).at
  refine wpAny_setItem_heap (knd := tupleKind (intKind prog w)) (hsz := hsz) (tupleKind_room_in1 (knd := intKind prog w) (by omega)) (hk.mono le').at hD fun h' hD' hs => ?_
  obtain ⟨o', es, ep, ho, hc, hdat, hes, hks, hnd⟩ := hD'
  have keep : ∀ b x, b ≠ d → s.heap.get? b = some x → h'.get? b = some x := fun b x hb e => hs.extBut b x hb e
  have F' : Fr h₀ L h' m := ⟨F.ns.at' fun x e => keep _ _ (fun q : L = d => hdn.2.1 q.symm) e, fun b x e => keep b x (fun q => by rw [q, hdn.2.2] at e; cases e) (F.keep b x e), F.above⟩
  refine h h' o' F' (fun p hp => ?_) ⟨hc, es, ep, hdat, hes, fun x hx => ?_, hnd⟩
  · rw [hg] at hp
    rcases List.mem_append.mp hp with hp | hp
    · exact ⟨keep _ _ (na p hp) (N p (List.mem_append_left _ hp)).1, (N p (List.mem_append_left _ hp)).2⟩
    · rcases List.mem_cons.mp hp with rfl | hp
      · exact ⟨ho, hdn.2⟩
      · have z := N p (List.mem_append_right _ (.tail _ hp))
        exact ⟨keep _ _ (nb p hp) z.1, z.2⟩
  · rcases storedH_key hx with ⟨y, hy, e1, e2⟩ | ⟨e1, e2⟩
    · rw [← e1, ← e2]
      obtain ⟨_, _, _, _, _, k, _⟩ := hd
      exact (k y hy).mono l1
    · rw [e1, e2]; exact hk.mono l2
end


end
section
section
variable {prog : Program} {w : World} {A : Around} {E : Value → Shared → Prop} {s : Shared} {h₀ : Heap} {L : Addr} {m : Str → Option Value} {env : Env} {κ : Kn} {news : List (Addr × Obj)}
theorem ListComp_WF {ct elt iter : PySem.Expr} {x : Str} {px : Pos} {scope : Scope} {cl : List (Str × Addr)} {pos : Pos} {Q : Value → Shared → Prop} (F₀ : Fr h₀ L s.heap m)
    (hclos : closureFor scope env = pure cl) (hcell : ∀ y ∈ scope.names, y.2 ≠ .cell) (hkind : scope.kind = .function)
    (hnames : ∀ y ∈ scope.names, y.2 = .local → scope.names.lookup y.1 = some .local) (hx : scope.names.lookup x = some .local)
    (h : wpAny (model prog w) A (eval iter env) (fun xv s₁ => wpAny (model prog w) A (pyIter xv) (SrcW prog w A h₀ L m env ct elt x scope cl Q) E s₁) E s)
    (hs : ∀ x, foldedSetIterable iter env x = pure x := by intro _; rfl) :
    wpAny (model prog w) A (eval (.ListComp elt [⟨.Name x px, iter, [ct], 0⟩] scope pos) env) Q E s := ListComp_W hclos hcell hkind hnames hx h hs
theorem pyIter_row {ct elt : PySem.Expr} {x : Str} {scope : Scope} {cl : List (Str × Addr)} {Q : Value → Shared → Prop} {r : Addr} {vs : List Value} (hh : A.handled = none) (F : Fr h₀ L s.heap m) (N : News h₀ L s.heap news) (ht : TupK κ r vs) (hκ : Kn.le κ (kn h₀)) (hz : vs.length ≤ sizeLine)
    (k : ∀ g, CompRestT prog w A h₀ L m env ct elt x scope cl { s with heap := g } (fun _ => True) (fun i v => vs[i]? = some v) (FinE h₀ L m { s with heap := g } Q) vs.length 0 [] news) :
    wpAny (model prog w) A (pyIter (.ref r)) (SrcW prog w A h₀ L m env ct elt x scope cl Q) E s := by
  have hT0 : h₀.IsTuple r vs.toArray := (ht.mono hκ).at
  have hT : s.heap.IsTuple r vs.toArray := hT0.at fun o e => F.keep _ o e
  have hlt : r < s.heap.objs.size := by obtain ⟨_, e, _⟩ := hT; exact Heap.lt_size e
  refine wpAny_pyIter_tuple hT ?_
  have hne : r ≠ s.heap.objs.size := Nat.ne_of_lt hlt
  have W := (Walks.tuple (prog := prog) (w := w) (A := A) hh s.heap.objs.size r hne vs.toArray)
  have k' := k (s.heap.push { cls := .type "tuple_iterator", data := .fields #[.ref r, .int 0 0] })
  have e1 : vs.toArray.size = vs.length := List.size_toArray
  refine ⟨_, _, vs.toArray.size, _, _, fun _ => True, news, rfl, W, by rw [e1]; exact hz, fun i h st => by obtain ⟨o, e, _⟩ := st.1; exact ⟨o, e⟩, ?_, ⟨⟨_, Heap.get?_push_size _ rfl, rfl, rfl⟩, hT.at fun o e => Heap.get?_push_of_some _ e⟩, fun b hb => ?_,
    F.keeps fun _ _ e => Heap.get?_push_of_some _ e, N.grown fun _ _ e => Heap.get?_push_of_some _ e, Nat.ne_of_lt F.ns.lt, next_is_new F, fun p hp => Nat.ne_of_lt (Heap.lt_size (N p hp).1), trivial, ?_⟩
  · intro i h h' o nw st e e' kp _ _
    refine ⟨?_, hT0.at fun o e => kp _ o e⟩
    obtain ⟨o', q, r⟩ := st.1
    rw [e] at q; cases q
    exact ⟨o, e', r⟩
  · show b < (s.heap.push _).objs.size
    rw [Heap.size_push]
    rcases List.mem_cons.mp hb with rfl | hb
    · exact Nat.lt_succ_self _
    · rw [List.mem_singleton.mp hb]; exact Nat.lt_succ_of_lt hlt
  · rw [e1]
    simpa using k'
end
theorem upd2_self (m : Str → Option Value) (x y : Str) : m = fun z => if z = x then m x else if z = y then m y else m z := by
  funext z; split
  · rename_i h; rw [h]
  · split
    · rename_i h; rw [h]
    · rfl
theorem nodup_not {α : Type} {ns : List α} (hn : ns.Nodup) {i : Nat} {k : α} (hk : ns[i]? = some k) : k ∉ ns.take i := by
  intro hm
  obtain ⟨j, hj, e⟩ := List.mem_take_iff_getElem.mp hm
  obtain ⟨hi, e2⟩ := List.getElem?_eq_some_iff.mp hk
  have := (List.getElem_inj hn).mp (e.trans e2.symm)
  omega
theorem stored_new {kvs : List (Int × Value)} {k : Int} (h : k ∉ kvs.map (·.1)) (v : Value) : stored kvs k v = kvs ++ [(k, v)] := by
  unfold stored
  rw [if_neg]
  intro hc
  obtain ⟨x, hx, e⟩ := List.any_eq_true.mp hc
  exact h (List.mem_map.mpr ⟨x, hx, by simpa using e⟩)
theorem atKey_none {xs : List (List Int × Addr × Value)} {k : List Int} (h : k ∉ xs.map (·.1)) : atKey xs k = none := by
  unfold atKey
  rw [Option.map_eq_none_iff, List.find?_eq_none]
  intro x hx e
  exact h (List.mem_map.mpr ⟨x, hx, by simpa using e⟩)

theorem le_addN {κ : Kn} {h₀ h : Heap} {L : Addr} {m : Str → Option Value} {tl news : List (Addr × Obj)} (hκ : Kn.le κ (kn h₀)) (F : Fr h₀ L h m) (N : News h₀ L h news) (hs : ∀ p ∈ tl, p ∈ news) : Kn.le (κ.add tl) (kn h) :=
  Kn.add_le (fun a o x => F.keep a o (hκ a o x)) fun p hp => (N p (hs p hp)).1
theorem RowK.empty {h₀ h : Heap} {L a : Addr} {o : Obj} {news : List (Addr × Obj)} (N : News h₀ L h ((a, o) :: news)) (hc : o.cls = .type "tuple") (hd : o.data = .seq #[] 0) : RowK (kn h) a [] := ⟨[], ⟨o, 0, (N _ (.head _)).1, hc, hd⟩, .nil⟩

theorem allLt_ne {d : Addr} : ∀ {l : List (Addr × Obj)}, AllLt d l → ∀ p ∈ l, p.1 ≠ d
  | [], _, _, hp => nomatch hp
  | q :: l, ha, p, hp => by
    rcases List.mem_cons.mp hp with rfl | hp
    · exact Nat.ne_of_lt ha.1
    · exact allLt_ne ha.2 p hp
theorem allLt_gt {d : Addr} : ∀ {l : List (Addr × Obj)}, AllLt d l → ∀ p ∈ l, p.1 < d
  | [], _, _, hp => nomatch hp
  | q :: l, ha, p, hp => by
    rcases List.mem_cons.mp hp with rfl | hp
    · exact ha.1
    · exact allLt_gt ha.2 p hp
theorem KeyK.new {prog : Program} {w : World} {κ : Kn} {a : Addr} {q : Int × Int} {t u : Tok} {n : Nat} (h : κ a { cls := .type "tuple", data := .seq #[.int q.1 t, .int q.2 u] n }) : KeyK prog w κ (kp q) a :=
  ⟨_, h, rfl, _, n, rfl, PySem.ItemsAre.cons (intKind_is _ _ _ _) (PySem.ItemsAre.cons (intKind_is _ _ _ _) PySem.ItemsAre.nil)⟩
theorem ltP_nodup {qs : List (Int × Int)} (h : qs.Pairwise fun a b => ltP a b = true) : qs.Nodup := by
  refine h.imp fun {a b} h1 e => ?_
  rw [e] at h1
  simp [ltP] at h1

theorem forall_news {h₀ h : Heap} {L : Addr} {big small : List (Addr × Obj)} (N : News h₀ L h big) (hs : ∀ q ∈ small, q ∈ big) : ∀ q ∈ small, h.get? q.1 = some q.2 ∧ h₀.get? q.1 = none :=
  fun q hq => ⟨(N q (hs q hq)).1, (N q (hs q hq)).2.2⟩

theorem fresh_all {h₀ h h' : Heap} {L : Addr} {tl news : List (Addr × Obj)} (hT : ∀ q ∈ tl, h'.get? q.1 = some q.2 ∧ h.get? q.1 = none) (N : News h₀ L h news) : ∀ p ∈ news, ∀ q ∈ tl, q.1 ≠ p.1 := fun p hp q hq e => by
  have h1 := (N p hp).1
  rw [← e, (hT q hq).2] at h1
  cases h1
theorem lt_all {tl : List (Addr × Obj)} {d : Addr} (h : AllLt d tl) : ∀ q ∈ tl, q.1 ≠ d := allLt_ne h

theorem put_two {w : World} {hsh : Int} {key v a b : Value} {t1 t2 : Tok} {n : Nat} :
    (putL (Str.ofString "others") hsh key v [⟨PyData.keyHash w.params (Str.ofString "defaults"), .str (Str.ofString "defaults") t1, a⟩, ⟨PyData.keyHash w.params (Str.ofString "others"), .str (Str.ofString "others") t2, b⟩],
     putN (Str.ofString "others") [⟨PyData.keyHash w.params (Str.ofString "defaults"), .str (Str.ofString "defaults") t1, a⟩, ⟨PyData.keyHash w.params (Str.ofString "others"), .str (Str.ofString "others") t2, b⟩] n) =
    ([⟨PyData.keyHash w.params (Str.ofString "defaults"), .str (Str.ofString "defaults") t1, a⟩, ⟨PyData.keyHash w.params (Str.ofString "others"), .str (Str.ofString "others") t2, v⟩], n) := by
  with_unfolding_all rfl

theorem valueAt_get : ∀ {kvs : List (Int × Value)} (hn : (kvs.map (·.1)).Nodup) {i : Nat} {k : Int} {y : Value} (h : kvs[i]? = some (k, y)), valueAt kvs k = some y
  | [], _, _, _, _, h => by simp at h
  | (a, v) :: r, hn, 0, k, y, h => by
    simp at h
    obtain ⟨rfl, rfl⟩ := h
    simp [valueAt]
  | (a, v) :: r, hn, i + 1, k, y, h => by
    simp at h
    rw [List.map_cons, List.nodup_cons] at hn
    have hne : a ≠ k := fun e => hn.1 (e ▸ List.mem_map.mpr ⟨_, List.mem_of_getElem? h, rfl⟩)
    have ih := valueAt_get hn.2 h
    unfold valueAt at ih ⊢
    rw [List.find?_cons]
    simp [hne, ih]


end
theorem rows_C5 : True := by
  k_with_none
  w_top off
  (k_with "own tail" => (first | ((repeat apply List.Mem.tail); first | exact hp | exact List.mem_append_left _ hp | exact List.mem_append_right _ hp) | (simp only [List.mem_cons, List.mem_append, List.not_mem_nil, or_false] at hp ⊢; grind)))
  (k_with "own subs" => (((try dsimp only [List.cons_append, List.nil_append]); (repeat (refine List.forall_mem_cons.mpr ⟨?_, ?_⟩; (· ((repeat (first | with_reducible exact List.Mem.head _ | refine List.Mem.tail _ ?_)); done)))); intro p hp; first | exact absurd hp List.not_mem_nil | ((repeat apply List.Mem.tail); first | exact hp | exact List.mem_append_left _ hp | exact List.mem_append_right _ hp) | (simp only [List.mem_cons, List.mem_append, List.not_mem_nil, or_false] at hp ⊢; grind))))
  (k_with "own ne" => ((refine neN ?_; (try dsimp only); first | assumption | exact Ne.symm (by assumption) | exact Nat.ne_of_lt (by assumption) | exact Nat.ne_of_gt (by assumption) | exact And.left (by assumption) | exact And.left (And.right (by assumption)) | exact And.right (And.right (by assumption)) | exact Ne.symm (And.left (by assumption)) | exact Ne.symm (And.left (And.right (by assumption))) | exact Ne.symm (And.right (And.right (by assumption))) | ((repeat (rename @Ne _ _ _ => hne9; clear hne9)); (repeat (rename And (@Ne _ _ _) _ => hne9; clear hne9)); omega))))
  (k_with "le" => (first | (refine' le_fr ?zla ?zlb; (case zlb => k_asm); (case zla => with_reducible assumption)) | exact Fr.keep (by k_asm)))
  (k_with "fin" => (((try dsimp only); (try k_unfold); (try dsimp only); refine ⟨_, _, _, rfl, by k_asm, ?_⟩)))
  (k_with "leF" => (first | exact fun _ F9 _ => le_fr (by with_reducible assumption) F9 | exact fun _ F9 _ => Fr.keep F9))
  (k_with "own inst" => ((refine' inst_kn ?le ?h1 ?h2; (case h1 => with_reducible assumption); (case h2 => with_reducible assumption); (case le => walk_at "le"))))
  (k_with "own fits" => (with_reducible assumption))
  (k_with "execs cons Assign cons" => (refine wpAny_execs_cons ?_))
  (k_with "exec For Name Call cons nil" => ((k_here; k_dflt (refine For_at ?_))))
  (k_with "getMethod ref" => ((k_here; first
      | (refine' getm_int ?d ?le ?_; (case d => with_reducible assumption); (case le => walk_at "le"))
      | (refine' getm_tup ?d ?le ?_; (case d => with_reducible assumption); (case le => walk_at "le")))))
  (k_with "key" => (exact key2 (by k_asm) (by k_mem)))
  (k_with "call builtin:dict.get" => ((k_here; first
      | (refine' get2_int ?d ?le ?lo ?_; (case d => with_reducible assumption); (case lo => with_reducible assumption); (case le => walk_at "le"))
      | (refine' get2_tup ?u ?d ?le ?lo ?k ?_; (case d => with_reducible assumption); (case lo => with_reducible assumption); (case u => ktr_units); (case le => walk_at "le"); (case k => walk_at "key")))))
  (k_with "enterC" => ((
      refine' enter_cells (args := ⟨_, []⟩) ?k1 ?k2 ?k3 ?k5 ?kA ?kF ?kK ?k6 ?k7 ?k8 ?k9 ?kB ?kD ?_ ?c2 ?c3 ?c4
      case kA => exact rfl
      case kF => exact rfl
      case kK => assumption
      case k1 => k_asm
      case k2 => k_asm
      case k3 => k_asm
      case k5 => k_asm
      case k6 => k_is
      case k7 => k_is
      case k8 => ktr_room
      case k9 => exact BindsTo.of_eq rfl
      case kB => exact rfl
      case kD => decide +kernel
      case c2 => exact rfl
      case c3 => exact rfl
      case c4 => exact rfl)))
  (k_with "enter" => ((
      refine' enter_pure (args := ⟨_, []⟩) ?k1 ?k2 ?k3 ?k5 ?kA ?kF ?kK ?k6 ?k7 ?k8 ?k9 ?kB ?_ ?c2 ?c3 ?c4 ?c5
      case kA => exact rfl
      case kF => exact rfl
      case kK => assumption
      case k1 => k_asm
      case k2 => k_asm
      case k3 => k_asm
      case k5 => k_asm
      case k6 => k_is
      case k7 => k_is
      case k8 => ktr_room
      case k9 => exact BindsTo.of_eq rfl
      case c5 => decide
      case kB => exact locs rfl
      case c2 => exact rfl
      case c3 => exact rfl
      case c4 => exact rfl)))
  (k_with "newList" => ((k_here; k_dflt (refine' newList_K ?k1 ?k2 ?_; (case k1 => k_asm); (case k2 => k_asm); k_whole); intro l₀ hl₀ Fl₀ Nl₀ ll₀; (try k_lt ll₀); (try k_sweep))))
  (k_with "newTuple" => ((k_here; k_dflt (refine' kup_newTuple ?zqk1 ?zqk2 ?_ ?zqk3; (case zqk1 => k_asm); (case zqk2 => k_asm); (case zqk3 => exact Nat.le_of_ble_eq_true rfl)); intro t₀ ht₀ Ft₀ Nt₀ lt₀; (try k_lt lt₀); (try k_sweep))))
  (k_with "call builtin:sorted" => ((k_here; k_dflt (
      refine' sorted_intD ?zqhh ?zqF ?zqN ?zqd ?zqle ?zqlo ?zqn ?_
      case zqd => with_reducible assumption
      case zqhh => exact rfl
      case zqF => k_asm
      case zqN => k_asm
      case zqle => walk_at "le"
      case zqlo => with_reducible assumption
      case zqn => with_reducible assumption
      intro D₁ h₁ tk₁ vs ns c₁ F₁ N₁ l₁ hI hP hW))))
  (k_with "call builtin:sorted" => ((k_here; k_dflt (
      refine' sorted_tupD ?zqhh ?zqF ?zqN ?zqd ?zqp ?zqle ?zqlo ?zqn ?_
      case zqd => with_reducible assumption
      case zqp => with_reducible assumption
      case zqhh => exact rfl
      case zqF => k_asm
      case zqN => k_asm
      case zqle => walk_at "leF"
      case zqlo => with_reducible assumption
      case zqn => assumption
      intro D₁ h₁ tk₁ vs qs c₁ F₁ N₁ l₁ hR hP hW))))
  (k_with "subscriptTail" => ((k_here; (with_reducible show wpAny _ _ (subscriptTail _ _ (Value.ref _) (Value.ref _)) _ _ _); k_dflt (
      refine' item_tup ?u ?d ?le ?k ?l ?_
      case d => with_reducible assumption
      case l => with_reducible assumption
      case u => ktr_units
      case le => walk_at "le"
      case k => (refine' KeyK.at (KeyK.mono ?zle ?zk); (case zk => with_reducible assumption); (case zle => walk_at "le"))))))
  (k_with "subscriptTail" => ((k_here; (with_reducible show wpAny _ _ (subscriptTail _ _ (Value.ref _) (Value.int _ _)) _ _ _); k_dflt (
      refine' item_int ?d ?le ?l ?_
      case d => with_reducible assumption
      case l => with_reducible assumption
      case le => walk_at "le"))))
  (k_with "compareOp In int ref" => ((k_here; k_dflt (
      refine' in_int ?d ?le ?lo ?_
      case d => with_reducible assumption
      case lo => with_reducible assumption
      case le => walk_at "le"))))
  (k_with "compareOp NotIn int ref" => ((k_here; k_dflt (
      refine' notin_int ?d ?le ?lo ?_
      case d => with_reducible assumption
      case lo => with_reducible assumption
      case le => walk_at "le"))))
  (k_with "truthy ref" => ((k_here; k_dflt (
      refine' truthy_row ?r ?le ?z ?_
      case r => with_reducible assumption
      case z => with_reducible assumption
      case le => walk_at "le"))))
  (k_with "call type:tuple" => ((k_here; (with_reducible show wpAny _ _ (call (Value.type _) [Value.ref _]) _ _ _); k_dflt (
      refine' tup_row ?r ?le ?_
      case r => with_reducible assumption
      case le => walk_at "le"))))
  (k_with "call type:tuple" => ((k_here; (with_reducible show wpAny _ _ (call (Value.type _) [Value.ref _]) _ _ _); k_dflt (
      refine' kde_tupleOf ?k1 ?k2 ?k3 ?k4 ?k5 ?_
      case k1 => k_asm
      case k2 => k_asm
      case k3 => exact News.isList (by k_asm) (by k_mem)
      case k4 => with_reducible assumption
      case k5 => exact rfl
      intro t₅ h₅ F₅ N₅ l₅
      (try k_lt l₅)))))
  (k_with "call ref" => ((k_here; (with_reducible show wpAny _ _ (call (Value.ref 35) _) _ _ _); k_dflt (
      refine' use_pure ?F ?N (is_default_spec ?B ?F2 ?X ?T ?k ?d ?u ?V) ?_
      case F => k_asm
      case N => k_asm
      case B => k_asm
      case F2 => k_asm
      case X => k_asm
      case T => k_asm
      case k => first | exact rfl | assumption
      case d => ktr_room
      case u => ktr_units
      case V => (refine' VarsK.mono ?zle ?zk; (case zk => with_reducible assumption); (case zle => walk_at "le"))
      intro _ _ _ _ _ _
      rintro rfl
      (try k_sweep)))))
  (k_with "call ref" => ((k_here; (with_reducible show wpAny _ _ (call (Value.ref 42) _) _ _ _); k_dflt (
      refine' use_pure ?zqF ?zqN (own_pairs_spec ?zqB ?zqF2 ?zqX ?zqT ?zqk ?zqd ?zqu ?zqK ?zqV ?zq6) ?_
      case zqF => k_asm
      case zqN => k_asm
      case zqB => k_asm
      case zqF2 => k_asm
      case zqX => k_asm
      case zqT => k_asm
      case zqk => first | exact rfl | assumption
      case zqd => ktr_room
      case zqu => ktr_units
      case zqV => with_reducible assumption
      case zqK => walk_at "le"
      case zq6 => with_reducible assumption
      intro r₂ h₂ tk₂ F₂ N₂ G₂ P₂
      obtain ⟨a₂, ws₂, ps₂, n₂, e₂, f₂, g₂, hR₂, hP₂, hW₂⟩ := P₂
      subst e₂
      have N₂' := News.grew (by k_asm) N₂ f₂ g₂))))
  (k_with "eval ListComp" => ((k_here; (with_reducible show wpAny _ _ (eval (Expr.ListComp _ [⟨_, _, [], _⟩] _ _) _) _ _ _); k_dflt (refine LCg.ListComp_U (F₀ := by k_asm) (by with_unfolding_all rfl) (by decide) (by rfl) (by decide) (by rfl) ?_))))
  (k_with "eval ListComp" => ((k_here; (with_reducible show wpAny _ _ (eval (Expr.ListComp _ [⟨_, _, [_], _⟩] _ _) _) _ _ _); k_dflt (refine LCt.ListComp_T (F₀ := by k_asm) (by with_unfolding_all rfl) (by decide) (by rfl) (by decide) (by rfl) ?_))))
  (k_with "own all" => (first | with_reducible assumption | (refine List.forall_mem_append.mpr ⟨?_, ?_⟩ <;> k_all)))
  (k_with "exec For Tuple Call cons nil" => ((k_here; k_dflt (refine For_at ?_))))
  (k_with "eval Dict nil nil" => ((k_here; k_dflt (refine' newDict_K ?zqk1 ?zqk2 (TopRead.nolimit (by k_asm)) ?_; (case zqk1 => k_asm); (case zqk2 => k_asm); k_whole); intro d₀ hd₀ o₀ Fd₀ Nd₀ ld₀ lod₀ hs₀ fs₀ hi₀ fi₀; clear hs₀ fs₀ fi₀; (try k_lt ld₀); (try k_sweep))))
  (k_with "eval ListComp" => ((k_here; (with_reducible show wpAny _ _ (eval (Expr.ListComp _ [⟨_, Expr.Subscript _ _ _, [_], _⟩] _ _) _) _ _ _); k_dflt (refine ListComp_WF (F₀ := by k_asm) (by with_unfolding_all rfl) (by decide) (by rfl) (by decide) (by rfl) ?_))))
  (k_with "setItem ref int" => ((k_here; k_dflt (
      refine' kda_set (knd := PySem.intKind _ _) ?zqF ?zqN ?zqU ?zqd (intKind_is _ _ _ _) ?zqz ?_
      case zqd => with_reducible assumption
      case zqF => k_asm
      case zqN => k_asm
      case zqU => k_updF
      case zqz => with_reducible assumption
      intro h₇ o₇ F₇ N₇ hd₇
      (try dsimp only at N₇)))))
  (k_with "subscriptTail" => ((k_here; (with_reducible show wpAny _ _ (subscriptTail _ _ (Value.ref _) (Value.ref _)) _ _ _); k_dflt (
      refine' item_tup ?u ?d ?le ?k ?l ?_
      case d => with_reducible assumption
      case l => with_reducible assumption
      case u => ktr_units
      case le => walk_at "le"
      case k => exact key2 (by k_asm) (by k_mem)))))
  (k_with "call ref" => ((k_here; (with_reducible show wpAny _ _ (call (Value.ref 50) _) _ _ _); k_dflt (
      refine' call_cls ?zk1 ?zk2 ?zk3 ?zk4 ?zk5 ?zk6 ?_
      case zk1 => k_asm
      case zk2 => k_asm
      case zk3 => k_asm
      case zk4 => k_is
      case zk5 => k_is
      case zk6 => k_is
      intro x₈ d₈ h₈ F₈ N₈ l₈ m₈
      (try k_lt l₈)
      (try k_lt2 m₈)
      (try (first | have hal₈ := allLt_ne l₈ | have hal₈ := allLt_ne l₈.2 | have hal₈ := allLt_ne l₈.2.2 | have hal₈ := allLt_ne l₈.2.2.2 | have hal₈ := allLt_ne l₈.2.2.2.2 | have hal₈ := allLt_ne l₈.2.2.2.2.2 | have hal₈ := allLt_ne l₈.2.2.2.2.2.2 | have hal₈ := allLt_ne l₈.2.2.2.2.2.2.2 | have hal₈ := allLt_ne l₈.2.2.2.2.2.2.2.2 | have hal₈ := allLt_ne l₈.2.2.2.2.2.2.2.2.2 | have hal₈ := allLt_ne l₈.2.2.2.2.2.2.2.2.2.2))
      (try k_sweep)
      refine' code_def ?zk1 ?zk2 ?zk3 ?zk4 ?zk5 ?zkA ?zkF ?zkK ?zk6 ?zk7 ?zk8 ?zk9 ?zkB ?_ ?zc2 ?zc3 ?zc4 ?zc5
      case zkA => exact rfl
      case zkF => exact rfl
      case zkK => exact rfl
      case zk1 => k_asm
      case zk2 => k_asm
      case zk3 => k_asm
      case zk4 => k_asm
      case zk5 => k_asm
      case zk6 => k_is
      case zk7 => k_is
      case zk8 => ktr_room
      case zk9 => exact BindsTo.of_eq rfl
      case zc5 => decide
      case zkB => exact locs rfl
      case zc2 => exact rfl
      case zc3 => exact rfl
      case zc4 => exact rfl
      intro g₉ L₉ h₉ FG₉ F₉ N₉ B₉ X₉ T₉
      (try dsimp only)
      (try k_lift B₉)
      (try k_fold)))))
  (k_with "le" => ((refine' le_addN ?zla ?zlb ?zlc ?zld; (case zlb => k_asm); (case zlc => k_asm); (case zla => with_reducible assumption); (case zld => walk_at "own subs"))))
  (k_with "leF" => (exact fun _ F9 N9 => le_addN (by with_reducible assumption) F9 N9 (by walk_at "own subs")))
  trivial
section
theorem row1_C5 : True := by
  (k_with "compareOp NotEq ref ref" => ((k_here; refine hold ?_)))
  trivial
def cutRow (W : Int → Bool) (D : List (Int × List Int)) (k : Int) : Option (Int × List Int) := if W k = true ∧ ((lk D k).getD []).filter W ≠ [] then some (k, ((lk D k).getD []).filter W) else none
def cutD (W : Int → Bool) (D : List (Int × List Int)) (ns : List Int) : List (Int × List Int) := ns.filterMap (cutRow W D)
def cutO (W : Int → Bool) (O : List ((Int × Int) × Int)) (ps : List (Int × Int)) : List ((Int × Int) × Int) := pairsOfQ O (ps.filter fun q => W q.1 && W q.2)
theorem cutD_keys {W : Int → Bool} {D : List (Int × List Int)} {ns : List Int} {k : Int} (h : k ∈ (cutD W D ns).map (·.1)) : k ∈ ns := by
  refine byC fun hG9 => ?_
  obtain ⟨x, hx, rfl⟩ := List.mem_map.mp h
  obtain ⟨y, hy, e⟩ := List.mem_filterMap.mp hx
  refine hG9 ?_
  clear hG9
  unfold cutRow at e
  split at e
  · cases e; exact hy
  · cases e
theorem cutO_keys {W : Int → Bool} {O : List ((Int × Int) × Int)} {qs : List (Int × Int)} {q : Int × Int} (h : q ∈ (cutO W O qs).map (·.1)) : q ∈ qs := by
  refine byC fun hG9 => ?_
  obtain ⟨x, hx, rfl⟩ := List.mem_map.mp h
  obtain ⟨y, hy, rfl⟩ := List.mem_map.mp hx
  refine hG9 ?_
  clear hG9
  exact (List.mem_filter.mp hy).1
theorem R2.keysH {β : Type} {P : Value → β → Prop} {xs : List (List Int × Addr × Value)} {O : List ((Int × Int) × β)} (R : R2 (fun a b => a.1 = kp b.1 ∧ P a.2.2 b.2) xs O) : xs.map (·.1) = (O.map (·.1)).map kp := by
  induction R with
  | nil => rfl
  | cons h _ ih => simpa [h.1] using ih
def Wn (kvs : List (Int × Value)) (k : Int) : Bool := (valueAt kvs k).isSome
section
variable {prog : Program} {w : World} {A₀ : Around} {E : Value → Shared → Prop} {s : Shared} {base h₀ : Heap} {L : Addr} {m : Str → Option Value}
  {p : Program} {loose : List Str} {mean : ExcName → Option Value} {mg mb : Str → Option Value} {dp un : Nat} {gd : Option (List Code)} {cn : Str} {cs : Scope} {ca : Addr} {ccd : Value} {cl : List (Str × Addr)} {outer : List Env}
inductive CutVP (prog : Program) (w : World) (κ : Kn) (wkvs : List (Int × Value)) (D : List (Int × List Int)) (O : List ((Int × Int) × Int)) (s : Shared) (r : Value) (h' : Heap) : Prop where
  | mk (v' : Addr) (dx' : Addr) (t1 : Tok) (t2 : Tok) (n : Nat) (dd' : Addr) (oo' : Addr) (tl : List (Addr × Obj)) (ns : List Int) (qs : List (Int × Int))
      (h0 : r = .ref v')
      (h1 : (∀ q ∈ (v', instObj 50 dx') :: (dx', two w (Str.ofString "defaults") (Str.ofString "others") t1 t2 (.ref dd') (.ref oo') n) :: tl, h'.get? q.1 = some q.2 ∧ s.heap.get? q.1 = none))
      (h2 : dx' < v')
      (h3 : AllLt dx' tl)
      (h4 : RowsK prog w (κ.add tl) dd' (cutD (Wn wkvs) D ns))
      (h5 : OthK prog w (κ.add tl) oo' (cutO (Wn wkvs) O qs))
      (h6 : ns.Perm (D.map (·.1)))
      (h7 : ns.Pairwise (· ≤ ·))
      (h8 : qs.Perm (O.map (·.1)))
      (h9 : qs.Pairwise (fun a b => ltP a b = true)) : CutVP prog w κ wkvs D O s r h'
set_option maxHeartbeats 4000000 in
theorem cut_vars_spec {v wd : Addr} {wkvs : List (Int × Value)} {D : List (Int × List Int)} {O : List ((Int × Int) × Int)} {κ : Kn} 
    (B : Below A₀ base outer h₀) (F : Fr h₀ L s.heap m) (X : (Mine.hd.heap_39 w.params).In h₀) (T : Top p loose mean mg mb h₀) (hk : cs.kind = .function)
    (hd : dp + 20 < recursionLimit) (hu : un + 240 < cLine) (hκ : Kn.le κ (kn s.heap)) (V : VarsK prog w κ v D O) (hw : DictK prog w κ wd wkvs) (lw : (wd == sysModules) = false) (h6 : O.length ≤ 6) (h7 : D.length ≤ 3) (h5 : ∀ d ∈ D, d.2.length ≤ 8) :
    wpAny (model prog w) (ktrTop dp un gd cn cs L ca ccd cl outer) (call (.ref 105) [.ref v, .ref wd])
      (Pure1 s fun r h' => CutVP prog w κ wkvs D O s r h') E s := by
  have V' := V
  refine byC fun hG9 => ?_
  obtain ⟨dd, oo, dx, t1, t2, n, h1, h2, ⟨lo, kvs, hD, R⟩, ⟨lo', xs, hO, R'⟩⟩ := V'
  refine hG9 ?_
  clear hG9
  have hkl : kvs.length < 64 := by rw [R.length]; omega
  walk_at "enterC"
  intro L' h' tk' cells' F' N' Y' B' X' T'
  clear B F X T
  k_cells Y'
  rename_i oS dS
  replace dS : oS.data = Data.cell (some (.ref wd)) := dS
  simp only [List.cons_append, List.nil_append, List.append_nil] at N'
  (try dsimp only)
  show wpAny _ _ _ _ _ _
  (try k_fold)
  refine letA ?_
  intro A9 hAu hAd
  simp only [units_deeper, depth_deeper] at hAu hAd
  (try dsimp only [ktrTop] at hAu hAd)
  k_steps
  have hndD : (D.map (·.1)).Nodup := by
    refine byC fun hG9 => ?_
    obtain ⟨_, _, _, _, _, _, _, _, hnd⟩ := hD
    refine hG9 ?_
    clear hG9
    rw [← R.keys]; exact hnd
  have hnsn : ns.Nodup := by rw [hP.nodup_iff, R.keys]; exact hndD
  refine ⟨_, D₁, vs, [(D₁, W.listOf vs.toArray c₁), (L' + 1, oS)], [(d₀, o₀)], ?m₀,
    fun i m nx => ∃ u1 u2 oi kvs' tl, m = (fun y => if y = Str.ofString "row" then u2 else if y = Str.ofString "selector" then u1 else ?m₀ y) ∧ nx = (d₀, oi) :: tl ∧ oi.IsDictOf (intKind prog w) kvs' ∧
      R2 (fun a b => a.1 = b.1 ∧ RowV (κ.add tl) a.2 b.2) kvs' (cutD (Wn wkvs) D (ns.take i)) ∧ (∀ p ∈ tl, p.1 ≠ d₀), rfl, rfl, by k_asm, ?_, ?_, ?_, ?_, ?_⟩
  · exact News.sub N₁ (by walk_at "own subs")
  · intro h _ hkeep
    exact ⟨_, hkeep _ (.head _), rfl, _, rfl⟩
  · exact ⟨_, _, o₀, [], [], upd2_self _ (Str.ofString "row") (Str.ofString "selector"), rfl, hi₀, .nil, fun _ hx => nomatch hx⟩
  · rintro i v I oI m₁ nx h tk hv hJ99 hI1 hI2 hI3 F₂ N₂
    refine byC fun hG9 => ?_
    obtain ⟨u1, u2, oi, kvs', tl, rfl, rfl, hoi, hR, htl⟩ := hJ99
    obtain ⟨k, t₁, rfl, hk1⟩ := intsGet hI hv
    refine hG9 ?_
    clear hG9
    have hkD := hP.mem_iff.mp (List.mem_of_getElem? hk1)
    rcases R.look k with ⟨e1, e2⟩ | ⟨x, row, e1, e2, r, rfl, hr⟩
    · obtain ⟨x, hx, rfl⟩ := List.mem_map.mp hkD
      exact absurd e1 (by obtain ⟨y, hy⟩ := valueAt_some_of_mem hx; rw [hy]; simp)
    have hr8 : row.length ≤ 8 := h5 _ (lk_some_mem e2)
    dsimp only [List.cons_append, List.nil_append] at N₂
    k_lt l₁
    k_lt hI1
    k_lt hI2
    (try (show wpAny _ _ _ _ _ _; k_fold))
    k_steps
    refine byC fun hG9 => ?_
    obtain ⟨rvs, htv, hiv⟩ := id hr
    refine hG9 ?_
    clear hG9
    have hz3 : rvs.length ≤ sizeLine := by rw [hiv.length, sizeLine_eq]; omega
    refine pyIter_row rfl (by k_asm) (by k_asm) htv hκ hz3 ?_
    intro g
    refine compT_inv (n := rvs.length) (fun j ys nx => nx = (I, oI) :: (D₁, W.listOf vs.toArray c₁) :: (L' + 1, oS) :: (d₀, oi) :: tl ∧ IntsAre ys ((row.take j).filter (Wn wkvs))) ?_ ?_ _ 0 [] _ (Nat.zero_add _) ⟨rfl, .nil⟩
    · rintro j v₂ ys nx I₂ oI₂ C oC D₂ m₂ h₂ tk₂ hj hv₂ hJ914 hC hm F₃ N₃ off ne
      refine byC fun hG9 => ?_
      obtain ⟨rfl, hys⟩ := hJ914
      obtain ⟨c, t₂, rfl, hc1⟩ := intsGet hiv hv₂
      obtain ⟨ne1, ne2, ne3⟩ := ne
      refine hG9 ?_
      clear hG9
      have htk : row.take (j + 1) = row.take j ++ [c] := by rw [List.take_add_one, hc1]; rfl
      have e9 : ∀ b, (valueAt wkvs c).isSome = b → Wn wkvs c = b := fun _ h => h
      (try (show wpAny _ _ _ _ _ _; k_fold))
      k_steps
      · refine CompEnd.intro (by k_asm) (by k_asm) _ (fun q hq => hq) off trivial ⟨rfl, ?_⟩
        rw [htk, List.filter_append]
        have := e9 _ (by assumption)
        simpa [this] using ksk_snoc hys
      · refine CompEnd.intro (by k_asm) (by k_asm) _ (fun q hq => hq) off trivial ⟨rfl, ?_⟩
        rw [htk, List.filter_append]
        have := e9 _ (by assumption)
        simpa [this] using hys
    · rintro ys nx hJ92
      refine byC fun hG9 => ?_
      obtain ⟨rfl, hys⟩ := hJ92
      refine hG9 ?_
      clear hG9
      rw [List.take_of_length_le (by rw [hiv.length]; exact Nat.le_refl _)] at hys
      intro D₃ h₃ tk₃ F₃ N₃ off₃
      refine byC fun hG9 => ?_
      obtain ⟨f1, f2, f3, f4, f5⟩ := off₃
      refine hG9 ?_
      clear hG9
      dsimp only at f1 f2 f3 f4
      have hz9 : ys.toArray.size ≤ 16384 := by
        rw [List.size_toArray, hys.length]
        have := List.length_filter_le (Wn wkvs) row
        omega
      have ht5 : ∀ t₅ : Addr, RowK (κ.add ((t₅, { cls := .type "tuple", data := .seq ys.toArray.toList.toArray }) :: tl)) t₅ (row.filter (Wn wkvs)) := fun t₅ => ⟨ys, ⟨_, 0, .inr (.head _), rfl, rfl⟩, hys⟩
      have hz5 : kvs'.length ≤ sizeLine := by
        rw [hR.length, sizeLine_eq]
        have q1 : (cutD (Wn wkvs) D (ns.take i)).length ≤ (ns.take i).length := List.length_filterMap_le _ _
        have q2 : (ns.take i).length ≤ ns.length := by rw [List.length_take]; omega
        rw [hP.length_eq, List.length_map] at q2; omega
      (try (show wpAny _ _ _ _ _ _; k_fold))
      k_steps
      · unfold Hold
        refine ne_nil (ht5 t₅) (RowK.empty Nt₀ rfl rfl) ?_ (fun _ _ x => x) (by ktr_units) ?_
        · exact le_addN hκ (by k_asm) Nt₀ (by walk_at "own subs")
        k_steps
        · refine TurnEnd.next (nx := (d₀, oi) :: tl) (by k_asm) (by k_asm) (by walk_at "own subs") hI3 ⟨some (.int k t₁), some (.ref t₅), oi, kvs', tl, by funext y; dsimp only; (repeat' split) <;> rfl, rfl, hoi, ?_, htl⟩
          rw [cutD, List.take_add_one, hk1, List.filterMap_append]
          have : cutRow (Wn wkvs) D k = none := by simp [cutRow, *]
          simpa [this, cutD] using hR
        · refine TurnEnd.next (nx := (d₀, o₇) :: (t₅, { cls := .type "tuple", data := .seq ys.toArray.toList.toArray }) :: tl) (by k_asm) (by k_asm) (by walk_at "own subs") ?_ ⟨some (.int k t₁), some (.ref t₅), o₇, _, _, by funext y; dsimp only; (repeat' split) <;> rfl, rfl, hd₇, ?_, ?_⟩
          · intro p hp
            rcases List.mem_cons.mp hp with rfl | hp
            · exact hI3 (d₀, oi) (.head _)
            · rcases List.mem_cons.mp hp with rfl | hp
              · exact Nat.ne_of_gt l₅.2.1
              · exact hI3 _ (.tail _ hp)
          · rw [cutD, List.take_add_one, hk1, List.filterMap_append]
            have e0 : cutRow (Wn wkvs) D k = some (k, row.filter (Wn wkvs)) := by simp [cutRow, Wn, *]
            have e1 : k ∉ kvs'.map (·.1) := by
              rw [R2.keys hR]
              exact fun hm => nodup_not hnsn hk1 (cutD_keys hm)
            rw [stored_new e1]
            refine (hR.imp fun _ _ ⟨a, x, e, y⟩ => ⟨a, x, e, y.mono (Kn.add_mono (fun _ _ x => x) fun _ x => .tail _ x)⟩).append ?_
            simp only [Option.toList, List.filterMap_cons, e0, List.filterMap_nil]
            exact .cons ⟨rfl, t₅, rfl, ht5 t₅⟩ .nil
          · intro p hp
            rcases List.mem_cons.mp hp with rfl | hp
            · exact Nat.ne_of_gt l₅.2.2.2.2.1
            · exact htl _ hp
      · refine TurnEnd.next (nx := (d₀, oi) :: tl) (by k_asm) (by k_asm) (by walk_at "own subs") hI3 ⟨some (.int k t₁), some (.ref t₅), oi, kvs', tl, by funext y; dsimp only; (repeat' split) <;> rfl, rfl, hoi, ?_, htl⟩
        rw [cutD, List.take_add_one, hk1, List.filterMap_append]
        have : cutRow (Wn wkvs) D k = none := by simp [cutRow, Wn, *]
        simpa [this, cutD] using hR
  · rintro m₁ nx h tk hJ94 F₂ N₂
    refine byC fun hG9 => ?_
    obtain ⟨u1, u2, oi, kvs', tl, rfl, rfl, hoi, hR, htl⟩ := hJ94
    refine hG9 ?_
    clear hG9
    rw [List.take_of_length_le (by rw [hI.length]; exact Nat.le_refl _)] at hR
    dsimp only [List.cons_append, List.nil_append] at N₂
    k_lt l₁
    refine byC fun hG9 => ?_
    obtain ⟨d₁, rfl⟩ : ∃ x, x = d₀ := ⟨_, rfl⟩
    obtain ⟨D₀, rfl⟩ : ∃ x, x = D₁ := ⟨_, rfl⟩
    refine hG9 ?_
    clear hG9
    have hxp : xs.map (·.1) = (O.map (·.1)).map kp := R'.keysH
    have h6' : (O.map (·.1)).length ≤ 6 := by simpa using h6
    have lod₁ := lod₀
    have hPn := hP
    have hWn := hW
    have hR9 := hR
    clear hi₀
    (try (show wpAny _ _ _ _ _ _; k_fold))
    k_steps
    refine ⟨_, D₁, vs, (D₁, W.listOf vs.toArray c₁) :: (L' + 1, oS) :: (d₁, oi) :: tl, [(d₀, o₀)], ?m₁₀,
      fun i m nx => ∃ u1 u2 o2 xs' t2, m = (fun y => if y = Str.ofString "code" then u2 else if y = Str.ofString "selector" then u1 else ?m₁₀ y) ∧ nx = (d₀, o2) :: t2 ∧ IsDictH prog w (κ.add t2) o2 xs' ∧
        R2 (fun a b => a.1 = kp b.1 ∧ IntV a.2.2 b.2) xs' (cutO (Wn wkvs) O (qs.take i)) ∧ (∀ p ∈ t2, p.1 ≠ d₀), rfl, rfl, by k_asm, ?_, ?_, ?_, ?_, ?_⟩
    · exact News.sub N₁ (by walk_at "own subs")
    · intro h _ hkeep
      exact ⟨_, hkeep _ (.head _), rfl, _, rfl⟩
    · exact ⟨_, _, o₀, [], [], upd2_self _ (Str.ofString "code") (Str.ofString "selector"), rfl, IsDictH.nil hi₀, .nil, fun _ hx => nomatch hx⟩
    · rintro i v I oI m₁ nx h tk hv hJ99 hI1 hI2 hI3 F₃ N₃
      refine byC fun hG9 => ?_
      obtain ⟨v1, v2, o2, xs', t2, rfl, rfl, ho2, hR2, ht2⟩ := hJ99
      obtain ⟨q, hq, a, rfl, hka⟩ := hR.get hv
      refine hG9 ?_
      clear hG9
      have hqO : q ∈ O.map (·.1) := hP.mem_iff.mp (List.mem_of_getElem? hq)
      refine byC fun hG9 => ?_
      obtain ⟨g, hg⟩ := lk_mem hqO
      refine hG9 ?_
      clear hG9
      rcases R'.lookH q with ⟨-, e2⟩ | ⟨ax, r, b, e1, e2, t, e3⟩
      · rw [e2] at hg; cases hg
      clear hg
      refine byC fun hG9 => ?_
      obtain ⟨ok, t3, t4, n3, hok, hcl, hdt⟩ := key_items (hka.mono hκ)
      refine hG9 ?_
      clear hG9
      have ht : IsTup s.heap a #[.int q.1 t3, .int q.2 t4] := ⟨_, hok, hcl, _, hdt⟩
      dsimp only [List.cons_append, List.nil_append] at N₃
      replace N₃ : News s.heap L' h ((I, oI) :: (D₁, W.listOf vs.toArray c₁) :: (L' + 1, oS) :: (d₁, oi) :: (d₀, o2) :: (t2 ++ tl)) := News.sub N₃ (by walk_at "own subs")
      have hta : ∀ p ∈ tl, p.1 ≠ d₀ := allLt_ne ld₀.2.2.2
      have hi7 : i < qs.length := (List.getElem?_eq_some_iff.mp hq).1
      have htk : qs.take (i + 1) = qs.take i ++ [q] := by rw [List.take_add_one, hq]; rfl
      have hz5 : xs'.length ≤ sizeLine := by
        rw [hR2.length, sizeLine_eq]
        have q1 : (cutO (Wn wkvs) O (qs.take i)).length ≤ (qs.take i).length := by rw [cutO, pairsOfQ, List.length_map]; exact List.length_filter_le _ _
        have q2 : (qs.take i).length ≤ qs.length := by rw [List.length_take]; omega
        rw [hP.length_eq] at q2; omega
      have e9 : ∀ k b, (valueAt wkvs k).isSome = b → Wn wkvs k = b := fun _ _ h => h
      subst e3
      rw [kp] at e1
      k_lt l₁
      k_lt hI1
      k_lt hI2
      (try (show wpAny _ _ _ _ _ _; k_fold))
      k_steps
      · refine setItem_H (κ := κ.add t2) (κ' := κ.add ((t₀, { cls := .type "tuple", data := .seq #[.int q.1 t3, .int q.2 t4] }) :: t2)) (by ktr_units) (by k_asm) Nt₀ (by k_updF) ho2 (KeyK.new (.inr (.head _))) ?_ ?_ _ ?_ (fun _ _ x => x) hz5 ?_
        · exact le_addN hκ (by k_asm) Nt₀ (by walk_at "own subs")
        · exact le_addN hκ (by k_asm) Nt₀ (by walk_at "own subs")
        · exact Kn.add_mono (fun _ _ x => x) fun _ x => .tail _ x
        intro h₇ o₇ F₇ N₇ hd₇
        try dsimp only at N₇
        k_steps
        refine TurnEnd.next (nx := (d₀, o₇) :: (t₀, { cls := .type "tuple", data := .seq #[.int q.1 t3, .int q.2 t4] }) :: t2) (by k_asm) (by k_asm) (by walk_at "own subs") ?_ ⟨some (.int q.1 t3), some (.int q.2 t4), o₇, _, _, by funext y; dsimp only; (repeat' split) <;> rfl, rfl, hd₇, ?_, ?_⟩
        · intro p hp
          rcases List.mem_cons.mp hp with rfl | hp
          · exact hI3 (d₀, o2) (.head _)
          · rcases List.mem_cons.mp hp with rfl | hp
            · exact Nat.ne_of_gt lt₀.2.1
            · exact hI3 _ (.tail _ hp)
        · have e0 : (Wn wkvs q.1 && Wn wkvs q.2) = true := by
            have := e9 q.1
            have := e9 q.2
            simp [*]
          have e1 : kp q ∉ xs'.map (·.1) := by
            rw [R2.keysH hR2]
            intro hm
            refine byC fun hG9 => ?_
            obtain ⟨y, hy, hyq⟩ := List.mem_map.mp hm
            refine hG9 ?_
            clear hG9
            have hyq := kp_inj hyq
            subst hyq
            exact nodup_not (ltP_nodup hW) hq (cutO_keys hy)
          rw [storedH_new (atKey_none e1), htk, cutO, List.filter_append, pairsOfQ, List.map_append]
          refine hR2.append ?_
          simp only [List.filter_cons, e0, if_true, List.filter_nil, List.map_cons, List.map_nil, e2, Option.getD_some]
          exact .cons ⟨rfl, t, rfl⟩ .nil
        · intro p hp
          rcases List.mem_cons.mp hp with rfl | hp
          · exact Nat.ne_of_gt lt₀.2.2.2.2.2.1
          · exact ht2 _ hp
      · refine TurnEnd.next (nx := (d₀, o2) :: t2) (by k_asm) (by k_asm) (by walk_at "own subs") hI3 ⟨some (.int q.1 t3), some (.int q.2 t4), o2, xs', t2, by funext y; dsimp only; (repeat' split) <;> rfl, rfl, ho2, ?_, ht2⟩
        rw [htk, cutO, List.filter_append]
        have : (Wn wkvs q.1 && Wn wkvs q.2) = false := by
          have := e9 q.1
          have := e9 q.2
          simp [*]
        simpa [this, cutO] using hR2
      · refine TurnEnd.next (nx := (d₀, o2) :: t2) (by k_asm) (by k_asm) (by walk_at "own subs") hI3 ⟨some (.int q.1 t3), some (.int q.2 t4), o2, xs', t2, by funext y; dsimp only; (repeat' split) <;> rfl, rfl, ho2, ?_, ht2⟩
        rw [htk, cutO, List.filter_append]
        have : (Wn wkvs q.1 && Wn wkvs q.2) = false := by
          have := e9 q.1
          have := e9 q.2
          simp [*]
        simpa [this, cutO] using hR2
    · rintro m₁ nx h tk hJ94 F₃ N₃
      refine byC fun hG9 => ?_
      obtain ⟨v1, v2, o2, xs', t2, rfl, rfl, ho2, hR2, ht2⟩ := hJ94
      refine hG9 ?_
      clear hG9
      rw [List.take_of_length_le (by rw [hR.length]; exact Nat.le_refl _)] at hR2
      dsimp only [List.cons_append, List.nil_append] at N₃
      replace N₃ : News s.heap L' h ((D₁, W.listOf vs.toArray c₁) :: (L' + 1, oS) :: (d₁, oi) :: (d₀, o2) :: (t2 ++ tl)) := News.sub N₃ (by walk_at "own subs")
      (try (show wpAny _ _ _ _ _ _; k_fold))
      k_steps
      walk_at "fin"
      have hks : kvs.map (·.1) = D.map (·.1) := R.keys
      refine ⟨x₈, d₈, ?tt1, ?tt2, 2, d₁, d₀, (d₁, oi) :: (d₀, o2) :: (t2 ++ tl), ns, qs, rfl, ?hN, m₈, ⟨l₈.2.2.1, l₈.2.2.2.1, l₈.2.2.2.2⟩, ⟨lod₁, kvs', ⟨oi, .inr (.head _), hoi⟩, ?hR⟩, ⟨lod₀, xs', (ho2.mono ?hK).K (.inr (.tail _ (.head _))), hR2⟩, hks ▸ hPn, hWn, hP, hW⟩
      case hN =>
        refine forall_news (L := L') (big := (x₈, instObj 50 d₈) :: (d₈, two w (Str.ofString "defaults") (Str.ofString "others") _ _ (.ref d₁) (.ref d₀) 2) :: (D₁, W.listOf vs.toArray c₁) :: (L' + 1, oS) :: (d₁, oi) :: (d₀, o2) :: (t2 ++ tl)) (by with_reducible assumption)
          (List.forall_mem_cons.mpr ⟨.head _, List.forall_mem_cons.mpr ⟨.tail _ (.head _), fun q hq => .tail _ (.tail _ (.tail _ (.tail _ hq)))⟩⟩)
      case hR => exact hR9.imp fun _ _ ⟨a, x, e, y⟩ => ⟨a, x, e, y.mono (Kn.add_mono (fun _ _ x => x) fun _ x => by simp [x])⟩
      case hK => exact Kn.add_mono (fun _ _ x => x) fun _ x => by simp [x]
end


end
section
/-- how a turn of a dict comprehension ends -/
def DEnd (h₀ : Heap) (L : Addr) (m : Str → Option Value) (s₁ : Shared) (I : Addr) (oI : Obj) (C : Addr) (oC : Obj) (D : Addr) (J : Obj → List (Addr × Obj) → Prop) (s₂ : Shared) : Prop :=
  ∃ h' tk oD' news', s₂ = { s₁ with heap := h', toks := tk } ∧ Fr h₀ L h' m ∧ News h₀ L h' ((I, oI) :: (C, oC) :: (D, oD') :: news') ∧ Off3 I C D news' ∧ J oD' news'
theorem DEnd.intro {h₀ : Heap} {L I C D : Addr} {m : Str → Option Value} {s₁ : Shared} {oI oC oD : Obj} {J : Obj → List (Addr × Obj) → Prop} {h' : Heap} {tk : Nat} {all : List (Addr × Obj)}
    (F : Fr h₀ L h' m) (N : News h₀ L h' all) (news' : List (Addr × Obj)) (sub : ∀ p ∈ (I, oI) :: (C, oC) :: (D, oD) :: news', p ∈ all) (off : Off3 I C D news') (r : J oD news') :
    DEnd h₀ L m s₁ I oI C oC D J { s₁ with heap := h', toks := tk } := ⟨h', tk, oD, news', rfl, F, fun p hp => N p (sub p hp), off, r⟩
def DStep (prog : Program) (w : World) (A : Around) (h₀ : Heap) (L : Addr) (m : Str → Option Value) (env : Env) (ifs : List PySem.Expr) (kx vx : PySem.Expr) (x : Str) (scope : Scope) (cl : List (Str × Addr)) (n : Nat) (P : Nat → Value → Prop) (J : Nat → Obj → List (Addr × Obj) → Prop) (s₂ : Shared) : Prop :=
  ∀ i v I oI C oC D oD m₂ h tk news, i < n → P i v → J i oD news → NsObj oC m₂ → m₂ x = some v → Fr h₀ L h m → News h₀ L h ((I, oI) :: (C, oC) :: (D, oD) :: news) → Off3 I C D news → ((@Ne Nat I C) ∧ (@Ne Nat I D) ∧ (@Ne Nat C D)) →
    wpAny (model prog w) A (forIn ifs true fun c r => if r = true then do let ok ← isTrue c (compEnvC scope cl C env) (eval c (compEnvC scope cl C env)); pure (ForInStep.yield ok) else pure (ForInStep.yield r)) (fun ok s₃ =>
      if ok = true then wpAny (model prog w) A (eval kx (compEnvC scope cl C env)) (fun kv s₄ => wpAny (model prog w) A (eval vx (compEnvC scope cl C env)) (fun vv s₅ =>
        wpAny (model prog w) A (dictSet D kv vv) (fun _ s₆ => DEnd h₀ L m { s₂ with heap := h, toks := tk } I oI C oC D (J (i + 1)) s₆) (fun _ _ => False) s₅) (fun _ _ => False) s₄) (fun _ _ => False) s₃
      else DEnd h₀ L m { s₂ with heap := h, toks := tk } I oI C oC D (J (i + 1)) s₃) (fun _ _ => False) { s₂ with heap := h, toks := tk }
def DFinE (h₀ : Heap) (L : Addr) (m : Str → Option Value) (Q : Value → Shared → Prop) (s : Shared) (D : Addr) (oD : Obj) (nx : List (Addr × Obj)) : Prop :=
  ∀ h' tk, Fr h₀ L h' m → News h₀ L h' ((D, oD) :: nx) → Off1 D nx → (sysModules < h₀.objs.size → (D == sysModules) = false) → Q (.ref D) { s with heap := h', toks := tk }
def DFinA (h₀ : Heap) (L : Addr) (m : Str → Option Value) (y : Str) (Q : Flow → Shared → Prop) (s : Shared) (D : Addr) (oD : Obj) (nx : List (Addr × Obj)) : Prop :=
  ∀ h' tk, Fr h₀ L h' (fun z => if z = y then some (.ref D) else m z) → News h₀ L h' ((D, oD) :: nx) → Off1 D nx → (sysModules < h₀.objs.size → (D == sysModules) = false) → Q .next { s with heap := h', toks := tk }
def SrcD (prog : Program) (w : World) (A : Around) (h₀ : Heap) (L : Addr) (m : Str → Option Value) (env : Env) (ifs : List PySem.Expr) (kx vx : PySem.Expr) (x : Str) (scope : Scope) (cl : List (Str × Addr)) (Fin : Shared → Addr → Obj → List (Addr × Obj) → Prop) (it : Value) (s₂ : Shared) : Prop :=
  ∃ (I : Addr) (fp : List Addr) (n : Nat) (P : Nat → Value → Prop) (St : Nat → Heap → Prop) (S : List (Addr × Obj) → Prop) (news : List (Addr × Obj)) (J : Nat → Obj → List (Addr × Obj) → Prop), it = .ref I ∧ Walks prog w A I fp [I] n P St ∧ (∀ i h, St i h → ∃ o, h.get? I = some o) ∧
    (∀ i (h h' : Heap) (o : Obj) (nw : List (Addr × Obj)), St i h → h.get? I = some o → h'.get? I = some o → (∀ b o, h₀.get? b = some o → h'.get? b = some o) → News h₀ L h' nw → S nw → St i h') ∧
    St 0 s₂.heap ∧ (∀ b ∈ fp, b < s₂.heap.objs.size) ∧ Fr h₀ L s₂.heap m ∧ News h₀ L s₂.heap news ∧ L ≠ I ∧ h₀.get? I = none ∧ (∀ p ∈ news, p.1 ≠ I) ∧
    J 0 { cls := .type "dict", dict := none, data := .dict #[] } news ∧ (∀ i oD nx, J i oD nx → S nx) ∧ DStep prog w A h₀ L m env ifs kx vx x scope cl n P J s₂ ∧
    (∀ D oD nx, J n oD nx → Fin s₂ D oD nx)
section
variable {prog : Program} {w : World} {A : Around} {E : Value → Shared → Prop} {s : Shared} {h₀ : Heap} {L : Addr} {m : Str → Option Value} {env : Env}
theorem block_D {kx vx iter : PySem.Expr} {ifs : List PySem.Expr} {x : Str} {px : Pos} {scope : Scope} {cl : List (Str × Addr)} {pos : Pos} {s₂ : Shared} {I : Addr} {fp : List Addr} {n : Nat} {P : Nat → Value → Prop} {St : Nat → Heap → Prop} {S : List (Addr × Obj) → Prop} {news : List (Addr × Obj)}
    {J : Nat → Obj → List (Addr × Obj) → Prop} {RR : Value → Addr → Result → Shared → Prop}
    (W : Walks prog w A I fp [I] n P St) (hIo : ∀ i h, St i h → ∃ o, h.get? I = some o)
    (hSt : ∀ i h h' o nw, St i h → h.get? I = some o → h'.get? I = some o → (∀ b o, h₀.get? b = some o → h'.get? b = some o) → News h₀ L h' nw → S nw → St i h')
    (hcell : ∀ y ∈ scope.names, y.2 ≠ .cell) (hkind : scope.kind = .function) (hx : scope.names.lookup x = some .local) (hst : St 0 s₂.heap) (hfp : ∀ b ∈ fp, b < s₂.heap.objs.size)
    (F : Fr h₀ L s₂.heap m) (N : News h₀ L s₂.heap news) (hIL : L ≠ I) (hI₀ : h₀.get? I = none) (off : ∀ p ∈ news, p.1 ≠ I) (hJ : J 0 { cls := .type "dict", dict := none, data := .dict #[] } news) (hS : ∀ i oD nx, J i oD nx → S nx)
    (step : DStep prog w A h₀ L m env ifs kx vx x scope cl n P J s₂)
    (hRR : ∀ D C h tk m' oD news', Fr h₀ L h m → News h₀ L h ((D, oD) :: news') → Off1 D news' → h.Ns C m' → h₀.get? C = none → h₀.get? D = none → C ≠ L → D ≠ L → C ≠ D → (∀ p ∈ news', p.1 ≠ C) → (sysModules < h₀.objs.size → (D == sysModules) = false) → J n oD news' → RR (.ref D) C (.ok .next) { s₂ with heap := h, toks := tk }) :
    wpAny (model prog w) A newDict (fun acc s₃ => wpAny (model prog w) A (newFunctionEnv scope env.globals cl [] env.qual none .none (some env)) (fun cenv s₄ =>
      codeAny (model prog w) A (.compStart (.DictComp kx vx [⟨.Name x px, iter, ifs, 0⟩] scope pos) 0 (.ref I) acc { cenv with scope := relabel scope env }) (RR acc cenv.locals) s₄) E s₃) E s₂ := by
  refine wpAny_newObj_type (wpAny_newFunctionEnv hcell (by intro y hy; simp at hy) (fun h₁ hns₁ hsb₁ => ?_) hkind)
  dsimp only at hns₁ hsb₁ ⊢
  generalize hH2 : s₂.heap.push { cls := .type "dict", dict := none, data := .dict #[] } = H2 at hns₁ hsb₁ ⊢
  have hC : H2.objs.size = s₂.heap.objs.size + 1 := by rw [← hH2, Heap.size_push]
  have hDC : s₂.heap.objs.size ≠ H2.objs.size := by rw [hC]; exact Nat.ne_of_lt (Nat.lt_succ_self _)
  have below : ∀ b, b < s₂.heap.objs.size → b ≠ H2.objs.size ∧ b ≠ s₂.heap.objs.size := fun b hb => ⟨by rw [hC]; exact Nat.ne_of_lt (Nat.lt_succ_of_lt hb), Nat.ne_of_lt hb⟩
  have hDf : s₂.heap.objs.size ∉ fp := fun hm => Nat.lt_irrefl _ (hfp _ hm)
  have hCf : H2.objs.size ∉ fp := fun hm => by have := hfp _ hm; rw [hC] at this; exact Nat.lt_irrefl _ (Nat.lt_of_succ_lt this)
  have hIf : I ∈ fp := W.sub I (List.mem_singleton.mpr rfl)
  have hIlt : I < s₂.heap.objs.size := hfp I hIf
  have old : ∀ b o, s₂.heap.get? b = some o → h₁.get? b = some o := fun b o e => hsb₁.extBut b o (below b (Heap.lt_size e)).1 (Heap.get?_push_of_some _ (hH2 ▸ Heap.get?_push_of_some _ e))
  have hacc : h₁.get? s₂.heap.objs.size = some { cls := .type "dict", dict := none, data := .dict #[] } := hsb₁.extBut _ _ hDC (Heap.get?_push_of_some _ (hH2 ▸ Heap.get?_push_size _ rfl))
  have hst₁ : St 0 h₁ := W.frame _ _ _ hst fun b _ o e => old b o e
  have fresh : ∀ a, s₂.heap.objs.size ≤ a → s₂.heap.get? a = none := fun a ha => by
    cases e : s₂.heap.get? a with
    | none => rfl
    | some o' => exact absurd (Heap.lt_size e) (Nat.not_lt.mpr ha)
  have fresh₀ : ∀ a, s₂.heap.objs.size ≤ a → h₀.get? a = none := fun a ha => by
    cases e : h₀.get? a with
    | none => rfl
    | some o' => have := F.keep a o' e; rw [fresh a ha] at this; cases this
  have hD₀ : h₀.get? s₂.heap.objs.size = none := fresh₀ _ (Nat.le_refl _)
  have hC₀ : h₀.get? H2.objs.size = none := fresh₀ _ (by rw [hC]; exact Nat.le_succ _)
  have hLlt : L < s₂.heap.objs.size := F.ns.lt
  have hDL : s₂.heap.objs.size ≠ L := Ne.symm (below L hLlt).2
  have hCL : H2.objs.size ≠ L := Ne.symm (below L hLlt).1
  have hCI : I ≠ H2.objs.size := (below I hIlt).1
  have hDI : I ≠ s₂.heap.objs.size := (below I hIlt).2
  have off₀ : Off3 I H2.objs.size s₂.heap.objs.size news := Off3.of fun p hp => ⟨off p hp, (below _ (Heap.lt_size (N p hp).1)).1, (below _ (Heap.lt_size (N p hp).1)).2⟩
  have loop : ∀ s₃ : Shared, s₃ = { s₂ with heap := h₁, toks := s₂.toks + ([] : List (Str × Value)).length } →
      codeAny (model prog w) A (.compLoop (.DictComp kx vx [⟨.Name x px, iter, ifs, 0⟩] scope pos) 0 (.ref I) (.ref s₂.heap.objs.size) (compEnvC scope cl H2.objs.size env))
        (RR (.ref s₂.heap.objs.size) H2.objs.size) s₃ := by
    rintro s₃ rfl
    refine codeAny_compLoop_testsD
      (fun k s' => ∃ h' tk i oD m' news', s' = { s₂ with heap := h', toks := tk } ∧ i ≤ n ∧ k = n + 1 - i ∧ St i h' ∧ Fr h₀ L h' m ∧ h'.Ns H2.objs.size m' ∧ News h₀ L h' ((s₂.heap.objs.size, oD) :: news') ∧
        Off3 I H2.objs.size s₂.heap.objs.size news' ∧ J i oD news') ?_ (n + 1)
      ⟨h₁, _, 0, _, _, news, rfl, Nat.zero_le _, rfl, hst₁, F.keeps old, hns₁, fun p hp => ?_, off₀, hJ⟩
    · rintro k s' ⟨h', tk, i, oD, m', news', rfl, hi, rfl, hst', F', hn', N', off', hJ'⟩
      by_cases hlt : i < n
      · refine W.item i _ _ _ hlt hst' fun v h₂ tk₂ hPv hst₂ hk₂ => ?_
        refine wpAny_assign_Name (wpAny_storeName_local (lookup_relabel_local hx) (hn'.at' fun o e => hk₂ _ o (by simpa using Ne.symm hCI) e) (fun h₃ hn₃ hs₃ => ?_) (by simp [compEnvC, relabel, hkind]))
        have hst₃ : St (i + 1) h₃ := W.frame _ _ _ hst₂ fun b hb o e => hs₃.extBut b o (fun q => hCf (by have q' : b = H2.objs.size := q; rw [← q']; exact hb)) e
        obtain ⟨oI, heI⟩ := hIo _ _ hst₃
        obtain ⟨oC, heC, hoC⟩ := ns_obj hn₃
        have F₃ : Fr h₀ L h₃ m := (fr_but F' hk₂ hIL hI₀).change hs₃ hCL hC₀
        have off3 := off'.mem
        have N₂ : News h₀ L h₂ ((s₂.heap.objs.size, oD) :: news') := news_but N' hk₂ fun p hp => by
          rcases List.mem_cons.mp hp with rfl | hp
          · exact Ne.symm hDI
          · exact (off3 p hp).1
        have N₃ : News h₀ L h₃ ((I, oI) :: (H2.objs.size, oC) :: (s₂.heap.objs.size, oD) :: news') := fun p hp => by
          rcases List.mem_cons.mp hp with rfl | hp
          · exact ⟨heI, Ne.symm hIL, hI₀⟩
          · rcases List.mem_cons.mp hp with rfl | hp
            · exact ⟨heC, hCL, hC₀⟩
            · have z := N₂ p hp
              refine ⟨hs₃.extBut _ _ ?_ z.1, z.2⟩
              rcases List.mem_cons.mp hp with rfl | hp
              · exact hDC
              · exact (off3 p hp).2.1
        have again : ∀ s₆, DEnd h₀ L m { s₂ with heap := h₃, toks := tk₂ } I oI H2.objs.size oC s₂.heap.objs.size (J (i + 1)) s₆ → ∃ q, q < n + 1 - i ∧
            ∃ h' tk i oD m' news', s₆ = { s₂ with heap := h', toks := tk } ∧ i ≤ n ∧ q = n + 1 - i ∧ St i h' ∧ Fr h₀ L h' m ∧ h'.Ns H2.objs.size m' ∧ News h₀ L h' ((s₂.heap.objs.size, oD) :: news') ∧
              Off3 I H2.objs.size s₂.heap.objs.size news' ∧ J i oD news' := by
          rintro s₆ ⟨h₄, tk₄, oD', news₄, rfl, F₄, N₄, off₄, J₄⟩
          have zI := (N₄ (I, oI) List.mem_cons_self).1
          have zC := (N₄ (H2.objs.size, oC) (List.mem_cons_of_mem _ List.mem_cons_self)).1
          have N₄' : News h₀ L h₄ news₄ := fun p hp => N₄ p (List.mem_cons_of_mem _ (List.mem_cons_of_mem _ (List.mem_cons_of_mem _ hp)))
          have hst₄ : St (i + 1) h₄ := hSt _ _ _ _ _ hst₃ heI zI F₄.keep N₄' (hS _ _ _ J₄)
          exact ⟨n + 1 - (i + 1), by omega, h₄, tk₄, i + 1, oD', _, news₄, rfl, hlt, rfl, hst₄, F₄, hoC.ns zC, fun p hp => N₄ p (List.mem_cons_of_mem _ (List.mem_cons_of_mem _ hp)), off₄, J₄⟩
        refine wpAny_mono (step i v I oI H2.objs.size oC s₂.heap.objs.size oD _ h₃ _ _ hlt hPv hJ' hoC (by simp) F₃ N₃ off' ⟨hCI, hDI, Ne.symm hDC⟩) (fun ok s₄ h₄ => ?_) fun _ _ e => e.elim
        cases ok with
        | true =>
          simp only [if_true] at h₄ ⊢
          exact wpAny_mono h₄ (fun kv s₅ h₅ => wpAny_mono h₅ (fun vv s₆ h₆ => wpAny_mono h₆ (fun _ s₇ h₇ => again _ h₇) fun _ _ e => e.elim) fun _ _ e => e.elim) fun _ _ e => e.elim
        | false =>
          simp only [Bool.false_eq_true, if_false] at h₄ ⊢
          exact again _ h₄
      · obtain rfl : i = n := Nat.le_antisymm hi (Nat.not_lt.mp hlt)
        refine W.done _ _ _ hst' fun h₂ tk₂ hk₂ => ?_
        have off3 := off'.mem
        exact hRR _ _ h₂ tk₂ _ oD news' (fr_but F' hk₂ hIL hI₀) (news_but N' hk₂ fun p hp => by
          rcases List.mem_cons.mp hp with rfl | hp
          · exact Ne.symm hDI
          · exact (off3 p hp).1) off'.one (hn'.at' fun o e => hk₂ _ o (by simpa using Ne.symm hCI) e) hC₀ hD₀ hCL hDL (Ne.symm hDC) (fun p hp => (off3 p hp).2.1) (fun hb => F.notModules hb) hJ'
    · rcases List.mem_cons.mp hp with rfl | hp
      · exact ⟨hacc, hDL, hD₀⟩
      · exact ⟨old _ _ (N p hp).1, (N p hp).2⟩
  exact codeAny_compStart_dict (loop _ rfl) (W.self 0 _ _ _ hst₁ (loop _ rfl))

theorem DictComp_L {kx vx iter : PySem.Expr} {ifs : List PySem.Expr} {x : Str} {px : Pos} {scope : Scope} {cl : List (Str × Addr)} {pos : Pos} {Q : Value → Shared → Prop} (F₀ : Fr h₀ L s.heap m)
    (hclos : closureFor scope env = pure cl) (hcell : ∀ y ∈ scope.names, y.2 ≠ .cell) (hkind : scope.kind = .function)
    (hnames : ∀ y ∈ scope.names, y.2 = .local → scope.names.lookup y.1 = some .local) (hx : scope.names.lookup x = some .local)
    (h : wpAny (model prog w) A (eval iter env) (fun xv s₁ => wpAny (model prog w) A (pyIter xv) (SrcD prog w A h₀ L m env ifs kx vx x scope cl (DFinE h₀ L m Q)) E s₁) E s)
    (hs : ∀ x, foldedSetIterable iter env x = pure x := by intro _; rfl) :
    wpAny (model prog w) A (eval (.DictComp kx vx [⟨.Name x px, iter, ifs, 0⟩] scope pos) env) Q E s := by
  rw [arm_eval_DictComp]
  refine wpAny_comprehension_free (use := none) rfl hs hclos hkind hnames (wpAny_mono h (fun xv s₁ h₁ => wpAny_mono h₁ (fun it s₂ h₂ => ?_) fun _ _ e => e) fun _ _ e => e)
  obtain ⟨I, fp, n, P, St, S, news, J, rfl, W, hIo, hSt, hst, hfp, F, N, hIL, hI₀, off, hJ, hS, step, fin⟩ := h₂
  refine block_D W hIo hSt hcell hkind hx hst hfp F N hIL hI₀ off hJ hS step ?_
  intro D C h' tk m' oD news' F' N' o1 hn hC₀ hD₀ hCL hDL hCD offC hlo hj
  refine ⟨m', hn, fun h'' hs'' => fin D oD news' hj h'' tk (F'.change hs'' hCL hC₀) (fun p hp => ?_) o1 hlo⟩
  refine ⟨hs''.extBut _ _ ?_ (N' p hp).1, (N' p hp).2⟩
  rcases List.mem_cons.mp hp with rfl | hp
  · exact Ne.symm hCD
  · exact offC p hp

theorem Assign_DictComp_L {kx vx iter : PySem.Expr} {ifs : List PySem.Expr} {x y : Str} {px py : Pos} {scope : Scope} {cl : List (Str × Addr)} {pos spos : Pos} {Q : Flow → Shared → Prop} (F₀ : Fr h₀ L s.heap m) (hLe : env.locals = L)
    (hsw : swapsWith (.DictComp kx vx [⟨.Name x px, iter, ifs, 0⟩] scope pos) (some (.Name y py)) spos.line env = pure true)
    (hclos : closureFor scope env = pure cl) (hcell : ∀ z ∈ scope.names, z.2 ≠ .cell) (hkind : scope.kind = .function)
    (hnames : ∀ z ∈ scope.names, z.2 = .local → scope.names.lookup z.1 = some .local) (hx : scope.names.lookup x = some .local)
    (hy : env.kindOf y = some .local) (hp : (env.scope.kind == .class || (env.scope.kind == .module && env.locals != env.globals)) = false)
    (h : wpAny (model prog w) A (eval iter env) (fun xv s₁ => wpAny (model prog w) A (pyIter xv) (SrcD prog w A h₀ L m env ifs kx vx x scope cl (DFinA h₀ L m y Q)) E s₁) E s)
    (hs : ∀ x, foldedSetIterable iter env x = pure x := by intro _; rfl) :
    wpAny (model prog w) A (exec (.Assign [.Name y py] (.DictComp kx vx [⟨.Name x px, iter, ifs, 0⟩] scope pos) spos) env) Q E s := by
  subst hLe
  rw [exec_Assign_Name_used _ _ _ _ hsw]
  refine wpAny_bind (wpAny_standAt (wpAny_bind ?_))
  show wpAny _ A (do let _ ← comprehension (.DictComp kx vx [⟨.Name x px, iter, ifs, 0⟩] scope pos) scope env _ newDict false (eval iter env) (some (assign (.Name y py) env))) _ _ s
  refine wpAny_bind (wpAny_mono (wpAny_comprehension_free (use := some (assign (.Name y py) env)) (Q := fun _ s' => Q .next s') rfl hs hclos hkind hnames
    (wpAny_mono h (fun xv s₁ h₁ => wpAny_mono h₁ (fun it s₂ h₂ => ?_) fun _ _ e => e) fun _ _ e => e)) (fun _ s' hq => wpAny_pure (wpAny_pure hq)) fun _ _ e => e)
  obtain ⟨I, fp, n, P, St, S, news, J, rfl, W, hIo, hSt, hst, hfp, F, N, hIL, hI₀, off, hJ, hS, step, fin⟩ := h₂
  refine block_D W hIo hSt hcell hkind hx hst hfp F N hIL hI₀ off hJ hS step ?_
  intro D C h' tk m' oD news' F' N' o1 hn hC₀ hD₀ hCL hDL hCD offC hlo hj
  show wpAny _ A (assign (.Name y py) env (.ref D)) _ _ _
  refine wpAny_assign_Name (wpAny_storeName_local hy F'.ns (fun h₂ hn₂ hs₂ => ?_) hp)
  have hL₀ : h₀.get? env.locals = none := Heap.get?_none_of_le F'.above
  have F₂ : Fr h₀ env.locals h₂ (fun z => if z = y then some (.ref D) else m z) := ⟨hn₂, fun b o e => hs₂.extBut b o (fun q => by rw [q, hL₀] at e; cases e) (F'.keep b o e), F'.above⟩
  refine ⟨m', hn.sameBut hs₂ hCL, fun h'' hs'' => fin D oD news' hj h'' _ (F₂.change hs'' hCL hC₀) (fun p hp => ?_) o1 hlo⟩
  have z : h₂.get? p.1 = some p.2 := hs₂.extBut _ _ (N' p hp).2.1 (N' p hp).1
  refine ⟨hs''.extBut _ _ ?_ z, (N' p hp).2⟩
  rcases List.mem_cons.mp hp with rfl | hp
  · exact Ne.symm hCD
  · exact offC p hp
abbrev emptyD : Obj := { cls := .type "dict", dict := none, data := .dict #[] }
theorem emptyD_int : (emptyD).IsDictOf (intKind prog w) [] := by
  have h := Heap.DictOf.new (knd := intKind prog w) (default : Heap)
  obtain ⟨o, ho, r⟩ := Heap.dictOf_iff.mp h
  have e := Heap.get?_push_size (o := emptyD) (default : Heap) rfl
  rw [e] at ho
  cases ho
  exact r
theorem keyiter_at {d I : Addr} {i n ep : Nat} {h h' : Heap} {o : Obj} (x : h.IsKeyIter I d i n ep) (e : h.get? I = some o) (e' : h'.get? I = some o) : h'.IsKeyIter I d i n ep := by
  obtain ⟨o', q, r⟩ := x
  rw [e] at q; cases q
  exact ⟨o, e', r⟩
theorem listiter_at {d I : Addr} {i : Nat} {h h' : Heap} {o : Obj} (x : h.IsListIter I d i) (e : h.get? I = some o) (e' : h'.get? I = some o) : h'.IsListIter I d i := by
  obtain ⟨o', q, r⟩ := x
  rw [e] at q; cases q
  exact ⟨o, e', r⟩
theorem dictAt_of {h : Heap} {d : Addr} {o : Obj} {kvs : List (Int × Value)} (e : h.get? d = some o) (hd : o.IsDictOf (intKind prog w) kvs) {ep : Nat} {es : Array DictEntry} (hx : o.data = .dict es ep) : h.DictAt (intKind prog w) d kvs ep := by
  obtain ⟨es', ep', hc, hdat, r⟩ := hd
  rw [hx] at hdat; cases hdat
  exact ⟨o, es, e, hc, hx, r⟩
theorem pyIter_dictD {kx vx : PySem.Expr} {ifs : List PySem.Expr} {x : Str} {scope : Scope} {cl : List (Str × Addr)} {Fin : Shared → Addr → Obj → List (Addr × Obj) → Prop} {d : Addr} {od : Obj} {kvs : List (Int × Value)} {news : List (Addr × Obj)}
    (hh : A.handled = none) (F : Fr h₀ L s.heap m) (N : News h₀ L s.heap news) (hd : od.IsDictOf (intKind prog w) kvs) (lo : (d == sysModules) = false) (S : List (Addr × Obj) → Prop)
    (hK : ∀ (h' : Heap) nw, (∀ b o, h₀.get? b = some o → h'.get? b = some o) → News h₀ L h' nw → S nw → h'.get? d = some od) (hs : S news)
    (J : Nat → Obj → List (Addr × Obj) → Prop) (hJ : J 0 emptyD news) (hS : ∀ i oD nx, J i oD nx → S nx)
    (step : ∀ g, DStep prog w A h₀ L m env ifs kx vx x scope cl kvs.length (fun i v => ∃ k y t, kvs[i]? = some (k, y) ∧ v = .int k t) J { s with heap := g })
    (fin : ∀ g D oD nx, J kvs.length oD nx → Fin { s with heap := g } D oD nx) :
    wpAny (model prog w) A (pyIter (.ref d)) (SrcD prog w A h₀ L m env ifs kx vx x scope cl Fin) E s := by
  obtain ⟨es, ep, hc, hdat, hr⟩ := id hd
  have e0 : s.heap.get? d = some od := hK _ _ F.keep N hs
  have hat : s.heap.DictAt (intKind prog w) d kvs ep := dictAt_of e0 hd hdat
  have hlt : d < s.heap.objs.size := Heap.lt_size e0
  refine wpAny_pyIter_dict lo hat ?_
  have hne : d ≠ s.heap.objs.size := Nat.ne_of_lt hlt
  refine ⟨_, _, _, _, _, S, news, J, rfl, (Walks.dictKeys (knd := intKind prog w) hh s.heap.objs.size d hne kvs ep).weaken (P' := fun i v => ∃ k y t, kvs[i]? = some (k, y) ∧ v = .int k t) ?_, fun i h st => ?_, ?_, ⟨⟨_, Heap.get?_push_size _ rfl, rfl, rfl⟩, hat.push _⟩, fun b hb => ?_,
    F.keeps fun _ _ e => Heap.get?_push_of_some _ e, N.grown fun _ _ e => Heap.get?_push_of_some _ e, Nat.ne_of_lt F.ns.lt, next_is_new F, fun p hp => Nat.ne_of_lt (Heap.lt_size (N p hp).1), hJ, hS, step _, fin _⟩
  · rintro i v ⟨k, y, e, hk⟩
    obtain ⟨t, rfl⟩ := Value.isInt_shape hk
    exact ⟨k, y, t, e, rfl⟩
  · obtain ⟨o, e, _⟩ := st.1; exact ⟨o, e⟩
  · intro i h h' o nw st e e' kp hN hS'
    exact ⟨keyiter_at st.1 e e', dictAt_of (hK _ _ kp hN hS') hd hdat⟩
  · show b < (s.heap.push _).objs.size
    rw [Heap.size_push]
    rcases List.mem_cons.mp hb with rfl | hb
    · exact Nat.lt_succ_self _
    · rw [List.mem_singleton.mp hb]; exact Nat.lt_succ_of_lt hlt
theorem pyIter_dictW {ct elt : PySem.Expr} {x : Str} {scope : Scope} {cl : List (Str × Addr)} {Q : Value → Shared → Prop} {d : Addr} {od : Obj} {kvs : List (Int × Value)} {news : List (Addr × Obj)}
    (hh : A.handled = none) (F : Fr h₀ L s.heap m) (N : News h₀ L s.heap news) (hd : od.IsDictOf (intKind prog w) kvs) (lo : (d == sysModules) = false) (S : List (Addr × Obj) → Prop)
    (hK : ∀ (h' : Heap) nw, (∀ b o, h₀.get? b = some o → h'.get? b = some o) → News h₀ L h' nw → S nw → h'.get? d = some od) (hs : S news) (hz : kvs.length ≤ sizeLine)
    (k : ∀ g, CompRestT prog w A h₀ L m env ct elt x scope cl { s with heap := g } S (fun i v => ∃ k y t, kvs[i]? = some (k, y) ∧ v = .int k t) (FinE h₀ L m { s with heap := g } Q) kvs.length 0 [] news) :
    wpAny (model prog w) A (pyIter (.ref d)) (SrcW prog w A h₀ L m env ct elt x scope cl Q) E s := by
  obtain ⟨es, ep, hc, hdat, hr⟩ := id hd
  have e0 : s.heap.get? d = some od := hK _ _ F.keep N hs
  have hat : s.heap.DictAt (intKind prog w) d kvs ep := dictAt_of e0 hd hdat
  have hlt : d < s.heap.objs.size := Heap.lt_size e0
  refine wpAny_pyIter_dict lo hat ?_
  have hne : d ≠ s.heap.objs.size := Nat.ne_of_lt hlt
  refine ⟨_, _, _, _, _, S, news, rfl, (Walks.dictKeys (knd := intKind prog w) hh s.heap.objs.size d hne kvs ep).weaken (P' := fun i v => ∃ k y t, kvs[i]? = some (k, y) ∧ v = .int k t) ?_, hz, fun i h st => ?_, ?_, ⟨⟨_, Heap.get?_push_size _ rfl, rfl, rfl⟩, hat.push _⟩, fun b hb => ?_,
    F.keeps fun _ _ e => Heap.get?_push_of_some _ e, N.grown fun _ _ e => Heap.get?_push_of_some _ e, Nat.ne_of_lt F.ns.lt, next_is_new F, fun p hp => Nat.ne_of_lt (Heap.lt_size (N p hp).1), hs, k _⟩
  · rintro i v ⟨k, y, e, hk⟩
    obtain ⟨t, rfl⟩ := Value.isInt_shape hk
    exact ⟨k, y, t, e, rfl⟩
  · obtain ⟨o, e, _⟩ := st.1; exact ⟨o, e⟩
  · intro i h h' o nw st e e' kp hN hS'
    exact ⟨keyiter_at st.1 e e', dictAt_of (hK _ _ kp hN hS') hd hdat⟩
  · show b < (s.heap.push _).objs.size
    rw [Heap.size_push]
    rcases List.mem_cons.mp hb with rfl | hb
    · exact Nat.lt_succ_self _
    · rw [List.mem_singleton.mp hb]; exact Nat.lt_succ_of_lt hlt
theorem pyIter_listD {kx vx : PySem.Expr} {ifs : List PySem.Expr} {x : Str} {scope : Scope} {cl : List (Str × Addr)} {Fin : Shared → Addr → Obj → List (Addr × Obj) → Prop} {d : Addr} {vs : List Value} {news : List (Addr × Obj)}
    (hh : A.handled = none) (F : Fr h₀ L s.heap m) (N : News h₀ L s.heap news) {c : Nat} (hm : (d, W.listOf vs.toArray c) ∈ news)
    (J : Nat → Obj → List (Addr × Obj) → Prop) (hJ : J 0 emptyD news) (hS : ∀ i oD nx, J i oD nx → (d, W.listOf vs.toArray c) ∈ nx)
    (step : ∀ g, DStep prog w A h₀ L m env ifs kx vx x scope cl vs.length (fun i v => vs[i]? = some v) J { s with heap := g })
    (fin : ∀ g D oD nx, J vs.length oD nx → Fin { s with heap := g } D oD nx) :
    wpAny (model prog w) A (pyIter (.ref d)) (SrcD prog w A h₀ L m env ifs kx vx x scope cl Fin) E s := by
  have e0 := (N _ hm).1
  have hl : s.heap.IsList d vs.toArray := ⟨_, e0, rfl, _, rfl⟩
  have hlt : d < s.heap.objs.size := Heap.lt_size e0
  refine wpAny_pyIter_list hl ?_
  have hne : d ≠ s.heap.objs.size := Nat.ne_of_lt hlt
  have up : ∀ b o, s.heap.get? b = some o → (s.heap.push { cls := .type "list_iterator", data := .fields #[.ref d, .int 0 0] }).get? b = some o := fun b o e => Heap.get?_push_of_some _ e
  have e1 : vs.toArray.size = vs.length := List.size_toArray
  have st' := step (s.heap.push { cls := .type "list_iterator", data := .fields #[.ref d, .int 0 0] })
  refine ⟨_, _, vs.toArray.size, _, _, fun nx => (d, W.listOf vs.toArray c) ∈ nx, news, J, rfl, Walks.list hh s.heap.objs.size d hne vs.toArray, fun i h st => by obtain ⟨o, e, _⟩ := st.1; exact ⟨o, e⟩, ?_, ⟨⟨_, Heap.get?_push_size _ rfl, rfl, rfl⟩, hl.push _⟩, fun b hb => ?_,
    F.keeps up, N.grown up, Nat.ne_of_lt F.ns.lt, next_is_new F, fun p hp => Nat.ne_of_lt (Heap.lt_size (N p hp).1), hJ, hS, ?_, ?_⟩
  · intro i h h' o nw st e e' kp hN hS'
    exact ⟨listiter_at st.1 e e', ⟨_, (hN _ hS').1, rfl, _, rfl⟩⟩
  · show b < (s.heap.push _).objs.size
    rw [Heap.size_push]
    rcases List.mem_cons.mp hb with rfl | hb
    · exact Nat.lt_succ_self _
    · rw [List.mem_singleton.mp hb]; exact Nat.lt_succ_of_lt hlt
  · rw [e1]; simpa using st'
  · rw [e1]; exact fin _

theorem dictSet_I {d : Addr} {o : Obj} {news : List (Addr × Obj)} {g : Obj → List (Addr × Obj)} {kvs : List (Int × Value)} {k : Int} {t : Tok} {v : Value} {Q : Unit → Shared → Prop} (F : Fr h₀ L s.heap m) (N : News h₀ L s.heap news) (U : UpdF d o news g)
    (hd : o.IsDictOf (intKind prog w) kvs) (hsz : kvs.length ≤ sizeLine)
    (h : ∀ h' o', Fr h₀ L h' m → News h₀ L h' (g o') → o'.IsDictOf (intKind prog w) (stored kvs k v) → Q () { s with heap := h', toks := s.toks + 1 }) : wpAny (model prog w) A (dictSet d (.int k t) v) Q E s := by
  obtain ⟨pre, post, rfl, hg, na, nb⟩ := U.split
  have hdn := N (d, o) (List.mem_append_right _ (.head _))
  refine wpAny_dictSet_pairs (hsz := hsz) (intKind_is _ _ _ _) (Heap.dictOf_iff.mpr ⟨o, hdn.1, hd⟩) fun h' hD' hs => ?_
  obtain ⟨o', ho, hd'⟩ := Heap.dictOf_iff.mp hD'
  have keep : ∀ b x, b ≠ d → s.heap.get? b = some x → h'.get? b = some x := fun b x hb e => hs.extBut b x hb e
  have F' : Fr h₀ L h' m := ⟨F.ns.at' fun x e => keep _ _ (fun q : L = d => hdn.2.1 q.symm) e, fun b x e => keep b x (fun q => by rw [q, hdn.2.2] at e; cases e) (F.keep b x e), F.above⟩
  refine h h' o' F' (fun p hp => ?_) hd'
  rw [hg] at hp
  rcases List.mem_append.mp hp with hp | hp
  · exact ⟨keep _ _ (na p hp) (N p (List.mem_append_left _ hp)).1, (N p (List.mem_append_left _ hp)).2⟩
  · rcases List.mem_cons.mp hp with rfl | hp
    · exact ⟨ho, hdn.2⟩
    · have z := N p (List.mem_append_right _ (.tail _ hp))
      exact ⟨keep _ _ (nb p hp) z.1, z.2⟩
theorem dictSet_H {d a : Addr} {κ κ' : Kn} {news : List (Addr × Obj)} {o : Obj} {g : Obj → List (Addr × Obj)} {xs : List (List Int × Addr × Value)} {ks : List Int} {v : Value} {Q : Unit → Shared → Prop} (hu : A.units + 2 < cLine) (F : Fr h₀ L s.heap m) (N : News h₀ L s.heap news) (U : UpdF d o news g)
    (hd : IsDictH prog w κ o xs) (hk : KeyK prog w κ' ks a) (le : Kn.le κ (kn s.heap)) (le' : Kn.le κ' (kn s.heap)) (κ'' : Kn) (l1 : Kn.le κ κ'') (l2 : Kn.le κ' κ'') (hsz : xs.length ≤ sizeLine)
    (h : ∀ h' o', Fr h₀ L h' m → News h₀ L h' (g o') → IsDictH prog w κ'' o' (storedH xs ks a v) → Q () { s with heap := h', toks := s.toks + (ks.length + 1) }) :
    wpAny (model prog w) A (dictSet d (.ref a) v) Q E s := by
  obtain ⟨pre, post, rfl, hg, na, nb⟩ := U.split
  have hdn := N (d, o) (List.mem_append_right _ (.head _))
  have hD : s.heap.DictOfH (tupleKind (intKind prog w)) d xs := ((hd.mono le).K hdn.1).at
  refine wpAny_dictSet_heap (knd := tupleKind (intKind prog w)) (hsz := hsz) (by show A.units < cLine; omega) (hk.mono le').at hD fun h' hD' hs => ?_
  obtain ⟨o', es, ep, ho, hc, hdat, hes, hks, hnd⟩ := hD'
  have keep : ∀ b x, b ≠ d → s.heap.get? b = some x → h'.get? b = some x := fun b x hb e => hs.extBut b x hb e
  have F' : Fr h₀ L h' m := ⟨F.ns.at' fun x e => keep _ _ (fun q : L = d => hdn.2.1 q.symm) e, fun b x e => keep b x (fun q => by rw [q, hdn.2.2] at e; cases e) (F.keep b x e), F.above⟩
  refine h h' o' F' (fun p hp => ?_) ⟨hc, es, ep, hdat, hes, fun x hx => ?_, hnd⟩
  · rw [hg] at hp
    rcases List.mem_append.mp hp with hp | hp
    · exact ⟨keep _ _ (na p hp) (N p (List.mem_append_left _ hp)).1, (N p (List.mem_append_left _ hp)).2⟩
    · rcases List.mem_cons.mp hp with rfl | hp
      · exact ⟨ho, hdn.2⟩
      · have z := N p (List.mem_append_right _ (.tail _ hp))
        exact ⟨keep _ _ (nb p hp) z.1, z.2⟩
  · rcases storedH_key hx with ⟨y, hy, e1, e2⟩ | ⟨e1, e2⟩
    · rw [← e1, ← e2]
      obtain ⟨_, _, _, _, _, k, _⟩ := hd
      exact (k y hy).mono l1
    · rw [e1, e2]; exact hk.mono l2
end


end
theorem rows_C7 : True := by
  k_with_none
  w_top off
  (k_with "own tail" => (first | ((repeat apply List.Mem.tail); first | exact hp | exact List.mem_append_left _ hp | exact List.mem_append_right _ hp) | (simp only [List.mem_cons, List.mem_append, List.not_mem_nil, or_false] at hp ⊢; grind)))
  (k_with "own subs" => (((try dsimp only [List.cons_append, List.nil_append]); (repeat (refine List.forall_mem_cons.mpr ⟨?_, ?_⟩; (· ((repeat (first | with_reducible exact List.Mem.head _ | refine List.Mem.tail _ ?_)); done)))); intro p hp; first | exact absurd hp List.not_mem_nil | ((repeat apply List.Mem.tail); first | exact hp | exact List.mem_append_left _ hp | exact List.mem_append_right _ hp) | (simp only [List.mem_cons, List.mem_append, List.not_mem_nil, or_false] at hp ⊢; grind))))
  (k_with "own ne" => ((refine neN ?_; (try dsimp only); first | assumption | exact Ne.symm (by assumption) | exact Nat.ne_of_lt (by assumption) | exact Nat.ne_of_gt (by assumption) | exact And.left (by assumption) | exact And.left (And.right (by assumption)) | exact And.right (And.right (by assumption)) | exact Ne.symm (And.left (by assumption)) | exact Ne.symm (And.left (And.right (by assumption))) | exact Ne.symm (And.right (And.right (by assumption))) | ((repeat (rename @Ne _ _ _ => hne9; clear hne9)); (repeat (rename And (@Ne _ _ _) _ => hne9; clear hne9)); omega))))
  (k_with "le" => (first | (refine' le_fr ?zla ?zlb; (case zlb => k_asm); (case zla => with_reducible assumption)) | exact Fr.keep (by k_asm)))
  (k_with "fin" => (((try dsimp only); (try k_unfold); (try dsimp only); refine ⟨_, _, _, rfl, by k_asm, ?_⟩)))
  (k_with "leF" => (first | exact fun _ F9 _ => le_fr (by with_reducible assumption) F9 | exact fun _ F9 _ => Fr.keep F9))
  (k_with "own inst" => ((refine' inst_kn ?le ?h1 ?h2; (case h1 => with_reducible assumption); (case h2 => with_reducible assumption); (case le => walk_at "le"))))
  (k_with "own fits" => (with_reducible assumption))
  (k_with "execs cons Assign cons" => (refine wpAny_execs_cons ?_))
  (k_with "exec For Name Call cons nil" => ((k_here; k_dflt (refine For_at ?_))))
  (k_with "getMethod ref" => ((k_here; first
      | (refine' getm_int ?d ?le ?_; (case d => with_reducible assumption); (case le => walk_at "le"))
      | (refine' getm_tup ?d ?le ?_; (case d => with_reducible assumption); (case le => walk_at "le")))))
  (k_with "key" => (exact key2 (by k_asm) (by k_mem)))
  (k_with "call builtin:dict.get" => ((k_here; first
      | (refine' get2_int ?d ?le ?lo ?_; (case d => with_reducible assumption); (case lo => with_reducible assumption); (case le => walk_at "le"))
      | (refine' get2_tup ?u ?d ?le ?lo ?k ?_; (case d => with_reducible assumption); (case lo => with_reducible assumption); (case u => ktr_units); (case le => walk_at "le"); (case k => walk_at "key")))))
  (k_with "enterC" => ((
      refine' enter_cells (args := ⟨_, []⟩) ?k1 ?k2 ?k3 ?k5 ?kA ?kF ?kK ?k6 ?k7 ?k8 ?k9 ?kB ?kD ?_ ?c2 ?c3 ?c4
      case kA => exact rfl
      case kF => exact rfl
      case kK => assumption
      case k1 => k_asm
      case k2 => k_asm
      case k3 => k_asm
      case k5 => k_asm
      case k6 => k_is
      case k7 => k_is
      case k8 => ktr_room
      case k9 => exact BindsTo.of_eq rfl
      case kB => exact rfl
      case kD => decide +kernel
      case c2 => exact rfl
      case c3 => exact rfl
      case c4 => exact rfl)))
  (k_with "enter" => ((
      refine' enter_pure (args := ⟨_, []⟩) ?k1 ?k2 ?k3 ?k5 ?kA ?kF ?kK ?k6 ?k7 ?k8 ?k9 ?kB ?_ ?c2 ?c3 ?c4 ?c5
      case kA => exact rfl
      case kF => exact rfl
      case kK => assumption
      case k1 => k_asm
      case k2 => k_asm
      case k3 => k_asm
      case k5 => k_asm
      case k6 => k_is
      case k7 => k_is
      case k8 => ktr_room
      case k9 => exact BindsTo.of_eq rfl
      case c5 => decide
      case kB => exact locs rfl
      case c2 => exact rfl
      case c3 => exact rfl
      case c4 => exact rfl)))
  (k_with "newList" => ((k_here; k_dflt (refine' newList_K ?k1 ?k2 ?_; (case k1 => k_asm); (case k2 => k_asm); k_whole); intro l₀ hl₀ Fl₀ Nl₀ ll₀; (try k_lt ll₀); (try k_sweep))))
  (k_with "newTuple" => ((k_here; k_dflt (refine' kup_newTuple ?zqk1 ?zqk2 ?_ ?zqk3; (case zqk1 => k_asm); (case zqk2 => k_asm); (case zqk3 => exact Nat.le_of_ble_eq_true rfl)); intro t₀ ht₀ Ft₀ Nt₀ lt₀; (try k_lt lt₀); (try k_sweep))))
  (k_with "call builtin:sorted" => ((k_here; k_dflt (
      refine' sorted_intD ?zqhh ?zqF ?zqN ?zqd ?zqle ?zqlo ?zqn ?_
      case zqd => with_reducible assumption
      case zqhh => exact rfl
      case zqF => k_asm
      case zqN => k_asm
      case zqle => walk_at "le"
      case zqlo => with_reducible assumption
      case zqn => with_reducible assumption
      intro D₁ h₁ tk₁ vs ns c₁ F₁ N₁ l₁ hI hP hW))))
  (k_with "call builtin:sorted" => ((k_here; k_dflt (
      refine' sorted_tupD ?zqhh ?zqF ?zqN ?zqd ?zqp ?zqle ?zqlo ?zqn ?_
      case zqd => with_reducible assumption
      case zqp => with_reducible assumption
      case zqhh => exact rfl
      case zqF => k_asm
      case zqN => k_asm
      case zqle => walk_at "leF"
      case zqlo => with_reducible assumption
      case zqn => assumption
      intro D₁ h₁ tk₁ vs qs c₁ F₁ N₁ l₁ hR hP hW))))
  (k_with "subscriptTail" => ((k_here; (with_reducible show wpAny _ _ (subscriptTail _ _ (Value.ref _) (Value.ref _)) _ _ _); k_dflt (
      refine' item_tup ?u ?d ?le ?k ?l ?_
      case d => with_reducible assumption
      case l => with_reducible assumption
      case u => ktr_units
      case le => walk_at "le"
      case k => (refine' KeyK.at (KeyK.mono ?zle ?zk); (case zk => with_reducible assumption); (case zle => walk_at "le"))))))
  (k_with "subscriptTail" => ((k_here; (with_reducible show wpAny _ _ (subscriptTail _ _ (Value.ref _) (Value.int _ _)) _ _ _); k_dflt (
      refine' item_int ?d ?le ?l ?_
      case d => with_reducible assumption
      case l => with_reducible assumption
      case le => walk_at "le"))))
  (k_with "compareOp In int ref" => ((k_here; k_dflt (
      refine' in_int ?d ?le ?lo ?_
      case d => with_reducible assumption
      case lo => with_reducible assumption
      case le => walk_at "le"))))
  (k_with "compareOp NotIn int ref" => ((k_here; k_dflt (
      refine' notin_int ?d ?le ?lo ?_
      case d => with_reducible assumption
      case lo => with_reducible assumption
      case le => walk_at "le"))))
  (k_with "truthy ref" => ((k_here; k_dflt (
      refine' truthy_row ?r ?le ?z ?_
      case r => with_reducible assumption
      case z => with_reducible assumption
      case le => walk_at "le"))))
  (k_with "call type:tuple" => ((k_here; (with_reducible show wpAny _ _ (call (Value.type _) [Value.ref _]) _ _ _); k_dflt (
      refine' tup_row ?r ?le ?_
      case r => with_reducible assumption
      case le => walk_at "le"))))
  (k_with "call type:tuple" => ((k_here; (with_reducible show wpAny _ _ (call (Value.type _) [Value.ref _]) _ _ _); k_dflt (
      refine' kde_tupleOf ?k1 ?k2 ?k3 ?k4 ?k5 ?_
      case k1 => k_asm
      case k2 => k_asm
      case k3 => exact News.isList (by k_asm) (by k_mem)
      case k4 => with_reducible assumption
      case k5 => exact rfl
      intro t₅ h₅ F₅ N₅ l₅
      (try k_lt l₅)))))
  (k_with "call ref" => ((k_here; (with_reducible show wpAny _ _ (call (Value.ref 35) _) _ _ _); k_dflt (
      refine' use_pure ?F ?N (is_default_spec ?B ?F2 ?X ?T ?k ?d ?u ?V) ?_
      case F => k_asm
      case N => k_asm
      case B => k_asm
      case F2 => k_asm
      case X => k_asm
      case T => k_asm
      case k => first | exact rfl | assumption
      case d => ktr_room
      case u => ktr_units
      case V => (refine' VarsK.mono ?zle ?zk; (case zk => with_reducible assumption); (case zle => walk_at "le"))
      intro _ _ _ _ _ _
      rintro rfl
      (try k_sweep)))))
  (k_with "call ref" => ((k_here; (with_reducible show wpAny _ _ (call (Value.ref 42) _) _ _ _); k_dflt (
      refine' use_pure ?zqF ?zqN (own_pairs_spec ?zqB ?zqF2 ?zqX ?zqT ?zqk ?zqd ?zqu ?zqK ?zqV ?zq6) ?_
      case zqF => k_asm
      case zqN => k_asm
      case zqB => k_asm
      case zqF2 => k_asm
      case zqX => k_asm
      case zqT => k_asm
      case zqk => first | exact rfl | assumption
      case zqd => ktr_room
      case zqu => ktr_units
      case zqV => with_reducible assumption
      case zqK => walk_at "le"
      case zq6 => with_reducible assumption
      intro r₂ h₂ tk₂ F₂ N₂ G₂ P₂
      obtain ⟨a₂, ws₂, ps₂, n₂, e₂, f₂, g₂, hR₂, hP₂, hW₂⟩ := P₂
      subst e₂
      have N₂' := News.grew (by k_asm) N₂ f₂ g₂))))
  (k_with "eval ListComp" => ((k_here; (with_reducible show wpAny _ _ (eval (Expr.ListComp _ [⟨_, _, [], _⟩] _ _) _) _ _ _); k_dflt (refine LCg.ListComp_U (F₀ := by k_asm) (by with_unfolding_all rfl) (by decide) (by rfl) (by decide) (by rfl) ?_))))
  (k_with "eval ListComp" => ((k_here; (with_reducible show wpAny _ _ (eval (Expr.ListComp _ [⟨_, _, [_], _⟩] _ _) _) _ _ _); k_dflt (refine LCt.ListComp_T (F₀ := by k_asm) (by with_unfolding_all rfl) (by decide) (by rfl) (by decide) (by rfl) ?_))))
  (k_with "own all" => (first | with_reducible assumption | (refine List.forall_mem_append.mpr ⟨?_, ?_⟩ <;> k_all)))
  (k_with "exec For Tuple Call cons nil" => ((k_here; k_dflt (refine For_at ?_))))
  (k_with "eval Dict nil nil" => ((k_here; k_dflt (refine' newDict_K ?zqk1 ?zqk2 (TopRead.nolimit (by k_asm)) ?_; (case zqk1 => k_asm); (case zqk2 => k_asm); k_whole); intro d₀ hd₀ o₀ Fd₀ Nd₀ ld₀ lod₀ hs₀ fs₀ hi₀ fi₀; clear hs₀ fs₀ fi₀; (try k_lt ld₀); (try k_sweep))))
  (k_with "eval ListComp" => ((k_here; (with_reducible show wpAny _ _ (eval (Expr.ListComp _ [⟨_, Expr.Subscript _ _ _, [_], _⟩] _ _) _) _ _ _); k_dflt (refine ListComp_WF (F₀ := by k_asm) (by with_unfolding_all rfl) (by decide) (by rfl) (by decide) (by rfl) ?_))))
  (k_with "setItem ref int" => ((k_here; k_dflt (
      refine' kda_set (knd := PySem.intKind _ _) ?zqF ?zqN ?zqU ?zqd (intKind_is _ _ _ _) ?zqz ?_
      case zqd => with_reducible assumption
      case zqF => k_asm
      case zqN => k_asm
      case zqU => k_updF
      case zqz => with_reducible assumption
      intro h₇ o₇ F₇ N₇ hd₇
      (try dsimp only at N₇)))))
  (k_with "subscriptTail" => ((k_here; (with_reducible show wpAny _ _ (subscriptTail _ _ (Value.ref _) (Value.ref _)) _ _ _); k_dflt (
      refine' item_tup ?u ?d ?le ?k ?l ?_
      case d => with_reducible assumption
      case l => with_reducible assumption
      case u => ktr_units
      case le => walk_at "le"
      case k => exact key2 (by k_asm) (by k_mem)))))
  (k_with "call ref" => ((k_here; (with_reducible show wpAny _ _ (call (Value.ref 50) _) _ _ _); k_dflt (
      refine' call_cls ?zk1 ?zk2 ?zk3 ?zk4 ?zk5 ?zk6 ?_
      case zk1 => k_asm
      case zk2 => k_asm
      case zk3 => k_asm
      case zk4 => k_is
      case zk5 => k_is
      case zk6 => k_is
      intro x₈ d₈ h₈ F₈ N₈ l₈ m₈
      (try k_lt l₈)
      (try k_lt2 m₈)
      (try (first | have hal₈ := allLt_ne l₈ | have hal₈ := allLt_ne l₈.2 | have hal₈ := allLt_ne l₈.2.2 | have hal₈ := allLt_ne l₈.2.2.2 | have hal₈ := allLt_ne l₈.2.2.2.2 | have hal₈ := allLt_ne l₈.2.2.2.2.2 | have hal₈ := allLt_ne l₈.2.2.2.2.2.2 | have hal₈ := allLt_ne l₈.2.2.2.2.2.2.2 | have hal₈ := allLt_ne l₈.2.2.2.2.2.2.2.2 | have hal₈ := allLt_ne l₈.2.2.2.2.2.2.2.2.2 | have hal₈ := allLt_ne l₈.2.2.2.2.2.2.2.2.2.2))
      (try k_sweep)
      refine' code_def ?zk1 ?zk2 ?zk3 ?zk4 ?zk5 ?zkA ?zkF ?zkK ?zk6 ?zk7 ?zk8 ?zk9 ?zkB ?_ ?zc2 ?zc3 ?zc4 ?zc5
      case zkA => exact rfl
      case zkF => exact rfl
      case zkK => exact rfl
      case zk1 => k_asm
      case zk2 => k_asm
      case zk3 => k_asm
      case zk4 => k_asm
      case zk5 => k_asm
      case zk6 => k_is
      case zk7 => k_is
      case zk8 => ktr_room
      case zk9 => exact BindsTo.of_eq rfl
      case zc5 => decide
      case zkB => exact locs rfl
      case zc2 => exact rfl
      case zc3 => exact rfl
      case zc4 => exact rfl
      intro g₉ L₉ h₉ FG₉ F₉ N₉ B₉ X₉ T₉
      (try dsimp only)
      (try k_lift B₉)
      (try k_fold)))))
  (k_with "le" => ((refine' le_addN ?zla ?zlb ?zlc ?zld; (case zlb => k_asm); (case zlc => k_asm); (case zla => with_reducible assumption); (case zld => walk_at "own subs"))))
  (k_with "leF" => (exact fun _ F9 N9 => le_addN (by with_reducible assumption) F9 N9 (by walk_at "own subs")))
  (k_with "call ref" => ((k_here; (with_reducible show wpAny _ _ (call (Value.ref 81) _) _ _ _); k_dflt (
      refine' use_pure ?zqF ?zqN (glyph_spec ?zqB ?zqF2 ?zqX ?zqT ?zqk ?zqd ?zqu ?zqV) ?_
      case zqF => k_asm
      case zqN => k_asm
      case zqB => k_asm
      case zqF2 => k_asm
      case zqX => k_asm
      case zqT => k_asm
      case zqk => first | exact rfl | assumption
      case zqd => ktr_room
      case zqu => ktr_units
      case zqV => (refine' CmK.mono ?zle ?zk; (case zk => with_reducible assumption); (case zle => walk_at "le"))
      intro r₃ h₃ tk₃ F₃ N₃ G₃ P₃
      obtain ⟨t₃, e₃⟩ := P₃
      subst e₃
      (try k_sweep)))))
  (k_with "call ref" => ((k_here; (with_reducible show wpAny _ _ (call (Value.ref 105) _) _ _ _); k_dflt (
      refine' use_pure ?zqF ?zqN (cut_vars_spec ?zqB ?zqF2 ?zqX ?zqT ?zqk ?zqd ?zqu ?zqK ?zqV ?zqw ?zql ?zq6 ?zq7 ?zq5) ?_
      case zqF => k_asm
      case zqN => k_asm
      case zqB => k_asm
      case zqF2 => k_asm
      case zqX => k_asm
      case zqT => k_asm
      case zqk => first | exact rfl | assumption
      case zqd => ktr_room
      case zqu => ktr_units
      case zqV => with_reducible assumption
      case zqw => with_reducible assumption
      case zqK => walk_at "le"
      case zql => with_reducible assumption
      case zq6 => with_reducible assumption
      case zq7 => with_reducible assumption
      case zq5 => assumption
      intro r₂ h₂ tk₂ F₂ N₂ G₂ P₂
      obtain ⟨v₂, dx₂, t₂₁, t₂₂, n₂, dd₂, oo₂, tl₂, ns₂, qs₂, e₂, hT₂, hlt₂, hal₂, hRw₂, hOt₂, hk₂, hkw₂, hp₂, hpw₂⟩ := P₂
      subst e₂
      have hz₂ := fresh_all hT₂ (by k_asm)
      simp only [List.forall_mem_cons] at hz₂
      have N₂' := News.grewL (by k_asm) N₂ hT₂
      dsimp only [List.cons_append] at N₂'))))
  (k_with "eval DictComp" => ((k_here; k_dflt (refine DictComp_L (F₀ := by k_asm) (by with_unfolding_all rfl) (by decide) (by rfl) (by decide) (by rfl) ?_))))
  (k_with "exec Assign cons DictComp" => ((k_here; k_dflt (refine Assign_DictComp_L (F₀ := by k_asm) (by rfl) (by with_unfolding_all rfl) (by with_unfolding_all rfl) (by decide) (by rfl) (by decide) (by rfl) (by rfl) (by rfl) ?_))))
  trivial
section
theorem off1_ne' {D : Addr} : ∀ {l : List (Addr × Obj)}, Off1 D l → ∀ p ∈ l, p.1 ≠ D
  | [], _, _, hp => nomatch hp
  | q :: l, ha, p, hp => by
    rcases List.mem_cons.mp hp with rfl | hp
    · exact ha.1
    · exact off1_ne' ha.2 p hp
section
variable {prog : Program} {w : World} {A₀ : Around} {E : Value → Shared → Prop} {s : Shared} {base h₀ : Heap} {L : Addr} {m : Str → Option Value}
  {p : Program} {loose : List Str} {mean : ExcName → Option Value} {mg mb : Str → Option Value} {dp un : Nat} {gd : Option (List Code)} {cn : Str} {cs : Scope} {ca : Addr} {ccd : Value} {cl : List (Str × Addr)} {outer : List Env}
set_option maxHeartbeats 16000000 in
theorem new_cm {d : Addr} {vv : Value} {news : List (Addr × Obj)} {Q : Value → Shared → Prop} {kvs : List (Int × Value)} {K0 : List (Int × Int)} {od : Obj}
    (B : Below A₀ base outer h₀) (F : Fr h₀ L s.heap m) (N : News h₀ L s.heap news) (X : (Mine.hd.heap_39 w.params).In h₀) (T : Top p loose mean mg mb h₀) (hk : cs.kind = .function)
    (hd : dp + 10 < recursionLimit) (hu : un + 80 < cLine) (hm : (d, od) ∈ news) (hod : od.IsDictOf (intKind prog w) kvs) (lo : (d == sysModules) = false) (R : R2 (fun a b => a.1 = b.1 ∧ IntV a.2 b.2) kvs K0) (hz : kvs.length ≤ 64)
    (h : ∀ x dx D oD ks h' tk t1 t2, Fr h₀ L h' m → News h₀ L h' ((x, instObj 96 dx) :: (dx, two w (Str.ofString "codes") (Str.ofString "variations") t1 t2 (.ref D) vv 2) :: (D, oD) :: news) → oD.IsDictOf (intKind prog w) ks →
      R2 (fun a b => a.1 = b.1 ∧ IntV a.2 b.2) ks (K0.filter fun x => x.2 != 0) → (D == sysModules) = false → Q (.ref x) { s with heap := h', toks := tk }) :
    wpAny (model prog w) (ktrTop dp un gd cn cs L ca ccd cl outer) (call (.ref 96) [.ref d, vv]) Q E s := by
  refine' call_cls ?zk1 ?zk2 ?zk3 ?zk4 ?zk5 ?zk6 ?_
  case zk1 => k_asm
  case zk2 => k_asm
  case zk3 => k_asm
  case zk4 => k_is
  case zk5 => k_is
  case zk6 => k_is
  intro x₈ d₈ h₈ F₈ N₈ l₈ m₈
  have hal₈ : ∀ p ∈ news, p.1 ≠ d₈ := fun p hp => Nat.ne_of_lt (l₈ p hp)
  (try k_lt2 m₈)
  refine' code_defC ?zk1 ?zk2 ?zk3 ?zk4 ?zk5 ?zkA ?zkF ?zkK ?zk6 ?zk7 ?zk8 ?zk9 ?zkB ?zkD ?_ ?zc2 ?zc3 ?zc4
  case zkA => exact rfl
  case zkF => exact rfl
  case zkK => exact hk
  case zk1 => k_asm
  case zk2 => k_asm
  case zk3 => k_asm
  case zk4 => k_asm
  case zk5 => k_asm
  case zk6 => k_is
  case zk7 => k_is
  case zk8 => ktr_room
  case zk9 => first | exact BindsTo.of_eq rfl | exact binds_K (by k_in) rfl (by k_is) rfl rfl rfl
  case zkB => exact rfl
  case zkD => decide +kernel
  case zc2 => exact rfl
  case zc3 => exact rfl
  case zc4 => exact rfl
  intro g₉ L₉ h₉ tk₉ cells₉ FG₉ F₉ N₉ Y₉ B₉ X₉ T₉ l₉
  (try k_lt l₉)
  k_cells Y₉
  (try simp only [List.cons_append, List.nil_append] at N₉)
  (try dsimp only)
  (try k_lift B₉)
  show wpAny _ _ _ _ _ _
  (try k_fold)
  refine letA ?_
  intro A9 hAu hAd
  simp only [units_deeper, depth_deeper] at hAu hAd
  (try dsimp only [ktrTop] at hAu hAd)
  rename_i oP dP
  replace dP : oP.data = Data.cell (some (.ref d)) := dP
  k_steps
  have hκ₉ : Kn.le (fun _ _ => False) (kn g₉) := fun _ _ x => x.elim
  have hD4 : DictK prog w (Kn.add (fun _ _ => False) [(d, od)]) d kvs := ⟨od, .inr (.head _), hod⟩
  have hnk : (kvs.map (·.1)).Nodup := by
    obtain ⟨_, _, _, _, _, _, hnd⟩ := hod; exact hnd
  refine pyIter_dictD rfl (by k_asm) N₉ hod lo (fun nx => (d, od) ∈ nx) (fun h' nw _ hN hm => (hN _ hm).1) (by simp [hm]) (fun i oD nx => nx = _ ∧ ∃ ks, oD.IsDictOf (intKind prog w) ks ∧ R2 (fun a b => a.1 = b.1 ∧ IntV a.2 b.2) ks ((K0.take i).filter fun x => x.2 != 0)) ⟨rfl, [], emptyD_int, .nil⟩ ?_ (fun g => ?_) (fun g D₉ oD₉ nx hj => ?_)
  · rintro i oD nx ⟨rfl, _⟩; simp [hm]
  · rintro i v₁ I oI C' oC' D₂ oD m₂ h tk nx hi hJ913 hJ914 hC hm2 F₂ N₂ off ne
    refine byC fun hG9 => ?_
    obtain ⟨k, y, t₁, hk1, rfl⟩ := hJ913
    obtain ⟨rfl, ks, hoD', hRk'⟩ := hJ914
    obtain ⟨⟨k', b⟩, hb, e0, t, ey⟩ := R.get hk1
    refine hG9 ?_
    clear hG9
    dsimp only at e0 ey
    subst e0
    subst ey
    have e1 := valueAt_get hnk hk1
    refine byC fun hG9 => ?_
    obtain ⟨ne1, ne2, ne3⟩ := ne
    refine hG9 ?_
    clear hG9
    have off9 := off
    refine byC fun hG9 => ?_
    obtain ⟨p0, p0', p0'', p10⟩ := off
    refine hG9 ?_
    clear hG9
    dsimp only at p0 p0' p0''
    have p10' : ∀ p ∈ news, p.1 ≠ D₂ := fun p hp => (p10.mem p hp).2.2
    have htk : K0.take (i + 1) = K0.take i ++ [(k, b)] := by rw [List.take_add_one, hb]; rfl
    have hz5 : ks.length ≤ sizeLine := by
      rw [hRk'.length, sizeLine_eq]
      have q1 := List.length_filter_le (fun x : Int × Int => x.2 != 0) (K0.take i)
      have q2 : (K0.take i).length ≤ K0.length := by rw [List.length_take]; omega
      rw [R.length] at hz; omega
    refine wpAny_tests_one ?_
    (try (show wpAny _ _ _ _ _ _; k_fold))
    k_steps
    · refine dictSet_I (by k_asm) (by k_asm) (by k_updF) hoD' hz5 ?_
      intro h₇ o₇ F₇ N₇ hd₇
      refine DEnd.intro (oD := o₇) (by k_asm) (by k_asm) _ (fun p hp => hp) off9 ⟨rfl, _, hd₇, ?_⟩
      have e9 : k ∉ ks.map (·.1) := by
        rw [R2.keys hRk']
        intro hm
        refine byC fun hG9 => ?_
        obtain ⟨y, hy, hyk⟩ := List.mem_map.mp hm
        refine hG9 ?_
        clear hG9
        have hy2 := (List.mem_filter.mp hy).1
        have hnk' : (K0.map (·.1)).Nodup := by rw [← R2.keys R]; exact hnk
        have hk9 : (K0.map (·.1))[i]? = some k := by rw [List.getElem?_map, hb]; rfl
        refine nodup_not hnk' hk9 ?_
        rw [← List.map_take]
        exact List.mem_map.mpr ⟨y, hy2, hyk⟩
      rw [stored_new e9, htk, List.filter_append]
      refine hRk'.append ?_
      rw [List.filter_cons, if_pos (by simp [*]), List.filter_nil]
      exact .cons ⟨rfl, t, rfl⟩ .nil
    · refine DEnd.intro (oD := oD) (by k_asm) (by k_asm) _ (fun p hp => hp) off9 ⟨rfl, ks, hoD', ?_⟩
      rw [htk, List.filter_append]
      simpa [*] using hRk'
  · obtain ⟨rfl, ks, hoD₉, hRk₉⟩ := hj
    rw [List.take_of_length_le (by rw [R.length]; exact Nat.le_refl _)] at hRk₉
    intro h₁₀ tk₁₀ F₁₀ N₁₀ off₁₀ lo₁₀
    have lo₁₀ := lo₁₀ (modules_low (TopRead.nolimit (by k_asm)))
    refine byC fun hG9 => ?_
    obtain ⟨q0, q0', q0'', q10⟩ := off₁₀
    refine hG9 ?_
    clear hG9
    dsimp only at q0 q0' q0''
    replace q0' := neN q0'
    replace q0'' := neN q0''
    have q10' := off1_ne' q10
    k_steps
    refine' h x₈ d₈ D₉ oD₉ ks _ _ _ _ ?hF (News.sub ?hN ?hs) hoD₉ hRk₉ lo₁₀
    case hF => with_reducible assumption
    case hN => with_reducible assumption
    case hs =>
      refine List.forall_mem_cons.mpr ⟨.tail _ (.tail _ (.head _)), List.forall_mem_cons.mpr ⟨?hs1, List.forall_mem_cons.mpr ⟨.head _, fun q hq => .tail _ (.tail _ (.tail _ (.tail _ hq)))⟩⟩⟩
      case hs1 =>
        refine List.Mem.tail _ (List.Mem.tail _ (List.Mem.tail _ ?_))
        unfold two
        exact List.Mem.head _
end


end
theorem rows_C6 : True := by
  k_with_none
  w_top off
  (k_with "own tail" => (first | ((repeat apply List.Mem.tail); first | exact hp | exact List.mem_append_left _ hp | exact List.mem_append_right _ hp) | (simp only [List.mem_cons, List.mem_append, List.not_mem_nil, or_false] at hp ⊢; grind)))
  (k_with "own subs" => (((try dsimp only [List.cons_append, List.nil_append]); (repeat (refine List.forall_mem_cons.mpr ⟨?_, ?_⟩; (· ((repeat (first | with_reducible exact List.Mem.head _ | refine List.Mem.tail _ ?_)); done)))); intro p hp; first | exact absurd hp List.not_mem_nil | ((repeat apply List.Mem.tail); first | exact hp | exact List.mem_append_left _ hp | exact List.mem_append_right _ hp) | (simp only [List.mem_cons, List.mem_append, List.not_mem_nil, or_false] at hp ⊢; grind))))
  (k_with "own ne" => ((refine neN ?_; (try dsimp only); first | assumption | exact Ne.symm (by assumption) | exact Nat.ne_of_lt (by assumption) | exact Nat.ne_of_gt (by assumption) | exact And.left (by assumption) | exact And.left (And.right (by assumption)) | exact And.right (And.right (by assumption)) | exact Ne.symm (And.left (by assumption)) | exact Ne.symm (And.left (And.right (by assumption))) | exact Ne.symm (And.right (And.right (by assumption))) | ((repeat (rename @Ne _ _ _ => hne9; clear hne9)); (repeat (rename And (@Ne _ _ _) _ => hne9; clear hne9)); omega))))
  (k_with "le" => (first | (refine' le_fr ?zla ?zlb; (case zlb => k_asm); (case zla => with_reducible assumption)) | exact Fr.keep (by k_asm)))
  (k_with "fin" => (((try dsimp only); (try k_unfold); (try dsimp only); refine ⟨_, _, _, rfl, by k_asm, ?_⟩)))
  (k_with "leF" => (first | exact fun _ F9 _ => le_fr (by with_reducible assumption) F9 | exact fun _ F9 _ => Fr.keep F9))
  (k_with "own inst" => ((refine' inst_kn ?le ?h1 ?h2; (case h1 => with_reducible assumption); (case h2 => with_reducible assumption); (case le => walk_at "le"))))
  (k_with "own fits" => (with_reducible assumption))
  (k_with "execs cons Assign cons" => (refine wpAny_execs_cons ?_))
  (k_with "exec For Name Call cons nil" => ((k_here; k_dflt (refine For_at ?_))))
  (k_with "getMethod ref" => ((k_here; first
      | (refine' getm_int ?d ?le ?_; (case d => with_reducible assumption); (case le => walk_at "le"))
      | (refine' getm_tup ?d ?le ?_; (case d => with_reducible assumption); (case le => walk_at "le")))))
  (k_with "key" => (exact key2 (by k_asm) (by k_mem)))
  (k_with "call builtin:dict.get" => ((k_here; first
      | (refine' get2_int ?d ?le ?lo ?_; (case d => with_reducible assumption); (case lo => with_reducible assumption); (case le => walk_at "le"))
      | (refine' get2_tup ?u ?d ?le ?lo ?k ?_; (case d => with_reducible assumption); (case lo => with_reducible assumption); (case u => ktr_units); (case le => walk_at "le"); (case k => walk_at "key")))))
  (k_with "enterC" => ((
      refine' enter_cells (args := ⟨_, []⟩) ?k1 ?k2 ?k3 ?k5 ?kA ?kF ?kK ?k6 ?k7 ?k8 ?k9 ?kB ?kD ?_ ?c2 ?c3 ?c4
      case kA => exact rfl
      case kF => exact rfl
      case kK => assumption
      case k1 => k_asm
      case k2 => k_asm
      case k3 => k_asm
      case k5 => k_asm
      case k6 => k_is
      case k7 => k_is
      case k8 => ktr_room
      case k9 => exact BindsTo.of_eq rfl
      case kB => exact rfl
      case kD => decide +kernel
      case c2 => exact rfl
      case c3 => exact rfl
      case c4 => exact rfl)))
  (k_with "enter" => ((
      refine' enter_pure (args := ⟨_, []⟩) ?k1 ?k2 ?k3 ?k5 ?kA ?kF ?kK ?k6 ?k7 ?k8 ?k9 ?kB ?_ ?c2 ?c3 ?c4 ?c5
      case kA => exact rfl
      case kF => exact rfl
      case kK => assumption
      case k1 => k_asm
      case k2 => k_asm
      case k3 => k_asm
      case k5 => k_asm
      case k6 => k_is
      case k7 => k_is
      case k8 => ktr_room
      case k9 => exact BindsTo.of_eq rfl
      case c5 => decide
      case kB => exact locs rfl
      case c2 => exact rfl
      case c3 => exact rfl
      case c4 => exact rfl)))
  (k_with "newList" => ((k_here; k_dflt (refine' newList_K ?k1 ?k2 ?_; (case k1 => k_asm); (case k2 => k_asm); k_whole); intro l₀ hl₀ Fl₀ Nl₀ ll₀; (try k_lt ll₀); (try k_sweep))))
  (k_with "newTuple" => ((k_here; k_dflt (refine' kup_newTuple ?zqk1 ?zqk2 ?_ ?zqk3; (case zqk1 => k_asm); (case zqk2 => k_asm); (case zqk3 => exact Nat.le_of_ble_eq_true rfl)); intro t₀ ht₀ Ft₀ Nt₀ lt₀; (try k_lt lt₀); (try k_sweep))))
  (k_with "call builtin:sorted" => ((k_here; k_dflt (
      refine' sorted_intD ?zqhh ?zqF ?zqN ?zqd ?zqle ?zqlo ?zqn ?_
      case zqd => with_reducible assumption
      case zqhh => exact rfl
      case zqF => k_asm
      case zqN => k_asm
      case zqle => walk_at "le"
      case zqlo => with_reducible assumption
      case zqn => with_reducible assumption
      intro D₁ h₁ tk₁ vs ns c₁ F₁ N₁ l₁ hI hP hW))))
  (k_with "call builtin:sorted" => ((k_here; k_dflt (
      refine' sorted_tupD ?zqhh ?zqF ?zqN ?zqd ?zqp ?zqle ?zqlo ?zqn ?_
      case zqd => with_reducible assumption
      case zqp => with_reducible assumption
      case zqhh => exact rfl
      case zqF => k_asm
      case zqN => k_asm
      case zqle => walk_at "leF"
      case zqlo => with_reducible assumption
      case zqn => assumption
      intro D₁ h₁ tk₁ vs qs c₁ F₁ N₁ l₁ hR hP hW))))
  (k_with "subscriptTail" => ((k_here; (with_reducible show wpAny _ _ (subscriptTail _ _ (Value.ref _) (Value.ref _)) _ _ _); k_dflt (
      refine' item_tup ?u ?d ?le ?k ?l ?_
      case d => with_reducible assumption
      case l => with_reducible assumption
      case u => ktr_units
      case le => walk_at "le"
      case k => (refine' KeyK.at (KeyK.mono ?zle ?zk); (case zk => with_reducible assumption); (case zle => walk_at "le"))))))
  (k_with "subscriptTail" => ((k_here; (with_reducible show wpAny _ _ (subscriptTail _ _ (Value.ref _) (Value.int _ _)) _ _ _); k_dflt (
      refine' item_int ?d ?le ?l ?_
      case d => with_reducible assumption
      case l => with_reducible assumption
      case le => walk_at "le"))))
  (k_with "compareOp In int ref" => ((k_here; k_dflt (
      refine' in_int ?d ?le ?lo ?_
      case d => with_reducible assumption
      case lo => with_reducible assumption
      case le => walk_at "le"))))
  (k_with "compareOp NotIn int ref" => ((k_here; k_dflt (
      refine' notin_int ?d ?le ?lo ?_
      case d => with_reducible assumption
      case lo => with_reducible assumption
      case le => walk_at "le"))))
  (k_with "truthy ref" => ((k_here; k_dflt (
      refine' truthy_row ?r ?le ?z ?_
      case r => with_reducible assumption
      case z => with_reducible assumption
      case le => walk_at "le"))))
  (k_with "call type:tuple" => ((k_here; (with_reducible show wpAny _ _ (call (Value.type _) [Value.ref _]) _ _ _); k_dflt (
      refine' tup_row ?r ?le ?_
      case r => with_reducible assumption
      case le => walk_at "le"))))
  (k_with "call type:tuple" => ((k_here; (with_reducible show wpAny _ _ (call (Value.type _) [Value.ref _]) _ _ _); k_dflt (
      refine' kde_tupleOf ?k1 ?k2 ?k3 ?k4 ?k5 ?_
      case k1 => k_asm
      case k2 => k_asm
      case k3 => exact News.isList (by k_asm) (by k_mem)
      case k4 => with_reducible assumption
      case k5 => exact rfl
      intro t₅ h₅ F₅ N₅ l₅
      (try k_lt l₅)))))
  (k_with "call ref" => ((k_here; (with_reducible show wpAny _ _ (call (Value.ref 35) _) _ _ _); k_dflt (
      refine' use_pure ?F ?N (is_default_spec ?B ?F2 ?X ?T ?k ?d ?u ?V) ?_
      case F => k_asm
      case N => k_asm
      case B => k_asm
      case F2 => k_asm
      case X => k_asm
      case T => k_asm
      case k => first | exact rfl | assumption
      case d => ktr_room
      case u => ktr_units
      case V => (refine' VarsK.mono ?zle ?zk; (case zk => with_reducible assumption); (case zle => walk_at "le"))
      intro _ _ _ _ _ _
      rintro rfl
      (try k_sweep)))))
  (k_with "call ref" => ((k_here; (with_reducible show wpAny _ _ (call (Value.ref 42) _) _ _ _); k_dflt (
      refine' use_pure ?zqF ?zqN (own_pairs_spec ?zqB ?zqF2 ?zqX ?zqT ?zqk ?zqd ?zqu ?zqK ?zqV ?zq6) ?_
      case zqF => k_asm
      case zqN => k_asm
      case zqB => k_asm
      case zqF2 => k_asm
      case zqX => k_asm
      case zqT => k_asm
      case zqk => first | exact rfl | assumption
      case zqd => ktr_room
      case zqu => ktr_units
      case zqV => with_reducible assumption
      case zqK => walk_at "le"
      case zq6 => with_reducible assumption
      intro r₂ h₂ tk₂ F₂ N₂ G₂ P₂
      obtain ⟨a₂, ws₂, ps₂, n₂, e₂, f₂, g₂, hR₂, hP₂, hW₂⟩ := P₂
      subst e₂
      have N₂' := News.grew (by k_asm) N₂ f₂ g₂))))
  (k_with "eval ListComp" => ((k_here; (with_reducible show wpAny _ _ (eval (Expr.ListComp _ [⟨_, _, [], _⟩] _ _) _) _ _ _); k_dflt (refine LCg.ListComp_U (F₀ := by k_asm) (by with_unfolding_all rfl) (by decide) (by rfl) (by decide) (by rfl) ?_))))
  (k_with "eval ListComp" => ((k_here; (with_reducible show wpAny _ _ (eval (Expr.ListComp _ [⟨_, _, [_], _⟩] _ _) _) _ _ _); k_dflt (refine LCt.ListComp_T (F₀ := by k_asm) (by with_unfolding_all rfl) (by decide) (by rfl) (by decide) (by rfl) ?_))))
  (k_with "own all" => (first | with_reducible assumption | (refine List.forall_mem_append.mpr ⟨?_, ?_⟩ <;> k_all)))
  (k_with "exec For Tuple Call cons nil" => ((k_here; k_dflt (refine For_at ?_))))
  (k_with "eval Dict nil nil" => ((k_here; k_dflt (refine' newDict_K ?zqk1 ?zqk2 (TopRead.nolimit (by k_asm)) ?_; (case zqk1 => k_asm); (case zqk2 => k_asm); k_whole); intro d₀ hd₀ o₀ Fd₀ Nd₀ ld₀ lod₀ hs₀ fs₀ hi₀ fi₀; clear hs₀ fs₀ fi₀; (try k_lt ld₀); (try k_sweep))))
  (k_with "eval ListComp" => ((k_here; (with_reducible show wpAny _ _ (eval (Expr.ListComp _ [⟨_, Expr.Subscript _ _ _, [_], _⟩] _ _) _) _ _ _); k_dflt (refine ListComp_WF (F₀ := by k_asm) (by with_unfolding_all rfl) (by decide) (by rfl) (by decide) (by rfl) ?_))))
  (k_with "setItem ref int" => ((k_here; k_dflt (
      refine' kda_set (knd := PySem.intKind _ _) ?zqF ?zqN ?zqU ?zqd (intKind_is _ _ _ _) ?zqz ?_
      case zqd => with_reducible assumption
      case zqF => k_asm
      case zqN => k_asm
      case zqU => k_updF
      case zqz => with_reducible assumption
      intro h₇ o₇ F₇ N₇ hd₇
      (try dsimp only at N₇)))))
  (k_with "subscriptTail" => ((k_here; (with_reducible show wpAny _ _ (subscriptTail _ _ (Value.ref _) (Value.ref _)) _ _ _); k_dflt (
      refine' item_tup ?u ?d ?le ?k ?l ?_
      case d => with_reducible assumption
      case l => with_reducible assumption
      case u => ktr_units
      case le => walk_at "le"
      case k => exact key2 (by k_asm) (by k_mem)))))
  (k_with "call ref" => ((k_here; (with_reducible show wpAny _ _ (call (Value.ref 50) _) _ _ _); k_dflt (
      refine' call_cls ?zk1 ?zk2 ?zk3 ?zk4 ?zk5 ?zk6 ?_
      case zk1 => k_asm
      case zk2 => k_asm
      case zk3 => k_asm
      case zk4 => k_is
      case zk5 => k_is
      case zk6 => k_is
      intro x₈ d₈ h₈ F₈ N₈ l₈ m₈
      (try k_lt l₈)
      (try k_lt2 m₈)
      (try (first | have hal₈ := allLt_ne l₈ | have hal₈ := allLt_ne l₈.2 | have hal₈ := allLt_ne l₈.2.2 | have hal₈ := allLt_ne l₈.2.2.2 | have hal₈ := allLt_ne l₈.2.2.2.2 | have hal₈ := allLt_ne l₈.2.2.2.2.2 | have hal₈ := allLt_ne l₈.2.2.2.2.2.2 | have hal₈ := allLt_ne l₈.2.2.2.2.2.2.2 | have hal₈ := allLt_ne l₈.2.2.2.2.2.2.2.2 | have hal₈ := allLt_ne l₈.2.2.2.2.2.2.2.2.2 | have hal₈ := allLt_ne l₈.2.2.2.2.2.2.2.2.2.2))
      (try k_sweep)
      refine' code_def ?zk1 ?zk2 ?zk3 ?zk4 ?zk5 ?zkA ?zkF ?zkK ?zk6 ?zk7 ?zk8 ?zk9 ?zkB ?_ ?zc2 ?zc3 ?zc4 ?zc5
      case zkA => exact rfl
      case zkF => exact rfl
      case zkK => exact rfl
      case zk1 => k_asm
      case zk2 => k_asm
      case zk3 => k_asm
      case zk4 => k_asm
      case zk5 => k_asm
      case zk6 => k_is
      case zk7 => k_is
      case zk8 => ktr_room
      case zk9 => exact BindsTo.of_eq rfl
      case zc5 => decide
      case zkB => exact locs rfl
      case zc2 => exact rfl
      case zc3 => exact rfl
      case zc4 => exact rfl
      intro g₉ L₉ h₉ FG₉ F₉ N₉ B₉ X₉ T₉
      (try dsimp only)
      (try k_lift B₉)
      (try k_fold)))))
  (k_with "le" => ((refine' le_addN ?zla ?zlb ?zlc ?zld; (case zlb => k_asm); (case zlc => k_asm); (case zla => with_reducible assumption); (case zld => walk_at "own subs"))))
  (k_with "leF" => (exact fun _ F9 N9 => le_addN (by with_reducible assumption) F9 N9 (by walk_at "own subs")))
  (k_with "call ref" => ((k_here; (with_reducible show wpAny _ _ (call (Value.ref 81) _) _ _ _); k_dflt (
      refine' use_pure ?zqF ?zqN (glyph_spec ?zqB ?zqF2 ?zqX ?zqT ?zqk ?zqd ?zqu ?zqV) ?_
      case zqF => k_asm
      case zqN => k_asm
      case zqB => k_asm
      case zqF2 => k_asm
      case zqX => k_asm
      case zqT => k_asm
      case zqk => first | exact rfl | assumption
      case zqd => ktr_room
      case zqu => ktr_units
      case zqV => (refine' CmK.mono ?zle ?zk; (case zk => with_reducible assumption); (case zle => walk_at "le"))
      intro r₃ h₃ tk₃ F₃ N₃ G₃ P₃
      obtain ⟨t₃, e₃⟩ := P₃
      subst e₃
      (try k_sweep)))))
  (k_with "call ref" => ((k_here; (with_reducible show wpAny _ _ (call (Value.ref 105) _) _ _ _); k_dflt (
      refine' use_pure ?zqF ?zqN (cut_vars_spec ?zqB ?zqF2 ?zqX ?zqT ?zqk ?zqd ?zqu ?zqK ?zqV ?zqw ?zql ?zq6 ?zq7 ?zq5) ?_
      case zqF => k_asm
      case zqN => k_asm
      case zqB => k_asm
      case zqF2 => k_asm
      case zqX => k_asm
      case zqT => k_asm
      case zqk => first | exact rfl | assumption
      case zqd => ktr_room
      case zqu => ktr_units
      case zqV => with_reducible assumption
      case zqw => with_reducible assumption
      case zqK => walk_at "le"
      case zql => with_reducible assumption
      case zq6 => with_reducible assumption
      case zq7 => with_reducible assumption
      case zq5 => assumption
      intro r₂ h₂ tk₂ F₂ N₂ G₂ P₂
      obtain ⟨v₂, dx₂, t₂₁, t₂₂, n₂, dd₂, oo₂, tl₂, ns₂, qs₂, e₂, hT₂, hlt₂, hal₂, hRw₂, hOt₂, hk₂, hkw₂, hp₂, hpw₂⟩ := P₂
      subst e₂
      have hz₂ := fresh_all hT₂ (by k_asm)
      simp only [List.forall_mem_cons] at hz₂
      have N₂' := News.grewL (by k_asm) N₂ hT₂
      dsimp only [List.cons_append] at N₂'))))
  (k_with "eval DictComp" => ((k_here; k_dflt (refine DictComp_L (F₀ := by k_asm) (by with_unfolding_all rfl) (by decide) (by rfl) (by decide) (by rfl) ?_))))
  (k_with "exec Assign cons DictComp" => ((k_here; k_dflt (refine Assign_DictComp_L (F₀ := by k_asm) (by rfl) (by with_unfolding_all rfl) (by with_unfolding_all rfl) (by decide) (by rfl) (by decide) (by rfl) (by rfl) (by rfl) ?_))))
  trivial
section
def keptAt (C Nm : List (Int × Int)) (k : Int) : Option (Int × Int) := if gl C k ≠ 0 then some (k, (lk Nm (gl C k)).getD 0) else none
def keptOf (C Nm : List (Int × Int)) (ns : List Int) : List (Int × Int) := ns.filterMap (keptAt C Nm)
theorem kept_keys {C Nm : List (Int × Int)} {ns : List Int} {k : Int} (h : k ∈ (keptOf C Nm ns).map (·.1)) : k ∈ ns := by
  refine byC fun hG9 => ?_
  obtain ⟨x, hx, rfl⟩ := List.mem_map.mp h
  obtain ⟨y, hy, e⟩ := List.mem_filterMap.mp hx
  refine hG9 ?_
  clear hG9
  unfold keptAt at e
  split at e
  · cases e; exact hy
  · cases e
theorem cutO_lk {W : Int → Bool} {O : List ((Int × Int) × Int)} {qs : List (Int × Int)} {q : Int × Int} {g : Int} (hq : ∀ q ∈ qs, q ∈ O.map (·.1)) (h : lk (cutO W O qs) q = some g) : lk O q = some g := by
  have hm := lk_some_mem h
  refine byC fun hG9 => ?_
  obtain ⟨y, hy, e⟩ := List.mem_map.mp hm
  refine hG9 ?_
  clear hG9
  cases e
  refine byC fun hG9 => ?_
  obtain ⟨g', hg'⟩ := lk_mem (hq _ (List.mem_filter.mp hy).1)
  refine hG9 ?_
  clear hG9
  rw [hg']; rfl
theorem off1_ne {D : Addr} : ∀ {l : List (Addr × Obj)}, Off1 D l → ∀ p ∈ l, p.1 ≠ D
  | [], _, _, hp => nomatch hp
  | q :: l, ha, p, hp => by
    rcases List.mem_cons.mp hp with rfl | hp
    · exact ha.1
    · exact off1_ne ha.2 p hp
def renum (O : List ((Int × Int) × Int)) (Nm : List (Int × Int)) (qs : List (Int × Int)) : List ((Int × Int) × Int) := qs.map fun q => (q, (lk Nm ((lk O q).getD 0)).getD 0)
section
variable {prog : Program} {w : World} {A₀ : Around} {E : Value → Shared → Prop} {s : Shared} {base h₀ : Heap} {L : Addr} {m : Str → Option Value}
  {p : Program} {loose : List Str} {mean : ExcName → Option Value} {mg mb : Str → Option Value} {dp un : Nat} {gd : Option (List Code)} {cn : Str} {cs : Scope} {ca : Addr} {ccd : Value} {cl : List (Str × Addr)} {outer : List Env}
inductive CutCP (prog : Program) (w : World) (κ : Kn) (wkvs : List (Int × Value)) (C Nm : List (Int × Int)) (D : List (Int × List Int)) (O : List ((Int × Int) × Int)) (s : Shared) (r : Value) (h' : Heap) : Prop where
  | mk (c' : Addr) (v' : Addr) (tl : List (Addr × Obj)) (ns3 : List Int) (ns : List Int) (qs : List (Int × Int)) (qs2 : List (Int × Int))
      (h0 : r = .ref c')
      (h1 : (∀ q ∈ tl, h'.get? q.1 = some q.2 ∧ s.heap.get? q.1 = none))
      (h2 : CmK prog w (κ.add tl) c' ((keptOf C Nm ns3).filter fun x => x.2 != 0) (.ref v'))
      (h3 : VarsK prog w (κ.add tl) v' (cutD (Wn wkvs) D ns) (renum (cutO (Wn wkvs) O qs) Nm qs2))
      (h4 : ns3.Perm (wkvs.map (·.1)))
      (h5 : ns.Perm (D.map (·.1)))
      (h6 : ns.Pairwise (· ≤ ·))
      (h7 : qs.Perm (O.map (·.1)))
      (h8 : qs.Pairwise (fun a b => ltP a b = true))
      (h9 : qs2.Perm ((cutO (Wn wkvs) O qs).map (·.1)))
      (h10 : qs2.Pairwise (fun a b => ltP a b = true)) : CutCP prog w κ wkvs C Nm D O s r h'
set_option maxHeartbeats 16000000 in
theorem cut_charmap_spec {c v wd nd : Addr} {wkvs : List (Int × Value)} {C Nm : List (Int × Int)} {D : List (Int × List Int)} {O : List ((Int × Int) × Int)} {κ : Kn} 
    (B : Below A₀ base outer h₀) (F : Fr h₀ L s.heap m) (X : (Mine.hd.heap_39 w.params).In h₀) (T : Top p loose mean mg mb h₀) (hk : cs.kind = .function)
    (hd : dp + 40 < recursionLimit) (hu : un + 400 < cLine) (hκ : Kn.le κ (kn s.heap)) (VC : CmK prog w κ c C (.ref v)) (V : VarsK prog w κ v D O) (hw : DictK prog w κ wd wkvs) (lw : (wd == sysModules) = false) (VN : IntsK prog w κ nd Nm)
    (h6 : O.length ≤ 6) (h7 : D.length ≤ 3) (h5 : ∀ d ∈ D, d.2.length ≤ 8) (h8 : wkvs.length < 64) 
    (hn1 : ∀ k, gl C k ≠ 0 → ∃ n, lk Nm (gl C k) = some n) (hn2 : ∀ q g, lk O q = some g → ∃ n, lk Nm g = some n) :
    wpAny (model prog w) (ktrTop dp un gd cn cs L ca ccd cl outer) (call (.ref 110) [.ref c, .ref wd, .ref nd])
      (Pure1 s fun r h' => CutCP prog w κ wkvs C Nm D O s r h') E s := by
  have V' := VC
  refine byC fun hG9 => ?_
  obtain ⟨cc, dx, t1, t2, n, h1, h2, -⟩ := V'
  obtain ⟨lon, nkvs, hNd, RN⟩ := id VN
  refine hG9 ?_
  clear hG9
  walk_at "enterC"
  intro L' h' tk' cells' F' N' Y' B' X' T'
  clear B F X T
  k_cells Y'
  rename_i oV oN oC dV dN dC
  replace dV : oV.data = Data.cell none := dV
  replace dN : oN.data = Data.cell (some (.ref nd)) := dN
  replace dC : oC.data = Data.cell (some (.ref c)) := dC
  simp only [List.cons_append, List.nil_append, List.append_nil] at N'
  (try dsimp only)
  show wpAny _ _ _ _ _ _
  (try k_fold)
  refine letA ?_
  intro A9 hAu hAd
  simp only [units_deeper, depth_deeper] at hAu hAd
  (try dsimp only [ktrTop] at hAu hAd)
  k_steps
  have hndW : ns.Nodup := by
    refine byC fun hG9 => ?_
    obtain ⟨_, _, _, _, _, _, _, _, hnd⟩ := hw
    refine hG9 ?_
    clear hG9
    rw [hP.nodup_iff]; exact hnd
  refine pyIter_listD rfl (by k_asm) (by k_asm) (c := c₁) (vs := vs) (by k_mem) (fun i oD nx => ∃ kvs, nx = (D₁, W.listOf vs.toArray c₁) :: (L' + 1 + 1 + 1, oV) :: (L' + 1 + 1, oN) :: (L' + 1, oC) :: [] ∧ oD.IsDictOf (intKind prog w) kvs ∧
    R2 (fun a b => a.1 = b.1 ∧ IntV a.2 b.2) kvs (keptOf C Nm (ns.take i))) ⟨[], rfl, emptyD_int, .nil⟩ ?_ (fun g => ?_) (fun g D₄ oD₄ nx hj => ?_)
  · rintro i oD nx ⟨_, rfl, _⟩; exact .head _
  · rintro i v₁ I oI C' oC' D₂ oD m₂ h tk nx hi hv hJ914 hC hm F₂ N₂ off ne
    refine byC fun hG9 => ?_
    obtain ⟨kvs, rfl, hoD, hRk⟩ := hJ914
    obtain ⟨k, t₁, rfl, hk1⟩ := intsGet hI hv
    obtain ⟨ne1, ne2, ne3⟩ := ne
    refine hG9 ?_
    clear hG9
    refine wpAny_tests_one ?_
    have hN1 : gl C k ≠ 0 → ∃ t b, valueAt nkvs (gl C k) = some (.int b t) ∧ lk Nm (gl C k) = some b := fun h0 => by
      refine byC fun hG9 => ?_
      obtain ⟨x, hx⟩ := hn1 k h0
      refine hG9 ?_
      clear hG9
      rcases RN.look (gl C k) with ⟨-, e2⟩ | ⟨r, b, e1, e2, t, rfl⟩
      · rw [hx] at e2; cases e2
      · exact ⟨t, b, e1, e2⟩
    have hz5 : kvs.length ≤ sizeLine := by
      rw [hRk.length, sizeLine_eq]
      have q1 : (keptOf C Nm (ns.take i)).length ≤ (ns.take i).length := List.length_filterMap_le _ _
      have q2 : (ns.take i).length ≤ ns.length := by rw [List.length_take]; omega
      rw [hP.length_eq, List.length_map] at q2; omega
    have off9 := off
    refine byC fun hG9 => ?_
    obtain ⟨o1, o2, o3, o4, -⟩ := off
    refine hG9 ?_
    clear hG9
    dsimp only at o1 o2 o3 o4
    (try (show wpAny _ _ _ _ _ _; k_fold))
    k_steps
    · obtain ⟨t₄, b, e1, e2⟩ := hN1 (by assumption)
      k_steps
      try k_unfold
      refine dictSet_I (by k_asm) (by k_asm) (by k_updF) hoD hz5 ?_
      intro h₇ o₇ F₇ N₇ hd₇
      refine DEnd.intro (oD := o₇) (by k_asm) (by k_asm) _ (fun p hp => hp) off9 ⟨_, rfl, hd₇, ?_⟩
      rw [keptOf, List.take_add_one, hk1, List.filterMap_append]
      have e0 : keptAt C Nm k = some (k, b) := by simp [keptAt, *]
      have e1 : k ∉ kvs.map (·.1) := by
        rw [R2.keys hRk]
        exact fun hm => nodup_not hndW hk1 (kept_keys hm)
      rw [stored_new e1]
      refine hRk.append ?_
      simp only [Option.toList, List.filterMap_cons, e0, List.filterMap_nil]
      exact .cons ⟨rfl, t₄, rfl⟩ .nil
    · refine DEnd.intro (oD := oD) (by k_asm) (by k_asm) _ (fun p hp => hp) off9 ⟨kvs, rfl, hoD, ?_⟩
      rw [keptOf, List.take_add_one, hk1, List.filterMap_append]
      have : keptAt C Nm k = none := by simp [keptAt, *]
      simpa [this, keptOf] using hRk
  · obtain ⟨kvs, rfl, hoD, hRk⟩ := hj
    rw [List.take_of_length_le (by rw [hI.length]; exact Nat.le_refl _)] at hRk
    intro h₄ tk₄ F₄ N₄ off₄ lo₄
    have lo₄ := lo₄ (modules_low (TopRead.nolimit (by k_asm)))
    refine byC fun hG9 => ?_
    obtain ⟨o1, o2, o3, o4, -⟩ := off₄
    refine hG9 ?_
    clear hG9
    dsimp only at o1 o2 o3 o4
    have W' := V
    refine byC fun hG9 => ?_
    obtain ⟨dd, oo, dx', t1', t2', n', h3, h4, -, -⟩ := W'
    refine hG9 ?_
    clear hG9
    k_steps
    refine byC fun hG9 => ?_
    obtain ⟨lo₂, xs₂, hO₂, RO₂⟩ := id hOt₂
    refine hG9 ?_
    clear hG9
    have hxp : xs₂.map (·.1) = ((cutO (Wn wkvs) O qs₂).map (·.1)).map kp := RO₂.keysH
    have hql : qs₂.length ≤ 6 := by rw [hp₂.length_eq]; simpa using h6
    have h6' : ((cutO (Wn wkvs) O qs₂).map (·.1)).length ≤ 6 := by
      rw [List.length_map, cutO, pairsOfQ, List.length_map]
      exact Nat.le_trans (List.length_filter_le _ _) hql
    refine byC fun hG9 => ?_
    obtain ⟨⟨y1, y2, y3⟩, ⟨y4, y5, y6⟩, ⟨y7, y8, y9⟩, ⟨y10, y11, y12⟩, ⟨y13, y14, y15⟩, -⟩ := hz₂
    refine hG9 ?_
    clear hG9
    replace N₂' : News s.heap L' h₂ ((v₂, instObj 50 dx₂) :: (dx₂, two w (Str.ofString "defaults") (Str.ofString "others") t₂₁ t₂₂ (Value.ref dd₂) (Value.ref oo₂) n₂) :: (D₄, oD₄) :: (D₁, W.listOf vs.toArray c₁) :: (L' + 1 + 1 + 1, oV) :: (L' + 1 + 1, oN) :: (L' + 1, oC) :: tl₂) :=
      News.sub N₂' (by walk_at "own subs")
    clear N₂
    replace y1 := neN y1
    replace y2 := neN y2
    replace y4 := neN y4
    replace y5 := neN y5
    replace y7 := neN y7
    replace y8 := neN y8
    replace y10 := neN y10
    replace y11 := neN y11
    replace y13 := neN y13
    replace y14 := neN y14
    replace hlt₂ := ltN hlt₂
    have hal₂' := allLt_ne hal₂
    refine byC fun hG9 => ?_
    obtain ⟨D₀, rfl⟩ : ∃ x, x = D₁ := ⟨_, rfl⟩
    refine hG9 ?_
    clear hG9
    have hPn := hP
    have hWn := hW
    have hIn := hI
    clear hP hW hI
    k_lt l₁
    refine byC fun hG9 => ?_
    obtain ⟨lA, lB, lC⟩ := l₁
    refine hG9 ?_
    clear hG9
    have hn3 : ∀ q g, lk (cutO (Wn wkvs) O qs₂) q = some g → ∃ n, lk Nm g = some n := fun q g h => hn2 q g (cutO_lk (fun q hq => hp₂.mem_iff.mp hq) h)
    refine byC fun hG9 => ?_
    obtain ⟨vs0, rfl⟩ : ∃ x, x = vs := ⟨_, rfl⟩
    obtain ⟨c0, rfl⟩ : ∃ x, x = c₁ := ⟨_, rfl⟩
    refine hG9 ?_
    clear hG9
    k_steps
    rename Obj => oW
    rename oW.data = _ => dW
    k_lt l₁
    refine byC fun hG9 => ?_
    obtain ⟨m1, m2, m3, m4, m5, m6, m7, m8⟩ := l₁
    refine hG9 ?_
    clear hG9
    have ndq : qs.Nodup := ltP_nodup hW
    refine pyIter_listD rfl (by k_asm) (by k_asm) (c := c₁) (vs := vs) (by k_mem) (fun i oD nx => ∃ ys, nx = (D₁, W.listOf vs.toArray c₁) :: (v₂, instObj 50 dx₂) :: (dx₂, two w (Str.ofString "defaults") (Str.ofString "others") t₂₁ t₂₂ (Value.ref dd₂) (Value.ref oo₂) n₂) :: (D₄, oD₄) :: (D₀, W.listOf vs0.toArray c0) ::
      (L' + 1 + 1 + 1, oW) :: (L' + 1 + 1, oN) :: (L' + 1, oC) :: tl₂ ∧ IsDictH prog w (κ.add tl₂) oD ys ∧
      R2 (fun a b => a.1 = kp b.1 ∧ IntV a.2.2 b.2) ys (renum (cutO (Wn wkvs) O qs₂) Nm (qs.take i))) ⟨[], rfl, IsDictH.nil emptyD_int, .nil⟩ ?_ (fun g => ?_) (fun g D₅ oD₅ nx hj => ?_)
    · rintro i oD nx ⟨_, rfl, _⟩; exact .head _
    · rintro i v₁ I oI C' oC' D₂ oD m₂ h tk nx hi hv hJ914 hC hm F₂ N₂ off ne
      refine byC fun hG9 => ?_
      obtain ⟨ys, rfl, hoD, hRk⟩ := hJ914
      obtain ⟨q, hq, a, rfl, hka⟩ := hR.get hv
      refine hG9 ?_
      clear hG9
      have hqO : q ∈ (cutO (Wn wkvs) O qs₂).map (·.1) := hP.mem_iff.mp (List.mem_of_getElem? hq)
      refine byC fun hG9 => ?_
      obtain ⟨gg, hg⟩ := lk_mem hqO
      refine hG9 ?_
      clear hG9
      rcases RO₂.lookH q with ⟨-, e2⟩ | ⟨ax, r, b, e1, e2, t, e3⟩
      · rw [e2] at hg; cases hg
      clear hg
      refine byC fun hG9 => ?_
      obtain ⟨b', hb'⟩ := hn3 q b e2
      refine hG9 ?_
      clear hG9
      rcases RN.look b with ⟨-, e5⟩ | ⟨r', b₂, e4, e5, t', e6⟩
      · rw [e5] at hb'; cases hb'
      clear hb'
      subst e3
      subst e6
      refine byC fun hG9 => ?_
      obtain ⟨ne1, ne2, ne3⟩ := ne
      refine hG9 ?_
      clear hG9
      have off9 := off
      refine byC fun hG9 => ?_
      obtain ⟨p1, p2, p3, p4, p5, p6, p7, p8, p9⟩ := off
      refine hG9 ?_
      clear hG9
      dsimp only at p1 p2 p3 p4 p5 p6 p7 p8
      refine wpAny_tests_nil ?_
      have p9' : ∀ p ∈ tl₂, p.1 ≠ D₂ := fun p hp => (p9.mem p hp).2.2
      have htk : qs.take (i + 1) = qs.take i ++ [q] := by rw [List.take_add_one, hq]; rfl
      have hz5 : ys.length ≤ sizeLine := by
        rw [hRk.length, renum, List.length_map, sizeLine_eq]
        have q2 : (qs.take i).length ≤ qs.length := by rw [List.length_take]; omega
        rw [hP.length_eq] at q2; omega
      (try (show wpAny _ _ _ _ _ _; k_fold))
      k_steps
      refine dictSet_H (κ := κ.add tl₂) (κ' := κ.add tl₂) (by ktr_units) (by k_asm) (by k_asm) (by k_updF) hoD hka (by walk_at "le") (by walk_at "le") (κ.add tl₂) (fun _ _ x => x) (fun _ _ x => x) hz5 ?_
      intro h₇ o₇ F₇ N₇ hd₇
      refine DEnd.intro (oD := o₇) (by k_asm) (by k_asm) _ (fun p hp => hp) off9 ⟨_, rfl, hd₇, ?_⟩
      have e9 : kp q ∉ ys.map (·.1) := by
        rw [R2.keysH hRk]
        intro hm
        refine byC fun hG9 => ?_
        obtain ⟨y, hy, hyq⟩ := List.mem_map.mp hm
        refine hG9 ?_
        clear hG9
        have hyq := kp_inj hyq
        subst hyq
        refine byC fun hG9 => ?_
        obtain ⟨z, hz, hzq⟩ := List.mem_map.mp hy
        obtain ⟨z', hz', rfl⟩ := List.mem_map.mp hz
        refine hG9 ?_
        clear hG9
        subst hzq
        exact nodup_not ndq hq hz'
      rw [storedH_new (atKey_none e9), htk, renum, List.map_append]
      refine hRk.append ?_
      simp only [List.map_cons, List.map_nil, e2, e5, Option.getD_some]
      exact .cons ⟨rfl, t', rfl⟩ .nil
    · obtain ⟨ys, rfl, hoD₅, hR5⟩ := hj
      rw [List.take_of_length_le (by rw [hR.length]; exact Nat.le_refl _)] at hR5
      intro h₅ tk₅ F₅ N₅ off₅ lo₅
      have lo₅ := lo₅ (modules_low (TopRead.nolimit (by k_asm)))
      refine byC fun hG9 => ?_
      obtain ⟨r1, r2, r3, r4, r5, r6, r7, r8, r9⟩ := off₅
      refine hG9 ?_
      clear hG9
      dsimp only at r1 r2 r3 r4 r5 r6 r7 r8
      have r9' : ∀ p ∈ tl₂, p.1 ≠ D₅ := off1_ne r9
      dsimp only [two] at N₅
      clear h1 h2 h3 h4
      k_steps
      refine' set_dict ?k1 ?k2 ?k3 ?k4 ?k5 ?k6 ?k7 ?k8 ?k9 ?k10 ?k11 ?k12 ?k13 ?_
      case k1 => k_asm
      case k2 => k_asm
      case k3 => k_asm
      case k4 => exact InstAt.of_news N₅ (by k_mem) (by k_mem)
      case k5 => exact rfl
      case k6 => k_is
      case k7 => k_is
      case k8 => k_is
      case k9 => k_is
      case k10 => k_get
      case k11 => exact put_two
      case k12 => k_upd
      case k13 => exact Nat.le_of_ble_eq_true rfl
      intro h₆ F₆ N₆
      k_steps
      refine new_cm (by k_asm) (by k_asm) N₆ (by k_asm) (by k_asm) rfl (by ktr_room) (by ktr_units) (d := D₄) (by k_mem) hoD lo₄ hRk (by
        rw [hRk.length]
        have q1 : (keptOf C Nm ns).length ≤ ns.length := List.length_filterMap_le _ _
        rw [hPn.length_eq, List.length_map] at q1; omega) ?_
      intro x dx₇ D₇ oD₇ ks₇ h₇ tk₇ t₇₁ t₇₂ F₇ N₇ hd₇ hR₇ lo₇
      walk_at "fin"
      refine ⟨x, v₂, (x, instObj 96 dx₇) :: (dx₇, two w (Str.ofString "codes") (Str.ofString "variations") t₇₁ t₇₂ (.ref D₇) (.ref v₂) 2) :: (D₇, oD₇) :: (v₂, instObj 50 dx₂) :: (dx₂, two w (Str.ofString "defaults") (Str.ofString "others") t₂₁ t₂₂ (.ref dd₂) (.ref D₅) n₂) :: (D₅, oD₅) :: tl₂,
        ns, ns₂, qs₂, qs, rfl, ?hN, ⟨D₇, dx₇, t₇₁, t₇₂, 2, .inr (.head _), .inr (.tail _ (.head _)), lo₇, ks₇, ⟨oD₇, .inr (.tail _ (.tail _ (.head _))), hd₇⟩, hR₇⟩,
        ⟨dd₂, D₅, dx₂, t₂₁, t₂₂, n₂, .inr (.tail _ (.tail _ (.tail _ (.head _)))), .inr (.tail _ (.tail _ (.tail _ (.tail _ (.head _))))), hRw₂.mono ?hK, lo₅, ys, (hoD₅.mono ?hK2).K (.inr (.tail _ (.tail _ (.tail _ (.tail _ (.tail _ (.head _))))))), hR5⟩, hPn, hk₂, hkw₂, hp₂, hpw₂, hP, hW⟩
      case hN =>
        refine forall_news N₇ (List.forall_mem_cons.mpr ⟨.head _, List.forall_mem_cons.mpr ⟨.tail _ (.head _), List.forall_mem_cons.mpr ⟨.tail _ (.tail _ (.head _)), List.forall_mem_cons.mpr ⟨.tail _ (.tail _ (.tail _ (.tail _ (.tail _ (.head _))))), List.forall_mem_cons.mpr ⟨?h6, List.forall_mem_cons.mpr ⟨.tail _ (.tail _ (.tail _ (.head _))), fun q hq => .tail _ (.tail _ (.tail _ (.tail _ (.tail _ (.tail _ (.tail _ (.tail _ (.tail _ (.tail _ (.tail _ (.tail _ (hq))))))))))))⟩⟩⟩⟩⟩⟩)
        unfold two
        exact .tail _ (.tail _ (.tail _ (.tail _ (.tail _ (.tail _ (.head _))))))
      case hK => exact Kn.add_mono (fun _ _ x => x) fun _ x => by simp [x]
      case hK2 => exact Kn.add_mono (fun _ _ x => x) fun _ x => by simp [x]
end


end
section
theorem upd_entry : entryFor table "dict.update.loop" = some Builtin.«dict.update.loop» := entryFor_of_tree (by kernel_rfl)
theorem upd_plain : plainId "dict.update.loop" = true := by decide +kernel
theorem list_no_keys : typeLookup (.type "list") (Str.ofString "keys") = pure none := by rw [typeLookup_type, builtinLookup_eq_fast]; kernel_rfl
section
variable {prog : Program} {w : World} {A : Around} {E : Value → Shared → Prop} {s : Shared}
theorem getAttr?_miss_list {a : Addr} {o : Obj} {xs : Array Value} {k : Nat} {name : Str} {Q : Option Value → Shared → Prop}
    (hx : s.heap.get? a = some o) (hc : o.cls = .type "list") (hdat : o.data = .seq xs k) (hd : o.dict = none) (hmiss : typeLookup (.type "list") name = pure none) (hname : (["__module__", "__name__", "__qualname__", "__doc__", "__annotations__"] : List Str).contains name = false) (hA : A.handled = none)
    (h : ∀ h' tk, (∀ b o, s.heap.get? b = some o → h'.get? b = some o) → Q none { s with heap := h', toks := tk }) (hsz : name.length + 100 ≤ sizeLine) :
    wpAny (model prog w) A (getAttr? (.ref a) name) Q E s := by
  obtain ⟨c, dct, dat, sl⟩ := o
  simp only at hc hdat hd
  subst hc hdat hd
  obtain ⟨hp, g, d, tk, os⟩ := s
  have hT : ∀ tk', (⟨hp, g, d, tk', os⟩ : Shared).TypeIs (.ref a) "list" := fun _ => ⟨_, hx, rfl⟩
  have f1 := sub_AttributeError
  have f3 := F.slot_list_getattribute.lookup
  have f4 := F.slot_list_getattribute.bind (.ref a)
  have f5 := am_list_getattr_none
  unfold getAttr? getAttrBy? getAttrBy
  repeat (any_goals (first | assumption | exact hT _ | ((with_reducible show wpAny _ _ (call (Value.builtin "list.__getattribute__") _ _) _ _ _); refine call_meets F.slot_list_getattribute (hT _) am_entry_list_getattribute (F.args_list_getattribute_2 _ _) (meets_getattribute_miss_list a xs k sl name _ hmiss hname hsz) ⟨hx, hA, fun h' tk' e hx' => ?_⟩) | wp_step))
  obtain ⟨t', u', he⟩ := hx'.there
  show wpAny _ _ (getattributeRaised _ _ _ _ _ _ _) _ _ _
  unfold getattributeRaised
  repeat (any_goals (first | assumption | wp_step))
  exact h _ _ hx'.keeps
theorem dictOf_keep {prog : Program} {w : World} {knd : KeyKind prog w Int} {h h' : Heap} {d : Addr} {kvs : List (Int × Value)} (hd : h.DictOf knd d kvs) (hk : ∀ o, h.get? d = some o → h'.get? d = some o) : h'.DictOf knd d kvs := by
  obtain ⟨o, e, r⟩ := Heap.dictOf_iff.mp hd
  exact Heap.dictOf_iff.mpr ⟨o, hk _ e, r⟩
def UpdEnd (prog : Program) (w : World) (s : Shared) (d : Addr) (kvs : List (Int × Value)) (s₂ : Shared) : Prop :=
  ∃ h' tk, s₂ = { s with heap := h', toks := tk } ∧ (∀ b o, s.heap.get? b = some o → h'.get? b = some o) ∧ h'.DictOf (intKind prog w) d kvs
theorem upd_loop {d I l : Addr} {vs : List Value} {ps : List (Int × Value)} (hh : A.handled = none) (hdI : @Ne Nat d I) (hI0 : s.heap.get? I = none) (hd0 : s.heap.get? d = none)
    (hR : R2 (fun v p => ∃ t tk, v = .ref t ∧ IsTup s.heap t #[.int p.1 tk, p.2]) vs ps) (hl : s.heap.IsList l vs.toArray) (hz : ps.length ≤ sizeLine) :
    ∀ k i s', i + k = vs.length → (∃ h' tk, s' = { s with heap := h', toks := tk } ∧ (∀ b o, s.heap.get? b = some o → h'.get? b = some o) ∧ h'.IsListIter I l i ∧ h'.DictOf (intKind prog w) d (merged [] (ps.take i))) →
      codeAny (model prog w) A (.builtin "dict.update.loop" ⟨[.ref d, .ref I, rawInt i, .none], []⟩) (wants (fun r s₂ => r = .none ∧ UpdEnd prog w s d (merged [] ps) s₂) E) s' := by
  intro k
  induction k with
  | zero =>
    rintro i s' hik ⟨h', tk, rfl, kp, hit, hD⟩
    have hin : vs.length ≤ i := by omega
    refine codeAny_builtin upd_entry ?_
    rw [Around.under_plainId upd_plain]
    have hL' : h'.IsList l vs.toArray := (let ⟨ol, el, r⟩ := hl; ⟨ol, kp _ _ el, r⟩)
    unfold Builtin.«dict.update.loop»
    show wpAny _ _ (pyNext (.ref I) >>= _) _ _ _
    refine wpAny_bind (wpAny_pyNext_list_end hh hit hL' (by simpa using hin) fun h₁ he₁ => ?_)
    rw [List.take_of_length_le (by rw [← hR.length]; exact hin)] at hD
    show wpAny _ _ (Builtin.Dict.addKeywords d [] >>= _) _ _ _
    refine wpAny_bind (wpAny_pure (wpAny_pure ?_))
    refine ⟨rfl, _, _, rfl, fun b o e => he₁ _ _ (fun q => by rw [q, hI0] at e; cases e) (kp b o e), dictOf_keep hD fun o e => he₁ _ _ hdI e⟩
  | succ k ih =>
    rintro i s' hik ⟨h', tk, rfl, kp, hit, hD⟩
    have hlt : i < vs.length := by omega
    refine codeAny_builtin upd_entry ?_
    rw [Around.under_plainId upd_plain]
    have hL' : h'.IsList l vs.toArray := (let ⟨ol, el, r⟩ := hl; ⟨ol, kp _ _ el, r⟩)
    obtain ⟨v, hv⟩ : ∃ v, vs[i]? = some v := ⟨_, List.getElem?_eq_getElem hlt⟩
    obtain ⟨p, hp, t, u, rfl, hT⟩ := hR.get hv
    unfold Builtin.«dict.update.loop»
    show wpAny _ _ (pyNext (.ref I) >>= _) _ _ _
    refine wpAny_bind (wpAny_pyNext_list_item hit hL' (x := .ref t) (by simpa using hv) fun h₁ hit₁ hs₁ => ?_)
    have kp₁ : ∀ b o, s.heap.get? b = some o → h₁.get? b = some o := fun b o e => hs₁.extBut _ _ (fun q => by rw [q, hI0] at e; cases e) (kp b o e)
    have hD₁ := dictOf_keep hD fun o e => hs₁.extBut _ _ hdI e
    obtain ⟨ot, et, ct, nt, dt⟩ := hT
    have hTy : ({ s with heap := h₁, toks := tk } : Shared).TypeIs (.ref t) "tuple" := ⟨_, kp₁ _ _ et, ct⟩
    refine wpAny_bind (wpAny_holding ?_)
    refine wpAny_bind (wpAny_tryCatch ?_)
    unfold Builtin.Dict.pairItems
    refine wpAny_bind (wpAny_typeOf hTy ?_)
    show wpAny _ _ (seqItems? (.ref t) >>= _) _ _ _
    refine wpAny_bind (wpAny_seqItems (kp₁ _ _ et) dt (wpAny_pure ?_))
    show wpAny _ _ (holding [.int p.1 u, p.2] (dictSet d (.int p.1 u) p.2)) _ _ _
    have hz5 : (merged [] (ps.take i)).length ≤ sizeLine := by
      have q1 := merged_length_le [] (ps.take i)
      have q2 : (ps.take i).length ≤ ps.length := by rw [List.length_take]; omega
      simp only [List.length_nil] at q1
      omega
    refine wpAny_holding (wpAny_dictSet_pairs (hsz := hz5) (intKind_is _ _ _ _) hD₁ fun h₂ hD₂ hs₂ => ?_)
    refine wpAny_pure ⟨Code.quiet_builtin _ (by decide +kernel), ?_⟩
    have e1 : merged [] (ps.take (i + 1)) = stored (merged [] (ps.take i)) p.1 p.2 := merged_take_succ _ _ _ _ hp
    refine ih (i + 1) _ (by omega) ⟨h₂, tk + 1, rfl, fun b o e => hs₂.extBut _ _ (fun q => by rw [q, hd0] at e; cases e) (kp₁ b o e), ?_, by rw [e1]; exact hD₂⟩
    obtain ⟨oI, eI, r⟩ := hit₁
    exact ⟨oI, hs₂.extBut _ _ (Ne.symm hdI) eI, r⟩
theorem merged_keys {ps : List (Int × Value)} (hn : (ps.map (·.1)).Nodup) : merged [] ps = ps := merged_nil_of_nodup ps hn
/-- dict of a list of pairs -/
theorem dict_pairs {l : Addr} {n : Nat} {vs : List Value} {ps : List (Int × Value)} {Q : Value → Shared → Prop} (hh : A.handled = none) (hx : s.heap.get? l = some (W.listOf vs.toArray n))
    (hR : R2 (fun v p => ∃ t tk, v = .ref t ∧ IsTup s.heap t #[.int p.1 tk, p.2]) vs ps) (hz : ps.length ≤ sizeLine) (hn : (ps.map (·.1)).Nodup)
    (h : ∀ h' tk, (∀ b o, s.heap.get? b = some o → h'.get? b = some o) → s.heap.get? s.heap.objs.size = none → h'.DictOf (intKind prog w) s.heap.objs.size ps → Q (.ref s.heap.objs.size) { s with heap := h', toks := tk }) :
    wpAny (model prog w) A (call (.type "dict") [.ref l]) Q E s := by
  refine callType_codes (Q₁ := fun obj s₁ => obj = .ref s.heap.objs.size ∧ s₁ = { s with heap := s.heap.push { cls := .type "dict", data := .dict #[] } }) F.kt_called_dict (F.kt_typeCall_dict_1 _) F.entry_dict_init (kt_code_dict_new _ ⟨rfl, rfl⟩) ?_
  rintro obj s₁ ⟨rfl, rfl⟩
  have hnew : (s.heap.push { cls := .type "dict", data := .dict #[] }).DictOf (intKind prog w) s.heap.objs.size [] := Heap.DictOf.new s.heap
  have hup : ∀ b o, s.heap.get? b = some o → (s.heap.push { cls := .type "dict", data := .dict #[] }).get? b = some o := fun b o e => Heap.get?_push_of_some _ e
  have hd0 : s.heap.get? s.heap.objs.size = none := Heap.get?_none_of_le (Nat.le_refl _)
  have hx' := hup _ _ hx
  refine ⟨hnew.typeIs, F.args_dict_init_2 _ _, ?_⟩
  unfold Builtin.«dict.__init__»
  refine wpAny_bind ?_
  unfold Builtin.Dict.selfAndRest
  refine wpAny_bind (wpAny_notOrdered_dict hnew.typeIs ?_)
  show wpAny _ _ (pure (s.heap.objs.size, [Value.ref l])) _ _ _
  refine wpAny_pure ?_
  show wpAny _ _ (Builtin.Dict.updateFrom "dict.__init__" s.heap.objs.size (.ref l) [] .none) _ _ _
  unfold Builtin.Dict.updateFrom
  have hTy : ({ s with heap := s.heap.push { cls := .type "dict", data := .dict #[] } } : Shared).TypeIs (.ref l) "list" := ⟨_, hx', rfl⟩
  refine wpAny_bind (wpAny_typeOf hTy ?_)
  rw [if_pos (by decide)]
  refine wpAny_bind (getAttr?_miss_list hx' rfl rfl rfl list_no_keys (by decide +kernel) hh (fun h₁ tk₁ kp₁ => ?_) (by decide +kernel))
  simp only [Option.isNone_none, if_true]
  refine wpAny_bind (wpAny_rule ?_)
  have hL₁ : h₁.IsList l vs.toArray := ⟨_, kp₁ _ _ hx', rfl, _, rfl⟩
  refine wpAny_bind (wpAny_pyIter_list hL₁ ?_)
  have hD₁ := dictOf_keep hnew (kp₁ _)
  have kp₂ : ∀ b o, h₁.get? b = some o → (h₁.push { cls := .type "list_iterator", data := .fields #[.ref l, .int 0 0] }).get? b = some o := fun b o e => Heap.get?_push_of_some _ e
  have hlt : s.heap.objs.size < h₁.objs.size := by
    obtain ⟨o, e, _⟩ := Heap.dictOf_iff.mp hD₁
    exact Heap.lt_size e
  have hI0 : s.heap.get? h₁.objs.size = none := Heap.get?_none_of_le (Nat.le_of_lt hlt)
  refine wpAny_pure ⟨Code.quiet_builtin _ (by decide +kernel), ?_⟩
  refine codeAny_mono (upd_loop (A := A.in1) (s := s) (E := E) hh (Nat.ne_of_lt hlt) hI0 hd0 hR ⟨_, hx, rfl, _, rfl⟩ hz vs.length 0 _ (Nat.zero_add _) ⟨_, tk₁, rfl, fun b o e => kp₂ _ _ (kp₁ _ _ (hup _ _ e)), ⟨_, Heap.get?_push_size _ rfl, rfl, rfl⟩, dictOf_keep hD₁ (kp₂ _)⟩) fun r s₂ hr => ?_
  cases r with
  | error e => exact hr
  | ok fl =>
    cases fl with
    | ret v =>
      obtain ⟨rfl, h₃, tk₃, rfl, kp₃, hD₃⟩ := hr
      rw [merged_keys hn] at hD₃
      exact ⟨rfl, h _ _ kp₃ hd0 hD₃⟩
    | _ => exact hr.elim
/-- the same in a ledger -/
theorem dict_pairsN {h₀ : Heap} {L : Addr} {m : Str → Option Value} {news : List (Addr × Obj)} {l : Addr} {n : Nat} {vs : List Value} {ps : List (Int × Value)} {Q : Value → Shared → Prop} (hh : A.handled = none) (F : Fr h₀ L s.heap m) (N : News h₀ L s.heap news) (hbig : sysModules < h₀.objs.size) (hm : (l, W.listOf vs.toArray n) ∈ news)
    (hR : R2 (fun v p => ∃ t tk k, v = .ref t ∧ (t, ({ cls := .type "tuple", data := .seq #[.int p.1 tk, p.2] k } : Obj)) ∈ news) vs ps) (hz : ps.length ≤ sizeLine) (hn : (ps.map (·.1)).Nodup)
    (h : ∀ d o h' tk, Fr h₀ L h' m → News h₀ L h' ((d, o) :: news) → (∀ p ∈ news, p.1 < d) → (d == sysModules) = false → o.IsDictOf (intKind prog w) ps → Q (.ref d) { s with heap := h', toks := tk }) :
    wpAny (model prog w) A (call (.type "dict") [.ref l]) Q E s := by
  refine dict_pairs hh (N _ hm).1 (hR.imp fun v p ⟨t, tk, k, e, hm⟩ => ⟨t, tk, e, _, (N _ hm).1, rfl, k, rfl⟩) hz hn fun h' tk kp hd0 hD => ?_
  obtain ⟨o, e, hd⟩ := Heap.dictOf_iff.mp hD
  have F' : Fr h₀ L h' m := F.keeps kp
  refine h _ o h' tk F' (fun p hp => ?_) (fun p hp => Heap.lt_size (N p hp).1) (F.notModules hbig) hd
  rcases List.mem_cons.mp hp with rfl | hp
  · refine ⟨e, ?_, ?_⟩
    · exact Ne.symm (Nat.ne_of_lt F.ns.lt)
    · cases e' : h₀.get? s.heap.objs.size with
      | none => rfl
      | some o' => have := F.keep _ _ e'; rw [hd0] at this; cases this
  · exact ⟨kp _ _ (N p hp).1, (N p hp).2⟩
end


end
theorem rows_V1 : True := by
  k_with_none
  w_top off
  (k_with "own tail" => (first | ((repeat apply List.Mem.tail); first | exact hp | exact List.mem_append_left _ hp | exact List.mem_append_right _ hp) | (simp only [List.mem_cons, List.mem_append, List.not_mem_nil, or_false] at hp ⊢; grind)))
  (k_with "own subs" => (((try dsimp only [List.cons_append, List.nil_append]); (repeat (refine List.forall_mem_cons.mpr ⟨?_, ?_⟩; (· ((repeat (first | with_reducible exact List.Mem.head _ | refine List.Mem.tail _ ?_)); done)))); intro p hp; first | exact absurd hp List.not_mem_nil | ((repeat apply List.Mem.tail); first | exact hp | exact List.mem_append_left _ hp | exact List.mem_append_right _ hp) | (simp only [List.mem_cons, List.mem_append, List.not_mem_nil, or_false] at hp ⊢; grind))))
  (k_with "own ne" => ((refine neN ?_; (try dsimp only); first | assumption | exact Ne.symm (by assumption) | exact Nat.ne_of_lt (by assumption) | exact Nat.ne_of_gt (by assumption) | exact And.left (by assumption) | exact And.left (And.right (by assumption)) | exact And.right (And.right (by assumption)) | exact Ne.symm (And.left (by assumption)) | exact Ne.symm (And.left (And.right (by assumption))) | exact Ne.symm (And.right (And.right (by assumption))) | ((repeat (rename @Ne _ _ _ => hne9; clear hne9)); (repeat (rename And (@Ne _ _ _) _ => hne9; clear hne9)); omega))))
  (k_with "le" => (first | (refine' le_fr ?zla ?zlb; (case zlb => k_asm); (case zla => with_reducible assumption)) | exact Fr.keep (by k_asm)))
  (k_with "fin" => (((try dsimp only); (try k_unfold); (try dsimp only); refine ⟨_, _, _, rfl, by k_asm, ?_⟩)))
  (k_with "leF" => (first | exact fun _ F9 _ => le_fr (by with_reducible assumption) F9 | exact fun _ F9 _ => Fr.keep F9))
  (k_with "own inst" => ((refine' inst_kn ?le ?h1 ?h2; (case h1 => with_reducible assumption); (case h2 => with_reducible assumption); (case le => walk_at "le"))))
  (k_with "own fits" => (with_reducible assumption))
  (k_with "execs cons Assign cons" => (refine wpAny_execs_cons ?_))
  (k_with "exec For Name Call cons nil" => ((k_here; k_dflt (refine For_at ?_))))
  (k_with "getMethod ref" => ((k_here; first
      | (refine' getm_int ?d ?le ?_; (case d => with_reducible assumption); (case le => walk_at "le"))
      | (refine' getm_tup ?d ?le ?_; (case d => with_reducible assumption); (case le => walk_at "le")))))
  (k_with "key" => (exact key2 (by k_asm) (by k_mem)))
  (k_with "call builtin:dict.get" => ((k_here; first
      | (refine' get2_int ?d ?le ?lo ?_; (case d => with_reducible assumption); (case lo => with_reducible assumption); (case le => walk_at "le"))
      | (refine' get2_tup ?u ?d ?le ?lo ?k ?_; (case d => with_reducible assumption); (case lo => with_reducible assumption); (case u => ktr_units); (case le => walk_at "le"); (case k => walk_at "key")))))
  (k_with "enterC" => ((
      refine' enter_cells (args := ⟨_, []⟩) ?k1 ?k2 ?k3 ?k5 ?kA ?kF ?kK ?k6 ?k7 ?k8 ?k9 ?kB ?kD ?_ ?c2 ?c3 ?c4
      case kA => exact rfl
      case kF => exact rfl
      case kK => assumption
      case k1 => k_asm
      case k2 => k_asm
      case k3 => k_asm
      case k5 => k_asm
      case k6 => k_is
      case k7 => k_is
      case k8 => ktr_room
      case k9 => exact BindsTo.of_eq rfl
      case kB => exact rfl
      case kD => decide +kernel
      case c2 => exact rfl
      case c3 => exact rfl
      case c4 => exact rfl)))
  (k_with "enter" => ((
      refine' enter_pure (args := ⟨_, []⟩) ?k1 ?k2 ?k3 ?k5 ?kA ?kF ?kK ?k6 ?k7 ?k8 ?k9 ?kB ?_ ?c2 ?c3 ?c4 ?c5
      case kA => exact rfl
      case kF => exact rfl
      case kK => assumption
      case k1 => k_asm
      case k2 => k_asm
      case k3 => k_asm
      case k5 => k_asm
      case k6 => k_is
      case k7 => k_is
      case k8 => ktr_room
      case k9 => exact BindsTo.of_eq rfl
      case c5 => decide
      case kB => exact locs rfl
      case c2 => exact rfl
      case c3 => exact rfl
      case c4 => exact rfl)))
  (k_with "newList" => ((k_here; k_dflt (refine' newList_K ?k1 ?k2 ?_; (case k1 => k_asm); (case k2 => k_asm); k_whole); intro l₀ hl₀ Fl₀ Nl₀ ll₀; (try k_lt ll₀); (try k_sweep))))
  (k_with "newTuple" => ((k_here; k_dflt (refine' kup_newTuple ?zqk1 ?zqk2 ?_ ?zqk3; (case zqk1 => k_asm); (case zqk2 => k_asm); (case zqk3 => exact Nat.le_of_ble_eq_true rfl)); intro t₀ ht₀ Ft₀ Nt₀ lt₀; (try k_lt lt₀); (try k_sweep))))
  (k_with "call builtin:sorted" => ((k_here; k_dflt (
      refine' sorted_intD ?zqhh ?zqF ?zqN ?zqd ?zqle ?zqlo ?zqn ?_
      case zqd => with_reducible assumption
      case zqhh => exact rfl
      case zqF => k_asm
      case zqN => k_asm
      case zqle => walk_at "le"
      case zqlo => with_reducible assumption
      case zqn => with_reducible assumption
      intro D₁ h₁ tk₁ vs ns c₁ F₁ N₁ l₁ hI hP hW))))
  (k_with "call builtin:sorted" => ((k_here; k_dflt (
      refine' sorted_tupD ?zqhh ?zqF ?zqN ?zqd ?zqp ?zqle ?zqlo ?zqn ?_
      case zqd => with_reducible assumption
      case zqp => with_reducible assumption
      case zqhh => exact rfl
      case zqF => k_asm
      case zqN => k_asm
      case zqle => walk_at "leF"
      case zqlo => with_reducible assumption
      case zqn => assumption
      intro D₁ h₁ tk₁ vs qs c₁ F₁ N₁ l₁ hR hP hW))))
  (k_with "subscriptTail" => ((k_here; (with_reducible show wpAny _ _ (subscriptTail _ _ (Value.ref _) (Value.ref _)) _ _ _); k_dflt (
      refine' item_tup ?u ?d ?le ?k ?l ?_
      case d => with_reducible assumption
      case l => with_reducible assumption
      case u => ktr_units
      case le => walk_at "le"
      case k => (refine' KeyK.at (KeyK.mono ?zle ?zk); (case zk => with_reducible assumption); (case zle => walk_at "le"))))))
  (k_with "subscriptTail" => ((k_here; (with_reducible show wpAny _ _ (subscriptTail _ _ (Value.ref _) (Value.int _ _)) _ _ _); k_dflt (
      refine' item_int ?d ?le ?l ?_
      case d => with_reducible assumption
      case l => with_reducible assumption
      case le => walk_at "le"))))
  (k_with "compareOp In int ref" => ((k_here; k_dflt (
      refine' in_int ?d ?le ?lo ?_
      case d => with_reducible assumption
      case lo => with_reducible assumption
      case le => walk_at "le"))))
  (k_with "compareOp NotIn int ref" => ((k_here; k_dflt (
      refine' notin_int ?d ?le ?lo ?_
      case d => with_reducible assumption
      case lo => with_reducible assumption
      case le => walk_at "le"))))
  (k_with "truthy ref" => ((k_here; k_dflt (
      refine' truthy_row ?r ?le ?z ?_
      case r => with_reducible assumption
      case z => with_reducible assumption
      case le => walk_at "le"))))
  (k_with "call type:tuple" => ((k_here; (with_reducible show wpAny _ _ (call (Value.type _) [Value.ref _]) _ _ _); k_dflt (
      refine' tup_row ?r ?le ?_
      case r => with_reducible assumption
      case le => walk_at "le"))))
  (k_with "call type:tuple" => ((k_here; (with_reducible show wpAny _ _ (call (Value.type _) [Value.ref _]) _ _ _); k_dflt (
      refine' kde_tupleOf ?k1 ?k2 ?k3 ?k4 ?k5 ?_
      case k1 => k_asm
      case k2 => k_asm
      case k3 => exact News.isList (by k_asm) (by k_mem)
      case k4 => with_reducible assumption
      case k5 => exact rfl
      intro t₅ h₅ F₅ N₅ l₅
      (try k_lt l₅)))))
  (k_with "call ref" => ((k_here; (with_reducible show wpAny _ _ (call (Value.ref 35) _) _ _ _); k_dflt (
      refine' use_pure ?F ?N (is_default_spec ?B ?F2 ?X ?T ?k ?d ?u ?V) ?_
      case F => k_asm
      case N => k_asm
      case B => k_asm
      case F2 => k_asm
      case X => k_asm
      case T => k_asm
      case k => first | exact rfl | assumption
      case d => ktr_room
      case u => ktr_units
      case V => (refine' VarsK.mono ?zle ?zk; (case zk => with_reducible assumption); (case zle => walk_at "le"))
      intro _ _ _ _ _ _
      rintro rfl
      (try k_sweep)))))
  (k_with "call ref" => ((k_here; (with_reducible show wpAny _ _ (call (Value.ref 42) _) _ _ _); k_dflt (
      refine' use_pure ?zqF ?zqN (own_pairs_spec ?zqB ?zqF2 ?zqX ?zqT ?zqk ?zqd ?zqu ?zqK ?zqV ?zq6) ?_
      case zqF => k_asm
      case zqN => k_asm
      case zqB => k_asm
      case zqF2 => k_asm
      case zqX => k_asm
      case zqT => k_asm
      case zqk => first | exact rfl | assumption
      case zqd => ktr_room
      case zqu => ktr_units
      case zqV => with_reducible assumption
      case zqK => walk_at "le"
      case zq6 => with_reducible assumption
      intro r₂ h₂ tk₂ F₂ N₂ G₂ P₂
      obtain ⟨a₂, ws₂, ps₂, n₂, e₂, f₂, g₂, hR₂, hP₂, hW₂⟩ := P₂
      subst e₂
      have N₂' := News.grew (by k_asm) N₂ f₂ g₂))))
  (k_with "eval ListComp" => ((k_here; (with_reducible show wpAny _ _ (eval (Expr.ListComp _ [⟨_, _, [], _⟩] _ _) _) _ _ _); k_dflt (refine LCg.ListComp_U (F₀ := by k_asm) (by with_unfolding_all rfl) (by decide) (by rfl) (by decide) (by rfl) ?_))))
  (k_with "eval ListComp" => ((k_here; (with_reducible show wpAny _ _ (eval (Expr.ListComp _ [⟨_, _, [_], _⟩] _ _) _) _ _ _); k_dflt (refine LCt.ListComp_T (F₀ := by k_asm) (by with_unfolding_all rfl) (by decide) (by rfl) (by decide) (by rfl) ?_))))
  (k_with "own all" => (first | with_reducible assumption | (refine List.forall_mem_append.mpr ⟨?_, ?_⟩ <;> k_all)))
  (k_with "exec For Tuple Call cons nil" => ((k_here; k_dflt (refine For_at ?_))))
  (k_with "eval Dict nil nil" => ((k_here; k_dflt (refine' newDict_K ?zqk1 ?zqk2 (TopRead.nolimit (by k_asm)) ?_; (case zqk1 => k_asm); (case zqk2 => k_asm); k_whole); intro d₀ hd₀ o₀ Fd₀ Nd₀ ld₀ lod₀ hs₀ fs₀ hi₀ fi₀; clear hs₀ fs₀ fi₀; (try k_lt ld₀); (try k_sweep))))
  (k_with "eval ListComp" => ((k_here; (with_reducible show wpAny _ _ (eval (Expr.ListComp _ [⟨_, Expr.Subscript _ _ _, [_], _⟩] _ _) _) _ _ _); k_dflt (refine ListComp_WF (F₀ := by k_asm) (by with_unfolding_all rfl) (by decide) (by rfl) (by decide) (by rfl) ?_))))
  (k_with "setItem ref int" => ((k_here; k_dflt (
      refine' kda_set (knd := PySem.intKind _ _) ?zqF ?zqN ?zqU ?zqd (intKind_is _ _ _ _) ?zqz ?_
      case zqd => with_reducible assumption
      case zqF => k_asm
      case zqN => k_asm
      case zqU => k_updF
      case zqz => with_reducible assumption
      intro h₇ o₇ F₇ N₇ hd₇
      (try dsimp only at N₇)))))
  (k_with "subscriptTail" => ((k_here; (with_reducible show wpAny _ _ (subscriptTail _ _ (Value.ref _) (Value.ref _)) _ _ _); k_dflt (
      refine' item_tup ?u ?d ?le ?k ?l ?_
      case d => with_reducible assumption
      case l => with_reducible assumption
      case u => ktr_units
      case le => walk_at "le"
      case k => exact key2 (by k_asm) (by k_mem)))))
  (k_with "call ref" => ((k_here; (with_reducible show wpAny _ _ (call (Value.ref 50) _) _ _ _); k_dflt (
      refine' call_cls ?zk1 ?zk2 ?zk3 ?zk4 ?zk5 ?zk6 ?_
      case zk1 => k_asm
      case zk2 => k_asm
      case zk3 => k_asm
      case zk4 => k_is
      case zk5 => k_is
      case zk6 => k_is
      intro x₈ d₈ h₈ F₈ N₈ l₈ m₈
      (try k_lt l₈)
      (try k_lt2 m₈)
      (try (first | have hal₈ := allLt_ne l₈ | have hal₈ := allLt_ne l₈.2 | have hal₈ := allLt_ne l₈.2.2 | have hal₈ := allLt_ne l₈.2.2.2 | have hal₈ := allLt_ne l₈.2.2.2.2 | have hal₈ := allLt_ne l₈.2.2.2.2.2 | have hal₈ := allLt_ne l₈.2.2.2.2.2.2 | have hal₈ := allLt_ne l₈.2.2.2.2.2.2.2 | have hal₈ := allLt_ne l₈.2.2.2.2.2.2.2.2 | have hal₈ := allLt_ne l₈.2.2.2.2.2.2.2.2.2 | have hal₈ := allLt_ne l₈.2.2.2.2.2.2.2.2.2.2))
      (try k_sweep)
      refine' code_def ?zk1 ?zk2 ?zk3 ?zk4 ?zk5 ?zkA ?zkF ?zkK ?zk6 ?zk7 ?zk8 ?zk9 ?zkB ?_ ?zc2 ?zc3 ?zc4 ?zc5
      case zkA => exact rfl
      case zkF => exact rfl
      case zkK => exact rfl
      case zk1 => k_asm
      case zk2 => k_asm
      case zk3 => k_asm
      case zk4 => k_asm
      case zk5 => k_asm
      case zk6 => k_is
      case zk7 => k_is
      case zk8 => ktr_room
      case zk9 => exact BindsTo.of_eq rfl
      case zc5 => decide
      case zkB => exact locs rfl
      case zc2 => exact rfl
      case zc3 => exact rfl
      case zc4 => exact rfl
      intro g₉ L₉ h₉ FG₉ F₉ N₉ B₉ X₉ T₉
      (try dsimp only)
      (try k_lift B₉)
      (try k_fold)))))
  (k_with "le" => ((refine' le_addN ?zla ?zlb ?zlc ?zld; (case zlb => k_asm); (case zlc => k_asm); (case zla => with_reducible assumption); (case zld => walk_at "own subs"))))
  (k_with "leF" => (exact fun _ F9 N9 => le_addN (by with_reducible assumption) F9 N9 (by walk_at "own subs")))
  (k_with "call ref" => ((k_here; (with_reducible show wpAny _ _ (call (Value.ref 81) _) _ _ _); k_dflt (
      refine' use_pure ?zqF ?zqN (glyph_spec ?zqB ?zqF2 ?zqX ?zqT ?zqk ?zqd ?zqu ?zqV) ?_
      case zqF => k_asm
      case zqN => k_asm
      case zqB => k_asm
      case zqF2 => k_asm
      case zqX => k_asm
      case zqT => k_asm
      case zqk => first | exact rfl | assumption
      case zqd => ktr_room
      case zqu => ktr_units
      case zqV => (refine' CmK.mono ?zle ?zk; (case zk => with_reducible assumption); (case zle => walk_at "le"))
      intro r₃ h₃ tk₃ F₃ N₃ G₃ P₃
      obtain ⟨t₃, e₃⟩ := P₃
      subst e₃
      (try k_sweep)))))
  (k_with "call ref" => ((k_here; (with_reducible show wpAny _ _ (call (Value.ref 105) _) _ _ _); k_dflt (
      refine' use_pure ?zqF ?zqN (cut_vars_spec ?zqB ?zqF2 ?zqX ?zqT ?zqk ?zqd ?zqu ?zqK ?zqV ?zqw ?zql ?zq6 ?zq7 ?zq5) ?_
      case zqF => k_asm
      case zqN => k_asm
      case zqB => k_asm
      case zqF2 => k_asm
      case zqX => k_asm
      case zqT => k_asm
      case zqk => first | exact rfl | assumption
      case zqd => ktr_room
      case zqu => ktr_units
      case zqV => with_reducible assumption
      case zqw => with_reducible assumption
      case zqK => walk_at "le"
      case zql => with_reducible assumption
      case zq6 => with_reducible assumption
      case zq7 => with_reducible assumption
      case zq5 => assumption
      intro r₂ h₂ tk₂ F₂ N₂ G₂ P₂
      obtain ⟨v₂, dx₂, t₂₁, t₂₂, n₂, dd₂, oo₂, tl₂, ns₂, qs₂, e₂, hT₂, hlt₂, hal₂, hRw₂, hOt₂, hk₂, hkw₂, hp₂, hpw₂⟩ := P₂
      subst e₂
      have hz₂ := fresh_all hT₂ (by k_asm)
      simp only [List.forall_mem_cons] at hz₂
      have N₂' := News.grewL (by k_asm) N₂ hT₂
      dsimp only [List.cons_append] at N₂'))))
  (k_with "eval DictComp" => ((k_here; k_dflt (refine DictComp_L (F₀ := by k_asm) (by with_unfolding_all rfl) (by decide) (by rfl) (by decide) (by rfl) ?_))))
  (k_with "exec Assign cons DictComp" => ((k_here; k_dflt (refine Assign_DictComp_L (F₀ := by k_asm) (by rfl) (by with_unfolding_all rfl) (by with_unfolding_all rfl) (by decide) (by rfl) (by decide) (by rfl) (by rfl) (by rfl) ?_))))
  trivial
section
abbrev penO (cs : Addr) (seat : Int) (t1 : Tok) (great : Int) (t2 : Tok) (k : Nat) : Obj := W.listOf #[.ref cs, .int seat t1, .int great t2] k
section
variable {prog : Program} {w : World} {A : Around} {E : Value → Shared → Prop} {s : Shared} {Q : Value → Shared → Prop}
theorem mod_abs {a b : Int} {t u : Tok} (hb : 0 < b) (h : ∀ x, 0 ≤ x → x < b → Q (.int x s.toks) { s with toks := s.toks + 1 }) :
    wpAny (model prog w) A (binaryOp .Mod (.int a t) (.int b u)) Q E s :=
  mod_int' (by omega) (h _ (Int.fmod_nonneg_of_pos _ hb) (Int.fmod_lt_of_pos _ hb))
theorem div_abs {a b : Int} {t u : Tok} (ha : 0 ≤ a) (hb : 0 < b) (hb9 : b ≤ 9) (h : ∀ x, 0 ≤ x → Q (.int x s.toks) { s with toks := s.toks + 1 }) :
    wpAny (model prog w) A (binaryOp .FloorDiv (.int a t) (.int b u)) Q E s :=
  floordiv_int (by omega) (h _ (Int.fdiv_nonneg ha (by omega))) (Or.inl (PyProof.noPylong_small (by omega)))
theorem pow_abs {a n : Int} {t u : Tok} (hn : 0 ≤ n) (hn2 : n ≤ 1000000) (ha : -(2 ^ 63) < a ∧ a < 2 ^ 63) (h : ∀ x, Q (.int x s.toks) { s with toks := s.toks + 1 }) :
    wpAny (model prog w) A (binaryOp .Pow (.int a t) (.int n u)) Q E s :=
  pow_int_small hn hn2 (by omega) (h _)
theorem pow_lit {t u : Tok} (h : Q (.int 1000000000000000000 s.toks) { s with toks := s.toks + 1 }) :
    wpAny (model prog w) A (binaryOp .Pow (.int 10 t) (.int 18 u)) Q E s :=
  pow_int_small (by decide) (by decide) (by decide) h
theorem abs_abs {a : Int} (h : ∀ x u tk, x = (a.natAbs : Int) → Q (.int x u) { s with toks := tk }) :
    wpAny (model prog w) A (call (.builtin "abs") [.int a t]) Q E s :=
  call_abs_int (fun u tk => h _ u tk (by split <;> omega))
theorem mulb {a b N M : Int} (ha : 0 ≤ a) (ha1 : a ≤ N) (hb : 0 ≤ b) (hb1 : b ≤ M) : 0 ≤ a * b ∧ a * b ≤ N * M :=
  ⟨Int.mul_nonneg ha hb, Int.mul_le_mul ha1 hb1 hb (Int.le_trans ha ha1)⟩
theorem mul_abs {a b : Int} {t u : Tok} (ha : 0 ≤ a) (ha1 : a ≤ 2147483647) (hb : 0 ≤ b) (hb1 : b ≤ 100000) (h : ∀ x, 0 ≤ x → x ≤ 214748364700000 → Q (.int x s.toks) { s with toks := s.toks + 1 }) :
    wpAny (model prog w) A (binaryOp .Mult (.int a t) (.int b u)) Q E s :=
  mul_int (h _ (mulb ha ha1 hb hb1).1 (mulb ha ha1 hb hb1).2) (IntMulOk.of_right (PySem.intBits_le_64 (by omega) (by omega)))
theorem mul_two {a : Int} {t u : Tok} (ha : 0 ≤ a) (ha1 : a ≤ 1000) (h : Q (.int (2 * a) s.toks) { s with toks := s.toks + 1 }) :
    wpAny (model prog w) A (binaryOp .Mult (.int 2 t) (.int a u)) Q E s :=
  mul_int h (IntMulOk.of_right (PySem.intBits_le_64 (by omega) (by omega)))
theorem cell_at {value slice : PySem.Expr} {l : Addr} {vs : List Value} {ns : List Int} {k : Int} {u : Tok} (hl : s.heap.IsList l vs.toArray) (hi : IntsAre vs ns)
    (hlen : ns.length ≤ 40) (h0 : 0 ≤ k) (h1 : k < (ns.length : Int)) (h : ∀ x t, Q (.int x t) s)
    (hs : subscripted slice false (.ref l) (.int k u) = operate [.ref l, .int k u] (getItem (.ref l) (.int k u)) := by with_unfolding_all rfl) :
    wpAny (model prog w) A (subscriptTail value slice (.ref l) (.int k u)) Q E s :=
  item_anyK hl hi h0 h1 (by omega) (fun t => h _ t) hs
theorem len_cells {l : Addr} {vs : List Value} {ns : List Int} (hl : s.heap.IsList l vs.toArray) (hi : IntsAre vs ns)
    (hlen : ns.length ≤ 40) (h : ∀ t tk, Q (.int (ns.length : Int) t) { s with toks := tk }) : wpAny (model prog w) A (call (.builtin "len") [.ref l]) Q E s :=
  call_len_list hl (by have := hi.length; rw [List.size_toArray]; omega) (by rw [List.size_toArray, hi.length]; exact h _ _)
end
theorem row1_V1 : True := by
  (k_with "binaryOp Mod int int" => ((k_here; (refine' mod_abs ?zb ?_; (case zb => first | decide | omega)); intro _ _ _)))
  trivial
theorem row2_V1 : True := by
  (k_with "binaryOp FloorDiv int int" => ((k_here; (refine' div_abs ?za ?zb ?zc ?_; (case za => omega); (case zb => first | decide | omega); (case zc => first | decide | omega)); intro _ _)))
  trivial
theorem row3_V1 : True := by
  (k_with "binaryOp Pow int int" => ((k_here; first | (with_reducible refine pow_lit ?_) | (with_reducible refine' pow_abs ?za ?zb ?zc ?_; (case za => decide); (case zb => decide); (case zc => omega); intro _))))
  trivial
theorem row4_V1 : True := by
  (k_with "binaryOp Mult int int" => ((k_here; first | (with_reducible refine' mul_two ?za ?zb ?_; (case za => omega); (case zb => omega)) | (refine' mul_abs ?za ?zb ?zc ?zd ?_; (case za => omega); (case zb => omega); (case zc => omega); (case zd => omega); intro _ _ _))))
  trivial
theorem row5_V1 : True := by
  (k_with "call builtin:abs" => ((k_here; refine abs_abs ?_; intro _ _ _ _)))
  trivial
theorem row6_V1 : True := by
  (k_with "call builtin:len" => ((k_here; (refine' len_cells ?za ?zb ?zc ?_; (case zb => with_reducible assumption); (case za => exact News.isList (by k_asm) (by k_mem)); (case zc => with_reducible assumption)); intro _ _)))
  trivial
theorem row7_V1 : True := by
  (k_with "subscriptTail" => ((k_here; (with_reducible show wpAny _ _ (subscriptTail _ _ (Value.ref _) (Value.int _ _)) _ _ _); k_dflt (refine' cell_at ?za ?zb ?zc ?zd ?ze ?_; (case zb => with_reducible assumption); (case za => exact News.isList (by k_asm) (by k_mem)); (case zc => with_reducible assumption); (case zd => omega); (case ze => omega); intro _ _))))
  trivial
section
variable {prog : Program} {w : World} {A₀ : Around} {E : Value → Shared → Prop} {s : Shared} {base h₀ : Heap} {L : Addr} {m : Str → Option Value}
  {p : Program} {loose : List Str} {mean : ExcName → Option Value} {mg mb : Str → Option Value} {dp un : Nat} {gd : Option (List Code)} {cn : Str} {cs : Scope} {ca : Addr} {ccd : Value} {cl : List (Str × Addr)} {outer : List Env}
set_option maxHeartbeats 4000000 in
theorem draw_spec {P c : Addr} {seat great many : Int} {t1 t2 u : Tok} {k kc : Nat} {cells : List Value} {ns : List Int} {rest : List (Addr × Obj)} {Q : Value → Shared → Prop}
    (B : Below A₀ base outer h₀) (F : Fr h₀ L s.heap m) (N : News h₀ L s.heap ((P, penO c seat t1 great t2 k) :: (c, W.listOf cells.toArray kc) :: rest)) (X : (Mine.hd.heap_39 w.params).In h₀) (T : Top p loose mean mg mb h₀) (hk : cs.kind = .function)
    (hd : dp + 10 < recursionLimit) (hu : un + 80 < cLine) (hcP : @Ne Nat c P) (hrP : ∀ p ∈ rest, p.1 ≠ P) (hI : IntsAre cells ns) (hlen : ns.length ≤ 40) (hs0 : 0 ≤ seat) (hs1 : seat ≤ 500) (hg : 0 ≤ great) (hm : 0 < many) (hm9 : many ≤ 9)
    (h : ∀ r t h' tk seat' t1' great' t2' k', 0 ≤ r → r < many → seat ≤ seat' → seat' ≤ seat + 1 → 0 ≤ great' → Fr h₀ L h' m → News h₀ L h' ((P, penO c seat' t1' great' t2' k') :: (c, W.listOf cells.toArray kc) :: rest) → Q (.int r t) { s with heap := h', toks := tk }) :
    wpAny (model prog w) (ktrTop dp un gd cn cs L ca ccd cl outer) (call (.ref 119) [.ref P, .int many u]) Q E s := by
  refine wpAny_call ?_
  refine' code_def ?zk1 ?zk2 ?zk3 ?zk4 ?zk5 ?zkA ?zkF ?zkK ?zk6 ?zk7 ?zk8 ?zk9 ?zkB ?_ ?zc2 ?zc3 ?zc4 ?zc5
  case zkA => exact rfl
  case zkF => exact rfl
  case zkK => exact hk
  case zk1 => k_asm
  case zk2 => k_asm
  case zk3 => k_asm
  case zk4 => k_asm
  case zk5 => k_asm
  case zk6 => k_is
  case zk7 => k_is
  case zk8 => ktr_room
  case zk9 => exact BindsTo.of_eq rfl
  case zc5 => decide
  case zkB => exact locs rfl
  case zc2 => exact rfl
  case zc3 => exact rfl
  case zc4 => exact rfl
  intro g₉ L₉ h₉ FG₉ F₉ N₉ B₉ X₉ T₉
  (try dsimp only)
  (try k_lift B₉)
  show wpAny _ _ _ _ _ _
  (try k_fold)
  refine letA ?_
  intro A9 hAu hAd
  simp only [units_deeper, depth_deeper] at hAu hAd
  (try dsimp only [ktrTop] at hAu hAd)
  iterate 12 (first | (k_unfold; (try dsimp only)) | walk1 | (dsimp only; walk1) | (leave1; try dsimp only))
  · k_steps
    (refine' h _ _ _ _ _ _ _ _ _ ?a ?b ?c ?d ?e ?f ?g; (case g => with_reducible assumption); (case f => k_asm); (case a => omega); (case b => omega); (case c => omega); (case d => omega); (case e => omega))
  · iterate 170 (all_goals (try (first | (k_unfold; (try dsimp only)) | walk1 | (dsimp only; walk1) | (leave1; try dsimp only))))
    all_goals (refine' h _ _ _ _ _ _ _ _ _ ?a ?b ?c ?d ?e ?f ?g; (case g => with_reducible assumption); (case f => k_asm); (case a => omega); (case b => omega); (case c => omega); (case d => omega); (case e => omega))
end


end
theorem rows_V2 : True := by
  k_with_none
  w_top off
  (k_with "own tail" => (first | ((repeat apply List.Mem.tail); first | exact hp | exact List.mem_append_left _ hp | exact List.mem_append_right _ hp) | (simp only [List.mem_cons, List.mem_append, List.not_mem_nil, or_false] at hp ⊢; grind)))
  (k_with "own subs" => (((try dsimp only [List.cons_append, List.nil_append]); (repeat (refine List.forall_mem_cons.mpr ⟨?_, ?_⟩; (· ((repeat (first | with_reducible exact List.Mem.head _ | refine List.Mem.tail _ ?_)); done)))); intro p hp; first | exact absurd hp List.not_mem_nil | ((repeat apply List.Mem.tail); first | exact hp | exact List.mem_append_left _ hp | exact List.mem_append_right _ hp) | (simp only [List.mem_cons, List.mem_append, List.not_mem_nil, or_false] at hp ⊢; grind))))
  (k_with "own ne" => ((refine neN ?_; (try dsimp only); first | assumption | exact Ne.symm (by assumption) | exact Nat.ne_of_lt (by assumption) | exact Nat.ne_of_gt (by assumption) | exact And.left (by assumption) | exact And.left (And.right (by assumption)) | exact And.right (And.right (by assumption)) | exact Ne.symm (And.left (by assumption)) | exact Ne.symm (And.left (And.right (by assumption))) | exact Ne.symm (And.right (And.right (by assumption))) | ((repeat (rename @Ne _ _ _ => hne9; clear hne9)); (repeat (rename And (@Ne _ _ _) _ => hne9; clear hne9)); omega))))
  (k_with "le" => (first | (refine' le_fr ?zla ?zlb; (case zlb => k_asm); (case zla => with_reducible assumption)) | exact Fr.keep (by k_asm)))
  (k_with "fin" => (((try dsimp only); (try k_unfold); (try dsimp only); refine ⟨_, _, _, rfl, by k_asm, ?_⟩)))
  (k_with "leF" => (first | exact fun _ F9 _ => le_fr (by with_reducible assumption) F9 | exact fun _ F9 _ => Fr.keep F9))
  (k_with "own inst" => ((refine' inst_kn ?le ?h1 ?h2; (case h1 => with_reducible assumption); (case h2 => with_reducible assumption); (case le => walk_at "le"))))
  (k_with "own fits" => (with_reducible assumption))
  (k_with "execs cons Assign cons" => (refine wpAny_execs_cons ?_))
  (k_with "exec For Name Call cons nil" => ((k_here; k_dflt (refine For_at ?_))))
  (k_with "getMethod ref" => ((k_here; first
      | (refine' getm_int ?d ?le ?_; (case d => with_reducible assumption); (case le => walk_at "le"))
      | (refine' getm_tup ?d ?le ?_; (case d => with_reducible assumption); (case le => walk_at "le")))))
  (k_with "key" => (exact key2 (by k_asm) (by k_mem)))
  (k_with "call builtin:dict.get" => ((k_here; first
      | (refine' get2_int ?d ?le ?lo ?_; (case d => with_reducible assumption); (case lo => with_reducible assumption); (case le => walk_at "le"))
      | (refine' get2_tup ?u ?d ?le ?lo ?k ?_; (case d => with_reducible assumption); (case lo => with_reducible assumption); (case u => ktr_units); (case le => walk_at "le"); (case k => walk_at "key")))))
  (k_with "enterC" => ((
      refine' enter_cells (args := ⟨_, []⟩) ?k1 ?k2 ?k3 ?k5 ?kA ?kF ?kK ?k6 ?k7 ?k8 ?k9 ?kB ?kD ?_ ?c2 ?c3 ?c4
      case kA => exact rfl
      case kF => exact rfl
      case kK => assumption
      case k1 => k_asm
      case k2 => k_asm
      case k3 => k_asm
      case k5 => k_asm
      case k6 => k_is
      case k7 => k_is
      case k8 => ktr_room
      case k9 => exact BindsTo.of_eq rfl
      case kB => exact rfl
      case kD => decide +kernel
      case c2 => exact rfl
      case c3 => exact rfl
      case c4 => exact rfl)))
  (k_with "enter" => ((
      refine' enter_pure (args := ⟨_, []⟩) ?k1 ?k2 ?k3 ?k5 ?kA ?kF ?kK ?k6 ?k7 ?k8 ?k9 ?kB ?_ ?c2 ?c3 ?c4 ?c5
      case kA => exact rfl
      case kF => exact rfl
      case kK => assumption
      case k1 => k_asm
      case k2 => k_asm
      case k3 => k_asm
      case k5 => k_asm
      case k6 => k_is
      case k7 => k_is
      case k8 => ktr_room
      case k9 => exact BindsTo.of_eq rfl
      case c5 => decide
      case kB => exact locs rfl
      case c2 => exact rfl
      case c3 => exact rfl
      case c4 => exact rfl)))
  (k_with "newList" => ((k_here; k_dflt (refine' newList_K ?k1 ?k2 ?_; (case k1 => k_asm); (case k2 => k_asm); k_whole); intro l₀ hl₀ Fl₀ Nl₀ ll₀; (try k_lt ll₀); (try k_sweep))))
  (k_with "newTuple" => ((k_here; k_dflt (refine' kup_newTuple ?zqk1 ?zqk2 ?_ ?zqk3; (case zqk1 => k_asm); (case zqk2 => k_asm); (case zqk3 => exact Nat.le_of_ble_eq_true rfl)); intro t₀ ht₀ Ft₀ Nt₀ lt₀; (try k_lt lt₀); (try k_sweep))))
  (k_with "call builtin:sorted" => ((k_here; k_dflt (
      refine' sorted_intD ?zqhh ?zqF ?zqN ?zqd ?zqle ?zqlo ?zqn ?_
      case zqd => with_reducible assumption
      case zqhh => exact rfl
      case zqF => k_asm
      case zqN => k_asm
      case zqle => walk_at "le"
      case zqlo => with_reducible assumption
      case zqn => with_reducible assumption
      intro D₁ h₁ tk₁ vs ns c₁ F₁ N₁ l₁ hI hP hW))))
  (k_with "call builtin:sorted" => ((k_here; k_dflt (
      refine' sorted_tupD ?zqhh ?zqF ?zqN ?zqd ?zqp ?zqle ?zqlo ?zqn ?_
      case zqd => with_reducible assumption
      case zqp => with_reducible assumption
      case zqhh => exact rfl
      case zqF => k_asm
      case zqN => k_asm
      case zqle => walk_at "leF"
      case zqlo => with_reducible assumption
      case zqn => assumption
      intro D₁ h₁ tk₁ vs qs c₁ F₁ N₁ l₁ hR hP hW))))
  (k_with "subscriptTail" => ((k_here; (with_reducible show wpAny _ _ (subscriptTail _ _ (Value.ref _) (Value.ref _)) _ _ _); k_dflt (
      refine' item_tup ?u ?d ?le ?k ?l ?_
      case d => with_reducible assumption
      case l => with_reducible assumption
      case u => ktr_units
      case le => walk_at "le"
      case k => (refine' KeyK.at (KeyK.mono ?zle ?zk); (case zk => with_reducible assumption); (case zle => walk_at "le"))))))
  (k_with "subscriptTail" => ((k_here; (with_reducible show wpAny _ _ (subscriptTail _ _ (Value.ref _) (Value.int _ _)) _ _ _); k_dflt (
      refine' item_int ?d ?le ?l ?_
      case d => with_reducible assumption
      case l => with_reducible assumption
      case le => walk_at "le"))))
  (k_with "compareOp In int ref" => ((k_here; k_dflt (
      refine' in_int ?d ?le ?lo ?_
      case d => with_reducible assumption
      case lo => with_reducible assumption
      case le => walk_at "le"))))
  (k_with "compareOp NotIn int ref" => ((k_here; k_dflt (
      refine' notin_int ?d ?le ?lo ?_
      case d => with_reducible assumption
      case lo => with_reducible assumption
      case le => walk_at "le"))))
  (k_with "truthy ref" => ((k_here; k_dflt (
      refine' truthy_row ?r ?le ?z ?_
      case r => with_reducible assumption
      case z => with_reducible assumption
      case le => walk_at "le"))))
  (k_with "call type:tuple" => ((k_here; (with_reducible show wpAny _ _ (call (Value.type _) [Value.ref _]) _ _ _); k_dflt (
      refine' tup_row ?r ?le ?_
      case r => with_reducible assumption
      case le => walk_at "le"))))
  (k_with "call type:tuple" => ((k_here; (with_reducible show wpAny _ _ (call (Value.type _) [Value.ref _]) _ _ _); k_dflt (
      refine' kde_tupleOf ?k1 ?k2 ?k3 ?k4 ?k5 ?_
      case k1 => k_asm
      case k2 => k_asm
      case k3 => exact News.isList (by k_asm) (by k_mem)
      case k4 => with_reducible assumption
      case k5 => exact rfl
      intro t₅ h₅ F₅ N₅ l₅
      (try k_lt l₅)))))
  (k_with "call ref" => ((k_here; (with_reducible show wpAny _ _ (call (Value.ref 35) _) _ _ _); k_dflt (
      refine' use_pure ?F ?N (is_default_spec ?B ?F2 ?X ?T ?k ?d ?u ?V) ?_
      case F => k_asm
      case N => k_asm
      case B => k_asm
      case F2 => k_asm
      case X => k_asm
      case T => k_asm
      case k => first | exact rfl | assumption
      case d => ktr_room
      case u => ktr_units
      case V => (refine' VarsK.mono ?zle ?zk; (case zk => with_reducible assumption); (case zle => walk_at "le"))
      intro _ _ _ _ _ _
      rintro rfl
      (try k_sweep)))))
  (k_with "call ref" => ((k_here; (with_reducible show wpAny _ _ (call (Value.ref 42) _) _ _ _); k_dflt (
      refine' use_pure ?zqF ?zqN (own_pairs_spec ?zqB ?zqF2 ?zqX ?zqT ?zqk ?zqd ?zqu ?zqK ?zqV ?zq6) ?_
      case zqF => k_asm
      case zqN => k_asm
      case zqB => k_asm
      case zqF2 => k_asm
      case zqX => k_asm
      case zqT => k_asm
      case zqk => first | exact rfl | assumption
      case zqd => ktr_room
      case zqu => ktr_units
      case zqV => with_reducible assumption
      case zqK => walk_at "le"
      case zq6 => with_reducible assumption
      intro r₂ h₂ tk₂ F₂ N₂ G₂ P₂
      obtain ⟨a₂, ws₂, ps₂, n₂, e₂, f₂, g₂, hR₂, hP₂, hW₂⟩ := P₂
      subst e₂
      have N₂' := News.grew (by k_asm) N₂ f₂ g₂))))
  (k_with "eval ListComp" => ((k_here; (with_reducible show wpAny _ _ (eval (Expr.ListComp _ [⟨_, _, [], _⟩] _ _) _) _ _ _); k_dflt (refine LCg.ListComp_U (F₀ := by k_asm) (by with_unfolding_all rfl) (by decide) (by rfl) (by decide) (by rfl) ?_))))
  (k_with "eval ListComp" => ((k_here; (with_reducible show wpAny _ _ (eval (Expr.ListComp _ [⟨_, _, [_], _⟩] _ _) _) _ _ _); k_dflt (refine LCt.ListComp_T (F₀ := by k_asm) (by with_unfolding_all rfl) (by decide) (by rfl) (by decide) (by rfl) ?_))))
  (k_with "own all" => (first | with_reducible assumption | (refine List.forall_mem_append.mpr ⟨?_, ?_⟩ <;> k_all)))
  (k_with "exec For Tuple Call cons nil" => ((k_here; k_dflt (refine For_at ?_))))
  (k_with "eval Dict nil nil" => ((k_here; k_dflt (refine' newDict_K ?zqk1 ?zqk2 (TopRead.nolimit (by k_asm)) ?_; (case zqk1 => k_asm); (case zqk2 => k_asm); k_whole); intro d₀ hd₀ o₀ Fd₀ Nd₀ ld₀ lod₀ hs₀ fs₀ hi₀ fi₀; clear hs₀ fs₀ fi₀; (try k_lt ld₀); (try k_sweep))))
  (k_with "eval ListComp" => ((k_here; (with_reducible show wpAny _ _ (eval (Expr.ListComp _ [⟨_, Expr.Subscript _ _ _, [_], _⟩] _ _) _) _ _ _); k_dflt (refine ListComp_WF (F₀ := by k_asm) (by with_unfolding_all rfl) (by decide) (by rfl) (by decide) (by rfl) ?_))))
  (k_with "setItem ref int" => ((k_here; k_dflt (
      refine' kda_set (knd := PySem.intKind _ _) ?zqF ?zqN ?zqU ?zqd (intKind_is _ _ _ _) ?zqz ?_
      case zqd => with_reducible assumption
      case zqF => k_asm
      case zqN => k_asm
      case zqU => k_updF
      case zqz => with_reducible assumption
      intro h₇ o₇ F₇ N₇ hd₇
      (try dsimp only at N₇)))))
  (k_with "subscriptTail" => ((k_here; (with_reducible show wpAny _ _ (subscriptTail _ _ (Value.ref _) (Value.ref _)) _ _ _); k_dflt (
      refine' item_tup ?u ?d ?le ?k ?l ?_
      case d => with_reducible assumption
      case l => with_reducible assumption
      case u => ktr_units
      case le => walk_at "le"
      case k => exact key2 (by k_asm) (by k_mem)))))
  (k_with "call ref" => ((k_here; (with_reducible show wpAny _ _ (call (Value.ref 50) _) _ _ _); k_dflt (
      refine' call_cls ?zk1 ?zk2 ?zk3 ?zk4 ?zk5 ?zk6 ?_
      case zk1 => k_asm
      case zk2 => k_asm
      case zk3 => k_asm
      case zk4 => k_is
      case zk5 => k_is
      case zk6 => k_is
      intro x₈ d₈ h₈ F₈ N₈ l₈ m₈
      (try k_lt l₈)
      (try k_lt2 m₈)
      (try (first | have hal₈ := allLt_ne l₈ | have hal₈ := allLt_ne l₈.2 | have hal₈ := allLt_ne l₈.2.2 | have hal₈ := allLt_ne l₈.2.2.2 | have hal₈ := allLt_ne l₈.2.2.2.2 | have hal₈ := allLt_ne l₈.2.2.2.2.2 | have hal₈ := allLt_ne l₈.2.2.2.2.2.2 | have hal₈ := allLt_ne l₈.2.2.2.2.2.2.2 | have hal₈ := allLt_ne l₈.2.2.2.2.2.2.2.2 | have hal₈ := allLt_ne l₈.2.2.2.2.2.2.2.2.2 | have hal₈ := allLt_ne l₈.2.2.2.2.2.2.2.2.2.2))
      (try k_sweep)
      refine' code_def ?zk1 ?zk2 ?zk3 ?zk4 ?zk5 ?zkA ?zkF ?zkK ?zk6 ?zk7 ?zk8 ?zk9 ?zkB ?_ ?zc2 ?zc3 ?zc4 ?zc5
      case zkA => exact rfl
      case zkF => exact rfl
      case zkK => exact rfl
      case zk1 => k_asm
      case zk2 => k_asm
      case zk3 => k_asm
      case zk4 => k_asm
      case zk5 => k_asm
      case zk6 => k_is
      case zk7 => k_is
      case zk8 => ktr_room
      case zk9 => exact BindsTo.of_eq rfl
      case zc5 => decide
      case zkB => exact locs rfl
      case zc2 => exact rfl
      case zc3 => exact rfl
      case zc4 => exact rfl
      intro g₉ L₉ h₉ FG₉ F₉ N₉ B₉ X₉ T₉
      (try dsimp only)
      (try k_lift B₉)
      (try k_fold)))))
  (k_with "le" => ((refine' le_addN ?zla ?zlb ?zlc ?zld; (case zlb => k_asm); (case zlc => k_asm); (case zla => with_reducible assumption); (case zld => walk_at "own subs"))))
  (k_with "leF" => (exact fun _ F9 N9 => le_addN (by with_reducible assumption) F9 N9 (by walk_at "own subs")))
  (k_with "call ref" => ((k_here; (with_reducible show wpAny _ _ (call (Value.ref 81) _) _ _ _); k_dflt (
      refine' use_pure ?zqF ?zqN (glyph_spec ?zqB ?zqF2 ?zqX ?zqT ?zqk ?zqd ?zqu ?zqV) ?_
      case zqF => k_asm
      case zqN => k_asm
      case zqB => k_asm
      case zqF2 => k_asm
      case zqX => k_asm
      case zqT => k_asm
      case zqk => first | exact rfl | assumption
      case zqd => ktr_room
      case zqu => ktr_units
      case zqV => (refine' CmK.mono ?zle ?zk; (case zk => with_reducible assumption); (case zle => walk_at "le"))
      intro r₃ h₃ tk₃ F₃ N₃ G₃ P₃
      obtain ⟨t₃, e₃⟩ := P₃
      subst e₃
      (try k_sweep)))))
  (k_with "call ref" => ((k_here; (with_reducible show wpAny _ _ (call (Value.ref 105) _) _ _ _); k_dflt (
      refine' use_pure ?zqF ?zqN (cut_vars_spec ?zqB ?zqF2 ?zqX ?zqT ?zqk ?zqd ?zqu ?zqK ?zqV ?zqw ?zql ?zq6 ?zq7 ?zq5) ?_
      case zqF => k_asm
      case zqN => k_asm
      case zqB => k_asm
      case zqF2 => k_asm
      case zqX => k_asm
      case zqT => k_asm
      case zqk => first | exact rfl | assumption
      case zqd => ktr_room
      case zqu => ktr_units
      case zqV => with_reducible assumption
      case zqw => with_reducible assumption
      case zqK => walk_at "le"
      case zql => with_reducible assumption
      case zq6 => with_reducible assumption
      case zq7 => with_reducible assumption
      case zq5 => assumption
      intro r₂ h₂ tk₂ F₂ N₂ G₂ P₂
      obtain ⟨v₂, dx₂, t₂₁, t₂₂, n₂, dd₂, oo₂, tl₂, ns₂, qs₂, e₂, hT₂, hlt₂, hal₂, hRw₂, hOt₂, hk₂, hkw₂, hp₂, hpw₂⟩ := P₂
      subst e₂
      have hz₂ := fresh_all hT₂ (by k_asm)
      simp only [List.forall_mem_cons] at hz₂
      have N₂' := News.grewL (by k_asm) N₂ hT₂
      dsimp only [List.cons_append] at N₂'))))
  (k_with "eval DictComp" => ((k_here; k_dflt (refine DictComp_L (F₀ := by k_asm) (by with_unfolding_all rfl) (by decide) (by rfl) (by decide) (by rfl) ?_))))
  (k_with "exec Assign cons DictComp" => ((k_here; k_dflt (refine Assign_DictComp_L (F₀ := by k_asm) (by rfl) (by with_unfolding_all rfl) (by with_unfolding_all rfl) (by decide) (by rfl) (by decide) (by rfl) (by rfl) (by rfl) ?_))))
  trivial
section
section
variable {prog : Program} {w : World} {A : Around} {E : Value → Shared → Prop} {env : Env}
/-- a loop over a short range -/
def ForR (prog : Program) (w : World) (A : Around) (env : Env) (target : PySem.Expr) (body : List Stmt) (Q : Flow → Shared → Prop) (xv : Value) (s : Shared) : Prop :=
  ∃ (h₀ : Heap) (r : Addr) (b : Int) (t u v : Tok) (nx₀ : List (Addr × Obj)) (m₀ : Str → Option Value) (J : Int → (Str → Option Value) → List (Addr × Obj) → Prop),
    xv = .ref r ∧ A.handled = none ∧ IsRange s.heap r 0 b 1 t u v ∧ 0 ≤ b ∧ b ≤ 100 ∧ Fr h₀ env.locals s.heap m₀ ∧ News h₀ env.locals s.heap nx₀ ∧ J 0 m₀ nx₀ ∧
    (∀ i I oI m₁ nx h tk ti, 0 ≤ i → i < b → J i m₁ nx → (∀ p ∈ nx₀, p.1 < I) → (∀ p ∈ nx, p.1 ≠ I) → Fr h₀ env.locals h m₁ → News h₀ env.locals h ((I, oI) :: nx) →
      wpAny (model prog w) A (assign target env (.int i ti)) (fun _ s₂ => wpAny (model prog w) A (execs body env)
        (TurnEnd h₀ env.locals I oI [] (J (i + 1)) { s with heap := h, toks := tk } (fun r s' => Q (.ret r) s') (fun s' => Q .next s')) (fun _ _ => False) s₂) (fun _ _ => False) { s with heap := h, toks := tk }) ∧
    (∀ m₁ nx h tk, J b m₁ nx → Fr h₀ env.locals h m₁ → News h₀ env.locals h nx → Q .next { s with heap := h, toks := tk })
theorem For_R {s : Shared} {x : Str} {px : Pos} {iter : PySem.Expr} {body : List Stmt} {pos : Pos} {Q : Flow → Shared → Prop}
    (h : wpAny (model prog w) A (eval iter env) (ForR prog w A env (.Name x px) body Q) E s)
    (hs : ∀ x, foldedSetIterable iter env x = pure x := by intro _; rfl) :
    wpAny (model prog w) A (exec (.For (.Name x px) iter body [] pos) env) Q E s := by
  refine wpAny_For (wpAny_mono h (fun xv s₁ h₁ => ?_) fun _ _ e => e) hs
  obtain ⟨h₀, r, b, t, u, v, nx₀, m₀, J, rfl, hh, hr, hb0, hb1, F, N, hj, turn, done⟩ := h₁
  refine wpAny_pyIter_range hr (small_one (by omega) (by omega) (by omega) (by omega)) ?_
  rw [rangeSize_nat, Int.sub_zero, Int.toNat_of_nonneg hb0]
  have up : ∀ b' o, s₁.heap.get? b' = some o → (s₁.heap.push { cls := .type "range_iterator", data := .fields #[rawInt 0, rawInt b, rawInt 1] }).get? b' = some o := fun b o e => Heap.get?_push_of_some _ e
  have hI0 : h₀.get? s₁.heap.objs.size = none := Heap.get?_none_of_le (Nat.le_trans F.above (Nat.le_of_lt F.ns.lt))
  have hIL : env.locals ≠ s₁.heap.objs.size := Nat.ne_of_lt F.ns.lt
  have hlt : ∀ p ∈ nx₀, p.1 < s₁.heap.objs.size := fun p hp => Heap.lt_size (N p hp).1
  refine codeAny_forLoop_any
    (fun k s' => ∃ h' tk m' nx i, s' = { s₁ with heap := h', toks := tk } ∧ IsRangeIter h' s₁.heap.objs.size i (b - i) 1 ∧ Fr h₀ env.locals h' m' ∧ News h₀ env.locals h' nx ∧ (∀ p ∈ nx, p.1 ≠ s₁.heap.objs.size) ∧ J i m' nx ∧ 0 ≤ i ∧ i ≤ b ∧ k = (b + 1 - i).toNat) ?_ (b + 1 - 0).toNat
    ⟨_, s₁.toks, m₀, nx₀, 0, rfl, by simpa using Heap.get?_push_size _ rfl, F.keeps up, N.grown up, fun p hp => Nat.ne_of_lt (hlt p hp), hj, Int.le_refl _, hb0, rfl⟩
  rintro k s' ⟨h', tk, m', nx, i, rfl, hit, F', N', ho', hj', hi0, hi, rfl⟩
  have next : ∀ h₁ : Heap, (∀ b o, b ≠ s₁.heap.objs.size → h'.get? b = some o → h₁.get? b = some o) → Fr h₀ env.locals h₁ m' ∧ News h₀ env.locals h₁ nx := fun h₁ hk₁ =>
    ⟨⟨F'.ns.at' fun o e => hk₁ _ o hIL e, fun b o e => hk₁ b o (fun q => by rw [q, hI0] at e; cases e) (F'.keep b o e), F'.above⟩, fun p hp => ⟨hk₁ _ _ (ho' p hp) (N' p hp).1, (N' p hp).2⟩⟩
  by_cases hlast : i = b
  · subst hlast
    refine wpAny_pyNext_range_end hh hit (by omega) fun h₁ he₁ => wpAny_execs_nil ?_
    obtain ⟨F₁, N₁⟩ := next h₁ fun b o hb e => he₁ b o hb e
    exact done _ _ _ _ hj' F₁ N₁
  · have hlt' : i < b := by omega
    refine wpAny_pyNext_range_item hit (by omega) fun h₁ hit₁ hs₁ => ?_
    obtain ⟨F₁, N₁⟩ := next h₁ fun b o hb e => hs₁.extBut b o hb e
    have NI : News h₀ env.locals h₁ ((s₁.heap.objs.size, { cls := .type "range_iterator", dict := none, data := .fields #[rawInt (i + 1), rawInt (b - i - 1), rawInt 1], slots := #[] }) :: nx) := fun p hp => by
      rcases List.mem_cons.mp hp with rfl | hp
      · exact ⟨hit₁, Ne.symm hIL, hI0⟩
      · exact N₁ p hp
    refine wpAny_pure ?_
    have e1 : b - i - 1 = b - (i + 1) := by omega
    refine wpAny_mono (turn i _ _ m' nx h₁ (tk + 1) tk hi0 hlt' hj' hlt ho' F₁ NI) (fun _ s₂ h₂ => wpAny_mono h₂ (fun f s₃ h₃ => ?_) fun _ _ e => e.elim) fun _ _ e => e.elim
    cases f with
    | ret v => exact h₃
    | brk => exact h₃
    | cont =>
      obtain ⟨h₃', tk₃, m₃, nx₃, rfl, F₃, N₃, ho₃, hj₃⟩ := h₃
      exact ⟨(b + 1 - (i + 1)).toNat, by omega, h₃', tk₃, m₃, nx₃, i + 1, rfl, by rw [← e1]; exact (N₃ _ (.head _)).1, F₃, fun p hp => N₃ p (.tail _ hp), ho₃, hj₃, by omega, hlt', rfl⟩
    | next =>
      obtain ⟨h₃', tk₃, m₃, nx₃, rfl, F₃, N₃, ho₃, hj₃⟩ := h₃
      exact ⟨(b + 1 - (i + 1)).toNat, by omega, h₃', tk₃, m₃, nx₃, i + 1, rfl, by rw [← e1]; exact (N₃ _ (.head _)).1, F₃, fun p hp => N₃ p (.tail _ hp), ho₃, hj₃, by omega, hlt', rfl⟩
end
section
variable {prog : Program} {w : World} {A : Around} {E : Value → Shared → Prop} {s : Shared} {h₀ : Heap} {L : Addr} {m : Str → Option Value} {env : Env} {news : List (Addr × Obj)}
/-- a list comprehension with a test over a list that stands in the ground -/
theorem pyIter_baseW {ct elt : PySem.Expr} {x : Str} {scope : Scope} {cl : List (Str × Addr)} {Q : Value → Shared → Prop} {r : Addr} {vs : List Value} (hh : A.handled = none) (F : Fr h₀ L s.heap m) (N : News h₀ L s.heap news) (hl : ∀ h : Heap, (∀ b o, h₀.get? b = some o → h.get? b = some o) → h.IsList r vs.toArray) (hz : vs.length ≤ sizeLine) (S : List (Addr × Obj) → Prop) (hS : S news)
    (k : ∀ g, CompRestT prog w A h₀ L m env ct elt x scope cl { s with heap := g } S (fun i v => vs[i]? = some v) (FinE h₀ L m { s with heap := g } Q) vs.length 0 [] news) :
    wpAny (model prog w) A (pyIter (.ref r)) (SrcW prog w A h₀ L m env ct elt x scope cl Q) E s := by
  have hT : s.heap.IsList r vs.toArray := hl _ F.keep
  have hlt : r < s.heap.objs.size := by obtain ⟨_, e, _⟩ := hT; exact Heap.lt_size e
  refine wpAny_pyIter_list hT ?_
  have hne : r ≠ s.heap.objs.size := Nat.ne_of_lt hlt
  have W := (Walks.list (prog := prog) (w := w) (A := A) hh s.heap.objs.size r hne vs.toArray)
  have k' := k (s.heap.push { cls := .type "list_iterator", data := .fields #[.ref r, .int 0 0] })
  have e1 : vs.toArray.size = vs.length := List.size_toArray
  refine ⟨_, _, vs.toArray.size, _, _, S, news, rfl, W, by rw [e1]; exact hz, fun i h st => by obtain ⟨o, e, _⟩ := st.1; exact ⟨o, e⟩, ?_, ⟨⟨_, Heap.get?_push_size _ rfl, rfl, rfl⟩, hT.push _⟩, fun b hb => ?_,
    F.keeps fun _ _ e => Heap.get?_push_of_some _ e, N.grown fun _ _ e => Heap.get?_push_of_some _ e, Nat.ne_of_lt F.ns.lt, next_is_new F, fun p hp => Nat.ne_of_lt (Heap.lt_size (N p hp).1), hS, ?_⟩
  · intro i h h' o nw st e e' kp _ _
    refine ⟨listiter_at st.1 e e', hl _ kp⟩
  · show b < (s.heap.push _).objs.size
    rw [Heap.size_push]
    rcases List.mem_cons.mp hb with rfl | hb
    · exact Nat.lt_succ_self _
    · rw [List.mem_singleton.mp hb]; exact Nat.lt_succ_of_lt hlt
  · rw [e1]
    simpa using k'
end


end
theorem rows_V3 : True := by
  k_with_none
  w_top off
  (k_with "own tail" => (first | ((repeat apply List.Mem.tail); first | exact hp | exact List.mem_append_left _ hp | exact List.mem_append_right _ hp) | (simp only [List.mem_cons, List.mem_append, List.not_mem_nil, or_false] at hp ⊢; grind)))
  (k_with "own subs" => (((try dsimp only [List.cons_append, List.nil_append]); (repeat (refine List.forall_mem_cons.mpr ⟨?_, ?_⟩; (· ((repeat (first | with_reducible exact List.Mem.head _ | refine List.Mem.tail _ ?_)); done)))); intro p hp; first | exact absurd hp List.not_mem_nil | ((repeat apply List.Mem.tail); first | exact hp | exact List.mem_append_left _ hp | exact List.mem_append_right _ hp) | (simp only [List.mem_cons, List.mem_append, List.not_mem_nil, or_false] at hp ⊢; grind))))
  (k_with "own ne" => ((refine neN ?_; (try dsimp only); first | assumption | exact Ne.symm (by assumption) | exact Nat.ne_of_lt (by assumption) | exact Nat.ne_of_gt (by assumption) | exact And.left (by assumption) | exact And.left (And.right (by assumption)) | exact And.right (And.right (by assumption)) | exact Ne.symm (And.left (by assumption)) | exact Ne.symm (And.left (And.right (by assumption))) | exact Ne.symm (And.right (And.right (by assumption))) | ((repeat (rename @Ne _ _ _ => hne9; clear hne9)); (repeat (rename And (@Ne _ _ _) _ => hne9; clear hne9)); omega))))
  (k_with "le" => (first | (refine' le_fr ?zla ?zlb; (case zlb => k_asm); (case zla => with_reducible assumption)) | exact Fr.keep (by k_asm)))
  (k_with "fin" => (((try dsimp only); (try k_unfold); (try dsimp only); refine ⟨_, _, _, rfl, by k_asm, ?_⟩)))
  (k_with "leF" => (first | exact fun _ F9 _ => le_fr (by with_reducible assumption) F9 | exact fun _ F9 _ => Fr.keep F9))
  (k_with "own inst" => ((refine' inst_kn ?le ?h1 ?h2; (case h1 => with_reducible assumption); (case h2 => with_reducible assumption); (case le => walk_at "le"))))
  (k_with "own fits" => (with_reducible assumption))
  (k_with "execs cons Assign cons" => (refine wpAny_execs_cons ?_))
  (k_with "exec For Name Call cons nil" => ((k_here; k_dflt (refine For_at ?_))))
  (k_with "getMethod ref" => ((k_here; first
      | (refine' getm_int ?d ?le ?_; (case d => with_reducible assumption); (case le => walk_at "le"))
      | (refine' getm_tup ?d ?le ?_; (case d => with_reducible assumption); (case le => walk_at "le")))))
  (k_with "key" => (exact key2 (by k_asm) (by k_mem)))
  (k_with "call builtin:dict.get" => ((k_here; first
      | (refine' get2_int ?d ?le ?lo ?_; (case d => with_reducible assumption); (case lo => with_reducible assumption); (case le => walk_at "le"))
      | (refine' get2_tup ?u ?d ?le ?lo ?k ?_; (case d => with_reducible assumption); (case lo => with_reducible assumption); (case u => ktr_units); (case le => walk_at "le"); (case k => walk_at "key")))))
  (k_with "enterC" => ((
      refine' enter_cells (args := ⟨_, []⟩) ?k1 ?k2 ?k3 ?k5 ?kA ?kF ?kK ?k6 ?k7 ?k8 ?k9 ?kB ?kD ?_ ?c2 ?c3 ?c4
      case kA => exact rfl
      case kF => exact rfl
      case kK => assumption
      case k1 => k_asm
      case k2 => k_asm
      case k3 => k_asm
      case k5 => k_asm
      case k6 => k_is
      case k7 => k_is
      case k8 => ktr_room
      case k9 => exact BindsTo.of_eq rfl
      case kB => exact rfl
      case kD => decide +kernel
      case c2 => exact rfl
      case c3 => exact rfl
      case c4 => exact rfl)))
  (k_with "enter" => ((
      refine' enter_pure (args := ⟨_, []⟩) ?k1 ?k2 ?k3 ?k5 ?kA ?kF ?kK ?k6 ?k7 ?k8 ?k9 ?kB ?_ ?c2 ?c3 ?c4 ?c5
      case kA => exact rfl
      case kF => exact rfl
      case kK => assumption
      case k1 => k_asm
      case k2 => k_asm
      case k3 => k_asm
      case k5 => k_asm
      case k6 => k_is
      case k7 => k_is
      case k8 => ktr_room
      case k9 => exact BindsTo.of_eq rfl
      case c5 => decide
      case kB => exact locs rfl
      case c2 => exact rfl
      case c3 => exact rfl
      case c4 => exact rfl)))
  (k_with "newList" => ((k_here; k_dflt (refine' newList_K ?k1 ?k2 ?_; (case k1 => k_asm); (case k2 => k_asm); k_whole); intro l₀ hl₀ Fl₀ Nl₀ ll₀; (try k_lt ll₀); (try k_sweep))))
  (k_with "newTuple" => ((k_here; k_dflt (refine' kup_newTuple ?zqk1 ?zqk2 ?_ ?zqk3; (case zqk1 => k_asm); (case zqk2 => k_asm); (case zqk3 => exact Nat.le_of_ble_eq_true rfl)); intro t₀ ht₀ Ft₀ Nt₀ lt₀; (try k_lt lt₀); (try k_sweep))))
  (k_with "call builtin:sorted" => ((k_here; k_dflt (
      refine' sorted_intD ?zqhh ?zqF ?zqN ?zqd ?zqle ?zqlo ?zqn ?_
      case zqd => with_reducible assumption
      case zqhh => exact rfl
      case zqF => k_asm
      case zqN => k_asm
      case zqle => walk_at "le"
      case zqlo => with_reducible assumption
      case zqn => with_reducible assumption
      intro D₁ h₁ tk₁ vs ns c₁ F₁ N₁ l₁ hI hP hW))))
  (k_with "call builtin:sorted" => ((k_here; k_dflt (
      refine' sorted_tupD ?zqhh ?zqF ?zqN ?zqd ?zqp ?zqle ?zqlo ?zqn ?_
      case zqd => with_reducible assumption
      case zqp => with_reducible assumption
      case zqhh => exact rfl
      case zqF => k_asm
      case zqN => k_asm
      case zqle => walk_at "leF"
      case zqlo => with_reducible assumption
      case zqn => assumption
      intro D₁ h₁ tk₁ vs qs c₁ F₁ N₁ l₁ hR hP hW))))
  (k_with "subscriptTail" => ((k_here; (with_reducible show wpAny _ _ (subscriptTail _ _ (Value.ref _) (Value.ref _)) _ _ _); k_dflt (
      refine' item_tup ?u ?d ?le ?k ?l ?_
      case d => with_reducible assumption
      case l => with_reducible assumption
      case u => ktr_units
      case le => walk_at "le"
      case k => (refine' KeyK.at (KeyK.mono ?zle ?zk); (case zk => with_reducible assumption); (case zle => walk_at "le"))))))
  (k_with "subscriptTail" => ((k_here; (with_reducible show wpAny _ _ (subscriptTail _ _ (Value.ref _) (Value.int _ _)) _ _ _); k_dflt (
      refine' item_int ?d ?le ?l ?_
      case d => with_reducible assumption
      case l => with_reducible assumption
      case le => walk_at "le"))))
  (k_with "compareOp In int ref" => ((k_here; k_dflt (
      refine' in_int ?d ?le ?lo ?_
      case d => with_reducible assumption
      case lo => with_reducible assumption
      case le => walk_at "le"))))
  (k_with "compareOp NotIn int ref" => ((k_here; k_dflt (
      refine' notin_int ?d ?le ?lo ?_
      case d => with_reducible assumption
      case lo => with_reducible assumption
      case le => walk_at "le"))))
  (k_with "truthy ref" => ((k_here; k_dflt (
      refine' truthy_row ?r ?le ?z ?_
      case r => with_reducible assumption
      case z => with_reducible assumption
      case le => walk_at "le"))))
  (k_with "call type:tuple" => ((k_here; (with_reducible show wpAny _ _ (call (Value.type _) [Value.ref _]) _ _ _); k_dflt (
      refine' tup_row ?r ?le ?_
      case r => with_reducible assumption
      case le => walk_at "le"))))
  (k_with "call type:tuple" => ((k_here; (with_reducible show wpAny _ _ (call (Value.type _) [Value.ref _]) _ _ _); k_dflt (
      refine' kde_tupleOf ?k1 ?k2 ?k3 ?k4 ?k5 ?_
      case k1 => k_asm
      case k2 => k_asm
      case k3 => exact News.isList (by k_asm) (by k_mem)
      case k4 => with_reducible assumption
      case k5 => exact rfl
      intro t₅ h₅ F₅ N₅ l₅
      (try k_lt l₅)))))
  (k_with "call ref" => ((k_here; (with_reducible show wpAny _ _ (call (Value.ref 35) _) _ _ _); k_dflt (
      refine' use_pure ?F ?N (is_default_spec ?B ?F2 ?X ?T ?k ?d ?u ?V) ?_
      case F => k_asm
      case N => k_asm
      case B => k_asm
      case F2 => k_asm
      case X => k_asm
      case T => k_asm
      case k => first | exact rfl | assumption
      case d => ktr_room
      case u => ktr_units
      case V => (refine' VarsK.mono ?zle ?zk; (case zk => with_reducible assumption); (case zle => walk_at "le"))
      intro _ _ _ _ _ _
      rintro rfl
      (try k_sweep)))))
  (k_with "call ref" => ((k_here; (with_reducible show wpAny _ _ (call (Value.ref 42) _) _ _ _); k_dflt (
      refine' use_pure ?zqF ?zqN (own_pairs_spec ?zqB ?zqF2 ?zqX ?zqT ?zqk ?zqd ?zqu ?zqK ?zqV ?zq6) ?_
      case zqF => k_asm
      case zqN => k_asm
      case zqB => k_asm
      case zqF2 => k_asm
      case zqX => k_asm
      case zqT => k_asm
      case zqk => first | exact rfl | assumption
      case zqd => ktr_room
      case zqu => ktr_units
      case zqV => with_reducible assumption
      case zqK => walk_at "le"
      case zq6 => with_reducible assumption
      intro r₂ h₂ tk₂ F₂ N₂ G₂ P₂
      obtain ⟨a₂, ws₂, ps₂, n₂, e₂, f₂, g₂, hR₂, hP₂, hW₂⟩ := P₂
      subst e₂
      have N₂' := News.grew (by k_asm) N₂ f₂ g₂))))
  (k_with "eval ListComp" => ((k_here; (with_reducible show wpAny _ _ (eval (Expr.ListComp _ [⟨_, _, [], _⟩] _ _) _) _ _ _); k_dflt (refine LCg.ListComp_U (F₀ := by k_asm) (by with_unfolding_all rfl) (by decide) (by rfl) (by decide) (by rfl) ?_))))
  (k_with "eval ListComp" => ((k_here; (with_reducible show wpAny _ _ (eval (Expr.ListComp _ [⟨_, _, [_], _⟩] _ _) _) _ _ _); k_dflt (refine LCt.ListComp_T (F₀ := by k_asm) (by with_unfolding_all rfl) (by decide) (by rfl) (by decide) (by rfl) ?_))))
  (k_with "own all" => (first | with_reducible assumption | (refine List.forall_mem_append.mpr ⟨?_, ?_⟩ <;> k_all)))
  (k_with "exec For Tuple Call cons nil" => ((k_here; k_dflt (refine For_at ?_))))
  (k_with "eval Dict nil nil" => ((k_here; k_dflt (refine' newDict_K ?zqk1 ?zqk2 (TopRead.nolimit (by k_asm)) ?_; (case zqk1 => k_asm); (case zqk2 => k_asm); k_whole); intro d₀ hd₀ o₀ Fd₀ Nd₀ ld₀ lod₀ hs₀ fs₀ hi₀ fi₀; clear hs₀ fs₀ fi₀; (try k_lt ld₀); (try k_sweep))))
  (k_with "eval ListComp" => ((k_here; (with_reducible show wpAny _ _ (eval (Expr.ListComp _ [⟨_, Expr.Subscript _ _ _, [_], _⟩] _ _) _) _ _ _); k_dflt (refine ListComp_WF (F₀ := by k_asm) (by with_unfolding_all rfl) (by decide) (by rfl) (by decide) (by rfl) ?_))))
  (k_with "setItem ref int" => ((k_here; k_dflt (
      refine' kda_set (knd := PySem.intKind _ _) ?zqF ?zqN ?zqU ?zqd (intKind_is _ _ _ _) ?zqz ?_
      case zqd => with_reducible assumption
      case zqF => k_asm
      case zqN => k_asm
      case zqU => k_updF
      case zqz => with_reducible assumption
      intro h₇ o₇ F₇ N₇ hd₇
      (try dsimp only at N₇)))))
  (k_with "subscriptTail" => ((k_here; (with_reducible show wpAny _ _ (subscriptTail _ _ (Value.ref _) (Value.ref _)) _ _ _); k_dflt (
      refine' item_tup ?u ?d ?le ?k ?l ?_
      case d => with_reducible assumption
      case l => with_reducible assumption
      case u => ktr_units
      case le => walk_at "le"
      case k => exact key2 (by k_asm) (by k_mem)))))
  (k_with "call ref" => ((k_here; (with_reducible show wpAny _ _ (call (Value.ref 50) _) _ _ _); k_dflt (
      refine' call_cls ?zk1 ?zk2 ?zk3 ?zk4 ?zk5 ?zk6 ?_
      case zk1 => k_asm
      case zk2 => k_asm
      case zk3 => k_asm
      case zk4 => k_is
      case zk5 => k_is
      case zk6 => k_is
      intro x₈ d₈ h₈ F₈ N₈ l₈ m₈
      (try k_lt l₈)
      (try k_lt2 m₈)
      (try (first | have hal₈ := allLt_ne l₈ | have hal₈ := allLt_ne l₈.2 | have hal₈ := allLt_ne l₈.2.2 | have hal₈ := allLt_ne l₈.2.2.2 | have hal₈ := allLt_ne l₈.2.2.2.2 | have hal₈ := allLt_ne l₈.2.2.2.2.2 | have hal₈ := allLt_ne l₈.2.2.2.2.2.2 | have hal₈ := allLt_ne l₈.2.2.2.2.2.2.2 | have hal₈ := allLt_ne l₈.2.2.2.2.2.2.2.2 | have hal₈ := allLt_ne l₈.2.2.2.2.2.2.2.2.2 | have hal₈ := allLt_ne l₈.2.2.2.2.2.2.2.2.2.2))
      (try k_sweep)
      refine' code_def ?zk1 ?zk2 ?zk3 ?zk4 ?zk5 ?zkA ?zkF ?zkK ?zk6 ?zk7 ?zk8 ?zk9 ?zkB ?_ ?zc2 ?zc3 ?zc4 ?zc5
      case zkA => exact rfl
      case zkF => exact rfl
      case zkK => exact rfl
      case zk1 => k_asm
      case zk2 => k_asm
      case zk3 => k_asm
      case zk4 => k_asm
      case zk5 => k_asm
      case zk6 => k_is
      case zk7 => k_is
      case zk8 => ktr_room
      case zk9 => exact BindsTo.of_eq rfl
      case zc5 => decide
      case zkB => exact locs rfl
      case zc2 => exact rfl
      case zc3 => exact rfl
      case zc4 => exact rfl
      intro g₉ L₉ h₉ FG₉ F₉ N₉ B₉ X₉ T₉
      (try dsimp only)
      (try k_lift B₉)
      (try k_fold)))))
  (k_with "le" => ((refine' le_addN ?zla ?zlb ?zlc ?zld; (case zlb => k_asm); (case zlc => k_asm); (case zla => with_reducible assumption); (case zld => walk_at "own subs"))))
  (k_with "leF" => (exact fun _ F9 N9 => le_addN (by with_reducible assumption) F9 N9 (by walk_at "own subs")))
  (k_with "call ref" => ((k_here; (with_reducible show wpAny _ _ (call (Value.ref 81) _) _ _ _); k_dflt (
      refine' use_pure ?zqF ?zqN (glyph_spec ?zqB ?zqF2 ?zqX ?zqT ?zqk ?zqd ?zqu ?zqV) ?_
      case zqF => k_asm
      case zqN => k_asm
      case zqB => k_asm
      case zqF2 => k_asm
      case zqX => k_asm
      case zqT => k_asm
      case zqk => first | exact rfl | assumption
      case zqd => ktr_room
      case zqu => ktr_units
      case zqV => (refine' CmK.mono ?zle ?zk; (case zk => with_reducible assumption); (case zle => walk_at "le"))
      intro r₃ h₃ tk₃ F₃ N₃ G₃ P₃
      obtain ⟨t₃, e₃⟩ := P₃
      subst e₃
      (try k_sweep)))))
  (k_with "call ref" => ((k_here; (with_reducible show wpAny _ _ (call (Value.ref 105) _) _ _ _); k_dflt (
      refine' use_pure ?zqF ?zqN (cut_vars_spec ?zqB ?zqF2 ?zqX ?zqT ?zqk ?zqd ?zqu ?zqK ?zqV ?zqw ?zql ?zq6 ?zq7 ?zq5) ?_
      case zqF => k_asm
      case zqN => k_asm
      case zqB => k_asm
      case zqF2 => k_asm
      case zqX => k_asm
      case zqT => k_asm
      case zqk => first | exact rfl | assumption
      case zqd => ktr_room
      case zqu => ktr_units
      case zqV => with_reducible assumption
      case zqw => with_reducible assumption
      case zqK => walk_at "le"
      case zql => with_reducible assumption
      case zq6 => with_reducible assumption
      case zq7 => with_reducible assumption
      case zq5 => assumption
      intro r₂ h₂ tk₂ F₂ N₂ G₂ P₂
      obtain ⟨v₂, dx₂, t₂₁, t₂₂, n₂, dd₂, oo₂, tl₂, ns₂, qs₂, e₂, hT₂, hlt₂, hal₂, hRw₂, hOt₂, hk₂, hkw₂, hp₂, hpw₂⟩ := P₂
      subst e₂
      have hz₂ := fresh_all hT₂ (by k_asm)
      simp only [List.forall_mem_cons] at hz₂
      have N₂' := News.grewL (by k_asm) N₂ hT₂
      dsimp only [List.cons_append] at N₂'))))
  (k_with "eval DictComp" => ((k_here; k_dflt (refine DictComp_L (F₀ := by k_asm) (by with_unfolding_all rfl) (by decide) (by rfl) (by decide) (by rfl) ?_))))
  (k_with "exec Assign cons DictComp" => ((k_here; k_dflt (refine Assign_DictComp_L (F₀ := by k_asm) (by rfl) (by with_unfolding_all rfl) (by with_unfolding_all rfl) (by decide) (by rfl) (by decide) (by rfl) (by rfl) (by rfl) ?_))))
  trivial
section
section
variable {prog : Program} {w : World} {A₀ : Around} {E : Value → Shared → Prop} {s : Shared} {base h₀ : Heap} {L : Addr} {m : Str → Option Value}
  {p : Program} {loose : List Str} {mean : ExcName → Option Value} {mg mb : Str → Option Value} {dp un : Nat} {gd : Option (List Code)} {cn : Str} {cs : Scope} {ca : Addr} {ccd : Value} {cl : List (Str × Addr)} {outer : List Env}
theorem draw_at {P c : Addr} {seat great many : Int} {t1 t2 u : Tok} {k kc : Nat} {cells : List Value} {ns : List Int} {news : List (Addr × Obj)} {g : Obj → List (Addr × Obj)} {Q : Value → Shared → Prop}
    (B : Below A₀ base outer h₀) (F : Fr h₀ L s.heap m) (N : News h₀ L s.heap news) (X : (Mine.hd.heap_39 w.params).In h₀) (T : Top p loose mean mg mb h₀) (hk : cs.kind = .function)
    (hd : dp + 10 < recursionLimit) (hu : un + 80 < cLine) (U : UpdF P (penO c seat t1 great t2 k) news g) (hmc : (c, W.listOf cells.toArray kc) ∈ news) (hI : IntsAre cells ns) (hlen : ns.length ≤ 40) (hs0 : 0 ≤ seat) (hs1 : seat ≤ 500) (hg : 0 ≤ great) (hm : 0 < many) (hm9 : many ≤ 9)
    (h : ∀ r t h' tk seat' t1' great' t2' k', 0 ≤ r → r < many → seat ≤ seat' → seat' ≤ seat + 1 → 0 ≤ great' → Fr h₀ L h' m → News h₀ L h' (g (penO c seat' t1' great' t2' k')) → Q (.int r t) { s with heap := h', toks := tk }) :
    wpAny (model prog w) (ktrTop dp un gd cn cs L ca ccd cl outer) (call (.ref 119) [.ref P, .int many u]) Q E s := by
  obtain ⟨pre, post, rfl, hg', na, nb⟩ := U.split
  have hcP : @Ne Nat c P := by
    rcases List.mem_append.mp hmc with hp | hp
    · exact na _ hp
    · rcases List.mem_cons.mp hp with e | hp
      · have e2 : cells.toArray = #[.ref c, .int seat t1, .int great t2] := by
          have := congrArg (fun q => Obj.data (Prod.snd q)) e
          simp only [W.listOf, penO, Data.seq.injEq] at this
          exact this.1
        have e3 : cells = [.ref c, .int seat t1, .int great t2] := by
          have := congrArg Array.toList e2
          simpa using this
        subst e3; cases hI
      · exact nb _ hp
  refine draw_spec (t1 := t1) (t2 := t2) (k := k) (kc := kc) B F (rest := pre ++ post) (fun p hp => N p ?_) X T hk hd hu hcP ?_ hI hlen hs0 hs1 hg hm hm9 ?_
  · simp only [List.mem_cons, List.mem_append] at hp hmc ⊢; grind
  · intro p hp
    rcases List.mem_append.mp hp with hp | hp
    · exact na _ hp
    · exact nb _ hp
  · intro r t h' tk seat' t1' great' t2' k' a b c1 d e F' N'
    refine h r t h' tk seat' t1' great' t2' k' a b c1 d e F' (fun p hp => N' p ?_)
    rw [hg'] at hp
    simp only [List.mem_cons, List.mem_append] at hp ⊢; grind
end

theorem look_sels (w : World) : (Mine.hd.heap_39 w.params).lookup 111 = some (W.listOf #[.int 65024 324, .int 65025 325, .int 917760 326] 0) := by
  with_unfolding_all rfl
theorem look_codes (w : World) : (Mine.hd.heap_39 w.params).lookup 112 = some (W.listOf #[.int 65 328, .int 66 329, .int 67 330, .int 65024 331, .int 19968 332] 0) := by
  with_unfolding_all rfl
abbrev selV : List Value := [.int 65024 324, .int 65025 325, .int 917760 326]
abbrev selN : List Int := [65024, 65025, 917760]
abbrev codeV : List Value := [.int 65 328, .int 66 329, .int 67 330, .int 65024 331, .int 19968 332]
abbrev codeN : List Int := [65, 66, 67, 65024, 19968]
theorem selI : IntsAre selV selN := .cons _ _ (.cons _ _ (.cons _ _ .nil))
theorem codeI : IntsAre codeV codeN := .cons _ _ (.cons _ _ (.cons _ _ (.cons _ _ (.cons _ _ .nil))))
theorem sels_at {w : World} {h₀ : Heap} (X : (Mine.hd.heap_39 w.params).In h₀) : ∀ h : Heap, (∀ b o, h₀.get? b = some o → h.get? b = some o) → h.IsList 111 selV.toArray := fun h g => ⟨_, g _ _ (X _ _ (look_sels w)), rfl, _, rfl⟩
theorem codes_at {w : World} {h₀ : Heap} (X : (Mine.hd.heap_39 w.params).In h₀) : ∀ h : Heap, (∀ b o, h₀.get? b = some o → h.get? b = some o) → h.IsList 112 codeV.toArray := fun h g => ⟨_, g _ _ (X _ _ (look_codes w)), rfl, _, rfl⟩
theorem any_keys {kvs : List (Int × Value)} {β : Type} {P : Value → β → Prop} {D : List (Int × β)} (h : R2 (fun a b => a.1 = b.1 ∧ P a.2 b.2) kvs D) (k : Int) : (kvs.any fun x => x.1 = k) = (D.any fun x => x.1 = k) := by
  induction h with
  | nil => rfl
  | cons h _ ih => simp [h.1, ih]
theorem R2.map2 {α β : Type} {P Q : α → β → Prop} {f : α → α} {g : β → β} {as : List α} {bs : List β} (h : R2 P as bs) (k : ∀ a b, P a b → Q (f a) (g b)) : R2 Q (as.map f) (bs.map g) := by
  induction h with
  | nil => exact .nil
  | cons h _ ih => exact .cons (k _ _ h) ih
theorem R2.stored_ex {β : Type} {P : Value → β → Prop} {kvs : List (Int × Value)} {D : List (Int × β)} (h : R2 (fun a b => a.1 = b.1 ∧ P a.2 b.2) kvs D) (k : Int) {v : Value} {b : β} (hv : P v b) :
    ∃ D', R2 (fun a b => a.1 = b.1 ∧ P a.2 b.2) (stored kvs k v) D' ∧ D'.length ≤ D.length + 1 ∧ ∀ x ∈ D', x ∈ D ∨ x.2 = b := by
  unfold stored
  split
  · refine ⟨D.map fun x => if x.1 = k then (x.1, b) else x, h.map2 ?_, by rw [List.length_map]; omega, ?_⟩
    · rintro x y ⟨e1, e2⟩
      by_cases e : y.1 = k
      · simp [e, e1, hv]
      · simp [e, e1, e2]
    · intro x hx
      obtain ⟨y, hy, rfl⟩ := List.mem_map.mp hx
      split
      · exact .inr rfl
      · exact .inl hy
  · refine ⟨D ++ [(k, b)], h.append (.cons ⟨rfl, hv⟩ .nil), by simp, ?_⟩
    intro x hx
    rcases List.mem_append.mp hx with hx | hx
    · exact .inl hx
    · rw [List.mem_singleton.mp hx]; exact .inr rfl
theorem R2.storedH_ex {β : Type} {P : Value → β → Prop} {xs : List (List Int × Addr × Value)} {O : List ((Int × Int) × β)} (h : R2 (fun a b => a.1 = kp b.1 ∧ P a.2.2 b.2) xs O) (q : Int × Int) (a : Addr) {v : Value} {b : β} (hv : P v b) :
    ∃ O', R2 (fun a b => a.1 = kp b.1 ∧ P a.2.2 b.2) (storedH xs (kp q) a v) O' ∧ O'.length ≤ O.length + 1 ∧ ∀ x ∈ O', x ∈ O ∨ x.2 = b := by
  unfold storedH
  split
  · refine ⟨O.map fun x => if x.1 = q then (x.1, b) else x, h.map2 ?_, by rw [List.length_map]; omega, ?_⟩
    · rintro x y ⟨e1, e2⟩
      unfold putAt
      by_cases e : y.1 = q
      · simp [e, e1, hv]
      · have : ¬ x.1 = kp q := fun e' => e (kp_inj (e1.symm.trans e'))
        simp only [if_neg this, if_neg e]
        exact ⟨e1, e2⟩
    · intro x hx
      obtain ⟨y, hy, rfl⟩ := List.mem_map.mp hx
      split
      · exact .inr rfl
      · exact .inl hy
  · refine ⟨O ++ [(q, b)], h.append (.cons ⟨rfl, hv⟩ .nil), by simp, ?_⟩
    intro x hx
    rcases List.mem_append.mp hx with hx | hx
    · exact .inl hx
    · rw [List.mem_singleton.mp hx]; exact .inr rfl

abbrev noK : Kn := fun _ _ => False
theorem noK_le {h : Heap} : Kn.le noK (kn h) := fun _ _ x => x.elim
theorem base_at {prog : Program} {w : World} {A : Around} {E : Value → Shared → Prop} {s : Shared} {Q : Value → Shared → Prop} {value slice : PySem.Expr} {l : Addr} {vs : List Value} {ns : List Int} {k : Int} {u : Tok} (hl : s.heap.IsList l vs.toArray) (hi : IntsAre vs ns)
    (hlen : ns.length ≤ 40) (h0 : 0 ≤ k) (h1 : k < (ns.length : Int)) (h : ∀ x t, Q (.int x t) s)
    (hs : subscripted slice false (.ref l) (.int k u) = operate [.ref l, .int k u] (getItem (.ref l) (.int k u)) := by with_unfolding_all rfl) :
    wpAny (model prog w) A (subscriptTail value slice (.ref l) (.int k u)) Q E s :=
  item_anyK hl hi h0 h1 (by omega) (fun t => h _ t) hs


end
theorem rows_V4 : True := by
  k_with_none
  w_top off
  (k_with "own tail" => (first | ((repeat apply List.Mem.tail); first | exact hp | exact List.mem_append_left _ hp | exact List.mem_append_right _ hp) | (simp only [List.mem_cons, List.mem_append, List.not_mem_nil, or_false] at hp ⊢; grind)))
  (k_with "own subs" => (((try dsimp only [List.cons_append, List.nil_append]); (repeat (refine List.forall_mem_cons.mpr ⟨?_, ?_⟩; (· ((repeat (first | with_reducible exact List.Mem.head _ | refine List.Mem.tail _ ?_)); done)))); intro p hp; first | exact absurd hp List.not_mem_nil | ((repeat apply List.Mem.tail); first | exact hp | exact List.mem_append_left _ hp | exact List.mem_append_right _ hp) | (simp only [List.mem_cons, List.mem_append, List.not_mem_nil, or_false] at hp ⊢; grind))))
  (k_with "own ne" => ((refine neN ?_; (try dsimp only); first | assumption | exact Ne.symm (by assumption) | exact Nat.ne_of_lt (by assumption) | exact Nat.ne_of_gt (by assumption) | exact And.left (by assumption) | exact And.left (And.right (by assumption)) | exact And.right (And.right (by assumption)) | exact Ne.symm (And.left (by assumption)) | exact Ne.symm (And.left (And.right (by assumption))) | exact Ne.symm (And.right (And.right (by assumption))) | ((repeat (rename @Ne _ _ _ => hne9; clear hne9)); (repeat (rename And (@Ne _ _ _) _ => hne9; clear hne9)); omega))))
  (k_with "le" => (first | (refine' le_fr ?zla ?zlb; (case zlb => k_asm); (case zla => with_reducible assumption)) | exact Fr.keep (by k_asm)))
  (k_with "fin" => (((try dsimp only); (try k_unfold); (try dsimp only); refine ⟨_, _, _, rfl, by k_asm, ?_⟩)))
  (k_with "leF" => (first | exact fun _ F9 _ => le_fr (by with_reducible assumption) F9 | exact fun _ F9 _ => Fr.keep F9))
  (k_with "own inst" => ((refine' inst_kn ?le ?h1 ?h2; (case h1 => with_reducible assumption); (case h2 => with_reducible assumption); (case le => walk_at "le"))))
  (k_with "own fits" => (with_reducible assumption))
  (k_with "execs cons Assign cons" => (refine wpAny_execs_cons ?_))
  (k_with "exec For Name Call cons nil" => ((k_here; k_dflt (refine For_at ?_))))
  (k_with "getMethod ref" => ((k_here; first
      | (refine' getm_int ?d ?le ?_; (case d => with_reducible assumption); (case le => walk_at "le"))
      | (refine' getm_tup ?d ?le ?_; (case d => with_reducible assumption); (case le => walk_at "le")))))
  (k_with "key" => (exact key2 (by k_asm) (by k_mem)))
  (k_with "call builtin:dict.get" => ((k_here; first
      | (refine' get2_int ?d ?le ?lo ?_; (case d => with_reducible assumption); (case lo => with_reducible assumption); (case le => walk_at "le"))
      | (refine' get2_tup ?u ?d ?le ?lo ?k ?_; (case d => with_reducible assumption); (case lo => with_reducible assumption); (case u => ktr_units); (case le => walk_at "le"); (case k => walk_at "key")))))
  (k_with "enterC" => ((
      refine' enter_cells (args := ⟨_, []⟩) ?k1 ?k2 ?k3 ?k5 ?kA ?kF ?kK ?k6 ?k7 ?k8 ?k9 ?kB ?kD ?_ ?c2 ?c3 ?c4
      case kA => exact rfl
      case kF => exact rfl
      case kK => assumption
      case k1 => k_asm
      case k2 => k_asm
      case k3 => k_asm
      case k5 => k_asm
      case k6 => k_is
      case k7 => k_is
      case k8 => ktr_room
      case k9 => exact BindsTo.of_eq rfl
      case kB => exact rfl
      case kD => decide +kernel
      case c2 => exact rfl
      case c3 => exact rfl
      case c4 => exact rfl)))
  (k_with "enter" => ((
      refine' enter_pure (args := ⟨_, []⟩) ?k1 ?k2 ?k3 ?k5 ?kA ?kF ?kK ?k6 ?k7 ?k8 ?k9 ?kB ?_ ?c2 ?c3 ?c4 ?c5
      case kA => exact rfl
      case kF => exact rfl
      case kK => assumption
      case k1 => k_asm
      case k2 => k_asm
      case k3 => k_asm
      case k5 => k_asm
      case k6 => k_is
      case k7 => k_is
      case k8 => ktr_room
      case k9 => exact BindsTo.of_eq rfl
      case c5 => decide
      case kB => exact locs rfl
      case c2 => exact rfl
      case c3 => exact rfl
      case c4 => exact rfl)))
  (k_with "newList" => ((k_here; k_dflt (refine' newList_K ?k1 ?k2 ?_; (case k1 => k_asm); (case k2 => k_asm); k_whole); intro l₀ hl₀ Fl₀ Nl₀ ll₀; (try k_lt ll₀); (try k_sweep))))
  (k_with "newTuple" => ((k_here; k_dflt (refine' kup_newTuple ?zqk1 ?zqk2 ?_ ?zqk3; (case zqk1 => k_asm); (case zqk2 => k_asm); (case zqk3 => exact Nat.le_of_ble_eq_true rfl)); intro t₀ ht₀ Ft₀ Nt₀ lt₀; (try k_lt lt₀); (try k_sweep))))
  (k_with "call builtin:sorted" => ((k_here; k_dflt (
      refine' sorted_intD ?zqhh ?zqF ?zqN ?zqd ?zqle ?zqlo ?zqn ?_
      case zqd => with_reducible assumption
      case zqhh => exact rfl
      case zqF => k_asm
      case zqN => k_asm
      case zqle => walk_at "le"
      case zqlo => with_reducible assumption
      case zqn => with_reducible assumption
      intro D₁ h₁ tk₁ vs ns c₁ F₁ N₁ l₁ hI hP hW))))
  (k_with "call builtin:sorted" => ((k_here; k_dflt (
      refine' sorted_tupD ?zqhh ?zqF ?zqN ?zqd ?zqp ?zqle ?zqlo ?zqn ?_
      case zqd => with_reducible assumption
      case zqp => with_reducible assumption
      case zqhh => exact rfl
      case zqF => k_asm
      case zqN => k_asm
      case zqle => walk_at "leF"
      case zqlo => with_reducible assumption
      case zqn => assumption
      intro D₁ h₁ tk₁ vs qs c₁ F₁ N₁ l₁ hR hP hW))))
  (k_with "subscriptTail" => ((k_here; (with_reducible show wpAny _ _ (subscriptTail _ _ (Value.ref _) (Value.ref _)) _ _ _); k_dflt (
      refine' item_tup ?u ?d ?le ?k ?l ?_
      case d => with_reducible assumption
      case l => with_reducible assumption
      case u => ktr_units
      case le => walk_at "le"
      case k => (refine' KeyK.at (KeyK.mono ?zle ?zk); (case zk => with_reducible assumption); (case zle => walk_at "le"))))))
  (k_with "subscriptTail" => ((k_here; (with_reducible show wpAny _ _ (subscriptTail _ _ (Value.ref _) (Value.int _ _)) _ _ _); k_dflt (
      refine' item_int ?d ?le ?l ?_
      case d => with_reducible assumption
      case l => with_reducible assumption
      case le => walk_at "le"))))
  (k_with "compareOp In int ref" => ((k_here; k_dflt (
      refine' in_int ?d ?le ?lo ?_
      case d => with_reducible assumption
      case lo => with_reducible assumption
      case le => walk_at "le"))))
  (k_with "compareOp NotIn int ref" => ((k_here; k_dflt (
      refine' notin_int ?d ?le ?lo ?_
      case d => with_reducible assumption
      case lo => with_reducible assumption
      case le => walk_at "le"))))
  (k_with "truthy ref" => ((k_here; k_dflt (
      refine' truthy_row ?r ?le ?z ?_
      case r => with_reducible assumption
      case z => with_reducible assumption
      case le => walk_at "le"))))
  (k_with "call type:tuple" => ((k_here; (with_reducible show wpAny _ _ (call (Value.type _) [Value.ref _]) _ _ _); k_dflt (
      refine' tup_row ?r ?le ?_
      case r => with_reducible assumption
      case le => walk_at "le"))))
  (k_with "call type:tuple" => ((k_here; (with_reducible show wpAny _ _ (call (Value.type _) [Value.ref _]) _ _ _); k_dflt (
      refine' kde_tupleOf ?k1 ?k2 ?k3 ?k4 ?k5 ?_
      case k1 => k_asm
      case k2 => k_asm
      case k3 => exact News.isList (by k_asm) (by k_mem)
      case k4 => with_reducible assumption
      case k5 => exact rfl
      intro t₅ h₅ F₅ N₅ l₅
      (try k_lt l₅)))))
  (k_with "call ref" => ((k_here; (with_reducible show wpAny _ _ (call (Value.ref 35) _) _ _ _); k_dflt (
      refine' use_pure ?F ?N (is_default_spec ?B ?F2 ?X ?T ?k ?d ?u ?V) ?_
      case F => k_asm
      case N => k_asm
      case B => k_asm
      case F2 => k_asm
      case X => k_asm
      case T => k_asm
      case k => first | exact rfl | assumption
      case d => ktr_room
      case u => ktr_units
      case V => (refine' VarsK.mono ?zle ?zk; (case zk => with_reducible assumption); (case zle => walk_at "le"))
      intro _ _ _ _ _ _
      rintro rfl
      (try k_sweep)))))
  (k_with "call ref" => ((k_here; (with_reducible show wpAny _ _ (call (Value.ref 42) _) _ _ _); k_dflt (
      refine' use_pure ?zqF ?zqN (own_pairs_spec ?zqB ?zqF2 ?zqX ?zqT ?zqk ?zqd ?zqu ?zqK ?zqV ?zq6) ?_
      case zqF => k_asm
      case zqN => k_asm
      case zqB => k_asm
      case zqF2 => k_asm
      case zqX => k_asm
      case zqT => k_asm
      case zqk => first | exact rfl | assumption
      case zqd => ktr_room
      case zqu => ktr_units
      case zqV => with_reducible assumption
      case zqK => walk_at "le"
      case zq6 => with_reducible assumption
      intro r₂ h₂ tk₂ F₂ N₂ G₂ P₂
      obtain ⟨a₂, ws₂, ps₂, n₂, e₂, f₂, g₂, hR₂, hP₂, hW₂⟩ := P₂
      subst e₂
      have N₂' := News.grew (by k_asm) N₂ f₂ g₂))))
  (k_with "eval ListComp" => ((k_here; (with_reducible show wpAny _ _ (eval (Expr.ListComp _ [⟨_, _, [], _⟩] _ _) _) _ _ _); k_dflt (refine LCg.ListComp_U (F₀ := by k_asm) (by with_unfolding_all rfl) (by decide) (by rfl) (by decide) (by rfl) ?_))))
  (k_with "eval ListComp" => ((k_here; (with_reducible show wpAny _ _ (eval (Expr.ListComp _ [⟨_, _, [_], _⟩] _ _) _) _ _ _); k_dflt (refine LCt.ListComp_T (F₀ := by k_asm) (by with_unfolding_all rfl) (by decide) (by rfl) (by decide) (by rfl) ?_))))
  (k_with "own all" => (first | with_reducible assumption | (refine List.forall_mem_append.mpr ⟨?_, ?_⟩ <;> k_all)))
  (k_with "exec For Tuple Call cons nil" => ((k_here; k_dflt (refine For_at ?_))))
  (k_with "eval Dict nil nil" => ((k_here; k_dflt (refine' newDict_K ?zqk1 ?zqk2 (TopRead.nolimit (by k_asm)) ?_; (case zqk1 => k_asm); (case zqk2 => k_asm); k_whole); intro d₀ hd₀ o₀ Fd₀ Nd₀ ld₀ lod₀ hs₀ fs₀ hi₀ fi₀; clear hs₀ fs₀ fi₀; (try k_lt ld₀); (try k_sweep))))
  (k_with "eval ListComp" => ((k_here; (with_reducible show wpAny _ _ (eval (Expr.ListComp _ [⟨_, Expr.Subscript _ _ _, [_], _⟩] _ _) _) _ _ _); k_dflt (refine ListComp_WF (F₀ := by k_asm) (by with_unfolding_all rfl) (by decide) (by rfl) (by decide) (by rfl) ?_))))
  (k_with "setItem ref int" => ((k_here; k_dflt (
      refine' kda_set (knd := PySem.intKind _ _) ?zqF ?zqN ?zqU ?zqd (intKind_is _ _ _ _) ?zqz ?_
      case zqd => with_reducible assumption
      case zqF => k_asm
      case zqN => k_asm
      case zqU => k_updF
      case zqz => with_reducible assumption
      intro h₇ o₇ F₇ N₇ hd₇
      (try dsimp only at N₇)))))
  (k_with "subscriptTail" => ((k_here; (with_reducible show wpAny _ _ (subscriptTail _ _ (Value.ref _) (Value.ref _)) _ _ _); k_dflt (
      refine' item_tup ?u ?d ?le ?k ?l ?_
      case d => with_reducible assumption
      case l => with_reducible assumption
      case u => ktr_units
      case le => walk_at "le"
      case k => exact key2 (by k_asm) (by k_mem)))))
  (k_with "call ref" => ((k_here; (with_reducible show wpAny _ _ (call (Value.ref 50) _) _ _ _); k_dflt (
      refine' call_cls ?zk1 ?zk2 ?zk3 ?zk4 ?zk5 ?zk6 ?_
      case zk1 => k_asm
      case zk2 => k_asm
      case zk3 => k_asm
      case zk4 => k_is
      case zk5 => k_is
      case zk6 => k_is
      intro x₈ d₈ h₈ F₈ N₈ l₈ m₈
      (try k_lt l₈)
      (try k_lt2 m₈)
      (try (first | have hal₈ := allLt_ne l₈ | have hal₈ := allLt_ne l₈.2 | have hal₈ := allLt_ne l₈.2.2 | have hal₈ := allLt_ne l₈.2.2.2 | have hal₈ := allLt_ne l₈.2.2.2.2 | have hal₈ := allLt_ne l₈.2.2.2.2.2 | have hal₈ := allLt_ne l₈.2.2.2.2.2.2 | have hal₈ := allLt_ne l₈.2.2.2.2.2.2.2 | have hal₈ := allLt_ne l₈.2.2.2.2.2.2.2.2 | have hal₈ := allLt_ne l₈.2.2.2.2.2.2.2.2.2 | have hal₈ := allLt_ne l₈.2.2.2.2.2.2.2.2.2.2))
      (try k_sweep)
      refine' code_def ?zk1 ?zk2 ?zk3 ?zk4 ?zk5 ?zkA ?zkF ?zkK ?zk6 ?zk7 ?zk8 ?zk9 ?zkB ?_ ?zc2 ?zc3 ?zc4 ?zc5
      case zkA => exact rfl
      case zkF => exact rfl
      case zkK => exact rfl
      case zk1 => k_asm
      case zk2 => k_asm
      case zk3 => k_asm
      case zk4 => k_asm
      case zk5 => k_asm
      case zk6 => k_is
      case zk7 => k_is
      case zk8 => ktr_room
      case zk9 => exact BindsTo.of_eq rfl
      case zc5 => decide
      case zkB => exact locs rfl
      case zc2 => exact rfl
      case zc3 => exact rfl
      case zc4 => exact rfl
      intro g₉ L₉ h₉ FG₉ F₉ N₉ B₉ X₉ T₉
      (try dsimp only)
      (try k_lift B₉)
      (try k_fold)))))
  (k_with "le" => ((refine' le_addN ?zla ?zlb ?zlc ?zld; (case zlb => k_asm); (case zlc => k_asm); (case zla => with_reducible assumption); (case zld => walk_at "own subs"))))
  (k_with "leF" => (exact fun _ F9 N9 => le_addN (by with_reducible assumption) F9 N9 (by walk_at "own subs")))
  (k_with "call ref" => ((k_here; (with_reducible show wpAny _ _ (call (Value.ref 81) _) _ _ _); k_dflt (
      refine' use_pure ?zqF ?zqN (glyph_spec ?zqB ?zqF2 ?zqX ?zqT ?zqk ?zqd ?zqu ?zqV) ?_
      case zqF => k_asm
      case zqN => k_asm
      case zqB => k_asm
      case zqF2 => k_asm
      case zqX => k_asm
      case zqT => k_asm
      case zqk => first | exact rfl | assumption
      case zqd => ktr_room
      case zqu => ktr_units
      case zqV => (refine' CmK.mono ?zle ?zk; (case zk => with_reducible assumption); (case zle => walk_at "le"))
      intro r₃ h₃ tk₃ F₃ N₃ G₃ P₃
      obtain ⟨t₃, e₃⟩ := P₃
      subst e₃
      (try k_sweep)))))
  (k_with "call ref" => ((k_here; (with_reducible show wpAny _ _ (call (Value.ref 105) _) _ _ _); k_dflt (
      refine' use_pure ?zqF ?zqN (cut_vars_spec ?zqB ?zqF2 ?zqX ?zqT ?zqk ?zqd ?zqu ?zqK ?zqV ?zqw ?zql ?zq6 ?zq7 ?zq5) ?_
      case zqF => k_asm
      case zqN => k_asm
      case zqB => k_asm
      case zqF2 => k_asm
      case zqX => k_asm
      case zqT => k_asm
      case zqk => first | exact rfl | assumption
      case zqd => ktr_room
      case zqu => ktr_units
      case zqV => with_reducible assumption
      case zqw => with_reducible assumption
      case zqK => walk_at "le"
      case zql => with_reducible assumption
      case zq6 => with_reducible assumption
      case zq7 => with_reducible assumption
      case zq5 => assumption
      intro r₂ h₂ tk₂ F₂ N₂ G₂ P₂
      obtain ⟨v₂, dx₂, t₂₁, t₂₂, n₂, dd₂, oo₂, tl₂, ns₂, qs₂, e₂, hT₂, hlt₂, hal₂, hRw₂, hOt₂, hk₂, hkw₂, hp₂, hpw₂⟩ := P₂
      subst e₂
      have hz₂ := fresh_all hT₂ (by k_asm)
      simp only [List.forall_mem_cons] at hz₂
      have N₂' := News.grewL (by k_asm) N₂ hT₂
      dsimp only [List.cons_append] at N₂'))))
  (k_with "eval DictComp" => ((k_here; k_dflt (refine DictComp_L (F₀ := by k_asm) (by with_unfolding_all rfl) (by decide) (by rfl) (by decide) (by rfl) ?_))))
  (k_with "exec Assign cons DictComp" => ((k_here; k_dflt (refine Assign_DictComp_L (F₀ := by k_asm) (by rfl) (by with_unfolding_all rfl) (by with_unfolding_all rfl) (by decide) (by rfl) (by decide) (by rfl) (by rfl) (by rfl) ?_))))
  (k_with "exec For Name Name cons nil" => ((k_here; k_dflt (refine For_at ?_))))
  (k_with "exec For Name Call cons nil" => ((k_here; (with_reducible show wpAny _ _ (exec (Stmt.For _ (Expr.Call (Expr.Name (Str.ofString "range") _) _ _ _) _ _ _) _) _ _ _); k_dflt (refine For_R ?_))))
  (k_with "call ref" => ((k_here; (with_reducible show wpAny _ _ (call (Value.ref 119) _) _ _ _); k_dflt (
      refine' draw_at ?zqB ?zqF ?zqN ?zqX ?zqT ?zqk ?zqd ?zqu ?zqU ?zqm ?zqI ?zql ?zq0 ?zq1 ?zqg ?zqp ?zq9 ?_
      case zqF => k_asm
      case zqN => k_asm
      case zqB => k_asm
      case zqX => k_asm
      case zqT => k_asm
      case zqk => first | exact rfl | assumption
      case zqd => ktr_room
      case zqu => ktr_units
      case zqU => k_updF
      case zqm => k_mem
      case zqI => with_reducible assumption
      case zql => assumption
      case zq0 => ((try clear hQ); (repeat (rename @Ne _ _ _ => hne9; clear hne9)); omega)
      case zq1 => ((try clear hQ); (repeat (rename @Ne _ _ _ => hne9; clear hne9)); omega)
      case zqg => ((try clear hQ); (repeat (rename @Ne _ _ _ => hne9; clear hne9)); omega)
      case zqp => ((try clear hQ); (repeat (rename @Ne _ _ _ => hne9; clear hne9)); omega)
      case zq9 => ((try clear hQ); (repeat (rename @Ne _ _ _ => hne9; clear hne9)); omega)
      intro r₂ t₂ h₂ tk₂ seat₂ p1₂ great₂ p2₂ k₂ ra₂ rb₂ sa₂ sb₂ ga₂ F₂ N₂
      (try dsimp only at N₂)))))
  (k_with "eval ListComp" => ((k_here; (with_reducible show wpAny _ _ (eval (Expr.ListComp _ [⟨_, Expr.Name _ _, [_], _⟩] _ _) _) _ _ _); k_dflt (refine ListComp_WF (F₀ := by k_asm) (by with_unfolding_all rfl) (by decide) (by rfl) (by decide) (by rfl) ?_))))
  trivial
section
section
variable {prog : Program} {w : World} {A₀ : Around} {E : Value → Shared → Prop} {s : Shared} {base h₀ : Heap} {L : Addr} {m : Str → Option Value}
  {p : Program} {loose : List Str} {mean : ExcName → Option Value} {mg mb : Str → Option Value} {dp un : Nat} {gd : Option (List Code)} {cn : Str} {cs : Scope} {ca : Addr} {ccd : Value} {cl : List (Str × Addr)} {outer : List Env}
theorem mm2 {z a b : Str} {x y u v r : Option Value} : (if z = a then x else if z = b then y else if z = a then u else if z = b then v else r) = if z = a then x else if z = b then y else r := by
  by_cases h1 : z = a
  · simp [h1]
  · by_cases h2 : z = b
    · simp [h2]
    · simp [h1, h2]
theorem mm4 {z a b c d : Str} {x y p q u v s t r : Option Value} : (if z = a then x else if z = b then y else if z = c then p else if z = d then q else if z = a then u else if z = b then v else if z = c then s else if z = d then t else r) = if z = a then x else if z = b then y else if z = c then p else if z = d then q else r := by
  by_cases h1 : z = a
  · simp [h1]
  · by_cases h2 : z = b
    · simp [h2]
    · by_cases h3 : z = c
      · simp [h3]
      · by_cases h4 : z = d
        · simp [h4]
        · simp [h1, h2, h3, h4]
theorem upd4_self (m : Str → Option Value) (x y z u : Str) : m = fun v => if v = x then m x else if v = y then m y else if v = z then m z else if v = u then m u else m v := by
  funext v
  repeat' (split; (rename_i h; rw [h]))
  rfl
inductive LvJ (prog : Program) (w : World) (P c d₁ d₀ Lc : Addr) (oP : Obj) (cells : List Value) (kc : Nat) (rest : List (Addr × Obj)) (m₀ : Str → Option Value) (i : Nat) (m : Str → Option Value) (nx : List (Addr × Obj)) : Prop where
  | mk (u1 u2 u3 u4 : Option Value) (oi o2 : Obj) (kvs' : List (Int × Value)) (xs' : List (List Int × Addr × Value)) (D : List (Int × List Int)) (O : List ((Int × Int) × Int)) (tl : List (Addr × Obj)) (seat' : Int) (t1' : Tok) (great' : Int) (t2' : Tok) (k' : Nat)
      (h0 : m = (fun y => if y = Str.ofString "code" then u1 else if y = Str.ofString "lap" then u2 else if y = Str.ofString "row" then u3 else if y = Str.ofString "selector" then u4 else m₀ y))
      (h1 : nx = (P, penO c seat' t1' great' t2' k') :: (d₁, oi) :: (d₀, o2) :: (Lc, oP) :: (c, W.listOf cells.toArray kc) :: (tl ++ rest))
      (h2 : oi.IsDictOf (intKind prog w) kvs')
      (h3 : R2 (fun a b => a.1 = b.1 ∧ RowV (noK.add tl) a.2 b.2) kvs' D)
      (h4 : IsDictH prog w (noK.add tl) o2 xs')
      (h5 : R2 (fun a b => a.1 = kp b.1 ∧ IntV a.2.2 b.2) xs' O)
      (h6 : (∀ p ∈ tl, p.1 ≠ P))
      (h7 : (∀ p ∈ tl, p.1 ≠ d₁))
      (h8 : (∀ p ∈ tl, p.1 ≠ d₀))
      (h9 : (∀ p ∈ tl, ∀ q ∈ rest, p.1 ≠ q.1))
      (h10 : D.length ≤ i)
      (h11 : O.length ≤ 2 * i)
      (h12 : (∀ x ∈ D, x.2.length ≤ 5))
      (h13 : (∀ x ∈ O, 0 ≤ x.2 ∧ x.2 < 9))
      (h14 : 0 ≤ seat')
      (h15 : seat' ≤ 12 * (i : Int))
      (h16 : 0 ≤ great') : LvJ prog w P c d₁ d₀ Lc oP cells kc rest m₀ i m nx
inductive LvI (prog : Program) (w : World) (P c d₁ d₀ Lc I : Addr) (oP oI oX : Obj) (cells : List Value) (kc : Nat) (rest : List (Addr × Obj)) (kvs : List (Int × Value)) (D : List (Int × List Int)) (i : Nat) (m₀ : Str → Option Value) (j : Int) (m : Str → Option Value) (nx : List (Addr × Obj)) : Prop where
  | mk (u1 u2 : Option Value) (o2 : Obj) (xs' : List (List Int × Addr × Value)) (O : List ((Int × Int) × Int)) (tl : List (Addr × Obj)) (seat' : Int) (t1' : Tok) (great' : Int) (t2' : Tok) (k' : Nat)
      (h0 : m = (fun y => if y = Str.ofString "code" then u1 else if y = Str.ofString "lap" then u2 else m₀ y))
      (h1 : nx = (P, penO c seat' t1' great' t2' k') :: (d₁, oX) :: (d₀, o2) :: (Lc, oP) :: (c, W.listOf cells.toArray kc) :: (I, oI) :: (tl ++ rest))
      (h2 : R2 (fun a b => a.1 = b.1 ∧ RowV (noK.add tl) a.2 b.2) kvs D)
      (h3 : IsDictH prog w (noK.add tl) o2 xs')
      (h4 : R2 (fun a b => a.1 = kp b.1 ∧ IntV a.2.2 b.2) xs' O)
      (h5 : (∀ p ∈ tl, p.1 ≠ P))
      (h6 : (∀ p ∈ tl, p.1 ≠ d₁))
      (h7 : (∀ p ∈ tl, p.1 ≠ d₀))
      (h8 : (∀ p ∈ tl, p.1 ≠ I))
      (h9 : (∀ p ∈ tl, ∀ q ∈ rest, p.1 ≠ q.1))
      (h10 : (O.length : Int) ≤ 2 * i + j)
      (h11 : (∀ x ∈ O, 0 ≤ x.2 ∧ x.2 < 9))
      (h12 : 0 ≤ seat')
      (h13 : seat' ≤ 12 * (i : Int) + 7 + 2 * j)
      (h14 : 0 ≤ great') : LvI prog w P c d₁ d₀ Lc I oP oI oX cells kc rest kvs D i m₀ j m nx
inductive LvR (prog : Program) (w : World) (P c d₁ d₀ Lc I : Addr) (oP oI o2 : Obj) (cells : List Value) (kc : Nat) (rest tl : List (Addr × Obj)) (i : Nat) (s : Shared) (h₀ : Heap) (L : Addr) (m : Str → Option Value) (fl : Flow) (s' : Shared) : Prop where
  | mk (oX : Obj) (kvsX : List (Int × Value)) (DX : List (Int × List Int)) (tlX : List (Addr × Obj)) (seat' : Int) (t1' : Tok) (great' : Int) (t2' : Tok) (k' : Nat) (h' : Heap) (tk : Nat)
      (next : fl = .next) (h1 : s' = { s with heap := h', toks := tk }) (hF : Fr h₀ L h' m)
      (hN : News h₀ L h' ((P, penO c seat' t1' great' t2' k') :: (d₁, oX) :: (d₀, o2) :: (Lc, oP) :: (c, W.listOf cells.toArray kc) :: (I, oI) :: (tlX ++ rest)))
      (hoX : oX.IsDictOf (intKind prog w) kvsX) (hRX : R2 (fun a b => a.1 = b.1 ∧ RowV (noK.add tlX) a.2 b.2) kvsX DX) (hsub : ∀ p ∈ tl, p ∈ tlX)
      (hXP : ∀ p ∈ tlX, p.1 ≠ P) (hX1 : ∀ p ∈ tlX, p.1 ≠ d₁) (hX0 : ∀ p ∈ tlX, p.1 ≠ d₀) (hXI : ∀ p ∈ tlX, p.1 ≠ I) (hXR : ∀ p ∈ tlX, ∀ q ∈ rest, p.1 ≠ q.1)
      (hDX : DX.length ≤ i + 1) (hD5 : ∀ x ∈ DX, x.2.length ≤ 5) (hs0 : 0 ≤ seat') (hs1 : seat' ≤ 12 * (i : Int) + 6) (hg : 0 ≤ great') : LvR prog w P c d₁ d₀ Lc I oP oI o2 cells kc rest tl i s h₀ L m fl s'
theorem LvR.next {prog w P c d₁ d₀ Lc I oP oI o2 cells kc rest tl i s h₀ L m fl s'} (h : LvR prog w P c d₁ d₀ Lc I oP oI o2 cells kc rest tl i s h₀ L m fl s') : fl = .next := by
  cases h; assumption
theorem seq_cut {M : Model} {A : Around} {E : Value → Shared → Prop} {s : Shared} {st : Stmt} {rest : List Stmt} {env : Env} {Q : Flow → Shared → Prop} {h₀ : Heap} {L : Addr} {m : Str → Option Value} (F : Fr h₀ L s.heap m) (R : Shared → Heap → Addr → (Str → Option Value) → Flow → Shared → Prop)
    (hR : ∀ fl s', R s h₀ L m fl s' → fl = .next) (h1 : wpAny M A (exec st env) (R s h₀ L m) E s) (h2 : ∀ s', R s h₀ L m .next s' → wpAny M A (execs rest env) Q E s') : wpAny M A (execs (st :: rest) env) Q E s := by
  refine wpAny_execs_cons (wpAny_mono h1 (fun fl s' hr => ?_) fun _ _ e => e)
  have e := hR _ _ hr
  subst e
  exact h2 _ hr
theorem row1_V4 : True := by
  (k_with "subscriptTail" => ((k_here; (with_reducible show wpAny _ _ (subscriptTail _ _ (Value.ref 112) (Value.int _ _)) _ _ _); k_dflt (refine' base_at (codes_at ?zx _ (Fr.keep ?zf)) codeI ?za ?zb ?zc ?_; (case zx => k_asm); (case zf => k_asm); (case za => decide); (case zb => omega); (case zc => simp only [codeN, List.length_cons, List.length_nil]; omega); intro xc tc))))
  trivial
set_option maxHeartbeats 16000000 in
theorem lawvars_spec {P c : Addr} {seat great : Int} {t1 t2 : Tok} {k kc : Nat} {cells : List Value} {ns : List Int} {rest : List (Addr × Obj)} {Q : Value → Shared → Prop}
    (B : Below A₀ base outer h₀) (F : Fr h₀ L s.heap m) (N : News h₀ L s.heap ((P, penO c seat t1 great t2 k) :: (c, W.listOf cells.toArray kc) :: rest)) (X : (Mine.hd.heap_39 w.params).In h₀) (T : Top p loose mean mg mb h₀) (hk : cs.kind = .function)
    (hd : dp + 20 < recursionLimit) (hu : un + 240 < cLine) (hcP : @Ne Nat c P) (hrP : ∀ p ∈ rest, p.1 ≠ P) (hI : IntsAre cells ns) (hlen : ns.length ≤ 40) (hs0 : 0 ≤ seat) (hs1 : seat ≤ 0) (hg : 0 ≤ great)
    (hQ : ∀ (v dx dd oo : Addr) (odd ooo : Obj) (tl : List (Addr × Obj)) (kvs : List (Int × Value)) (xs : List (List Int × Addr × Value)) (D : List (Int × List Int)) (O : List ((Int × Int) × Int)) (h' : Heap) tk n t1 t2 seat' t1' great' t2' k', 0 ≤ seat' → seat' ≤ 40 → 0 ≤ great' → Fr h₀ L h' m →
      News h₀ L h' ((P, penO c seat' t1' great' t2' k') :: (c, W.listOf cells.toArray kc) :: (v, instObj 50 dx) :: (dx, two w (Str.ofString "defaults") (Str.ofString "others") t1 t2 (.ref dd) (.ref oo) n) :: (dd, odd) :: (oo, ooo) :: (tl ++ rest)) →
      odd.IsDictOf (intKind prog w) kvs → R2 (fun a b => a.1 = b.1 ∧ RowV (noK.add tl) a.2 b.2) kvs D → IsDictH prog w (noK.add tl) ooo xs → R2 (fun a b => a.1 = kp b.1 ∧ IntV a.2.2 b.2) xs O →
      (dd == sysModules) = false → (oo == sysModules) = false → (∀ p ∈ tl, p.1 ≠ P) → (∀ p ∈ (v, instObj 50 dx) :: (dx, two w (Str.ofString "defaults") (Str.ofString "others") t1 t2 (.ref dd) (.ref oo) n) :: (dd, odd) :: (oo, ooo) :: tl, ∀ q ∈ rest, p.1 ≠ q.1) → D.length ≤ 3 → O.length ≤ 6 → (∀ x ∈ D, x.2.length ≤ 5) → (∀ x ∈ O, 0 ≤ x.2 ∧ x.2 < 9) → Q (.ref v) { s with heap := h', toks := tk }) :
    wpAny (model prog w) (ktrTop dp un gd cn cs L ca ccd cl outer) (call (.ref 124) [.ref P]) Q E s := by
  refine wpAny_call ?_
  refine' code_defC ?zk1 ?zk2 ?zk3 ?zk4 ?zk5 ?zkA ?zkF ?zkK ?zk6 ?zk7 ?zk8 ?zk9 ?zkB ?zkD ?_ ?zc2 ?zc3 ?zc4
  case zkA => exact rfl
  case zkF => exact rfl
  case zkK => exact hk
  case zk1 => k_asm
  case zk2 => k_asm
  case zk3 => k_asm
  case zk4 => k_asm
  case zk5 => k_asm
  case zk6 => k_is
  case zk7 => k_is
  case zk8 => ktr_room
  case zk9 => exact BindsTo.of_eq rfl
  case zkB => exact rfl
  case zkD => decide +kernel
  case zc2 => exact rfl
  case zc3 => exact rfl
  case zc4 => exact rfl
  intro g₉ L₉ h₉ tk₉ cells₉ FG₉ F₉ N₉ Y₉ B₉ X₉ T₉ l₉
  (try k_lt l₉)
  k_cells Y₉
  (try simp only [List.cons_append, List.nil_append] at N₉)
  (try dsimp only)
  (try k_lift B₉)
  show wpAny _ _ _ _ _ _
  (try k_fold)
  refine letA ?_
  intro A9 hAu hAd
  simp only [units_deeper, depth_deeper] at hAu hAd
  (try dsimp only [ktrTop] at hAu hAd)
  k_steps
  rename_i oP dP d₁ hd₁ o₁ lod₁ hi₁ ld₁ hA hB FB NB
  have hrd₀ : ∀ p ∈ rest, p.1 ≠ d₀ := allLt_ne ld₀.2.2.2.2
  have hrd₁ : ∀ p ∈ rest, p.1 ≠ d₁ := allLt_ne ld₁.2.2.2
  have hrL₉ : ∀ p ∈ rest, p.1 ≠ L₉ := allLt_ne l₉.2.2
  refine ⟨_, 111, selV, [], (P, penO c seat t1 great t2 k) :: (d₁, o₁) :: (d₀, o₀) :: (L₉ + 1, oP) :: (c, W.listOf cells.toArray kc) :: rest, ?m₀,
    LvJ prog w P c d₁ d₀ (L₉ + 1) oP cells kc rest ?m₀, rfl, rfl, by k_asm, ?_, (fun h g _ => sels_at X₉ h g), ?_, ?_, ?_⟩
  · exact News.sub NB (by walk_at "own subs")
  · exact ⟨_, _, _, _, o₁, o₀, [], [], [], [], [], seat, t1, great, t2, k, upd4_self _ (Str.ofString "code") (Str.ofString "lap") (Str.ofString "row") (Str.ofString "selector"), rfl, hi₁, .nil, IsDictH.nil hi₀, .nil, (fun _ hx => nomatch hx), (fun _ hx => nomatch hx), (fun _ hx => nomatch hx), (fun _ hx => nomatch hx), Nat.le_refl _, Nat.le_refl _, (fun _ hx => nomatch hx), (fun _ hx => nomatch hx), hs0, hs1, hg⟩
  · rintro i v I oI m₁ nx h tk hv hJ99 hI1 hI2 hI3 F₂ N₂
    refine byC fun hG9 => ?_
    obtain ⟨u1, u2, u3, u4, oi, o2, kvs', xs', D, O, tl, seat₁, t1₁, great₁, t2₁, k₁, rfl, rfl, hoi, hR, ho2, hRO, htP, ht1, ht0, htR, hDl, hOl, hD5, hO9, hs0', hs1', hg'⟩ := hJ99
    obtain ⟨kk, t₁, rfl, hk1⟩ := intsGet selI hv
    refine hG9 ?_
    clear hG9
    have hi3 : i < 3 := (List.getElem?_eq_some_iff.mp hv).1
    dsimp only [List.cons_append, List.nil_append] at N₂ hI2
    have hI2' := allLt_of hI2
    simp only [AllLt] at hI2'
    refine byC fun hG9 => ?_
    obtain ⟨hIP, hId₁, hId₀, hIL, hIc, -⟩ := hI2'
    refine hG9 ?_
    clear hG9
    have hrI : ∀ p ∈ rest, p.1 ≠ I := fun p hp => Nat.ne_of_lt (hI2 p (by walk_at "own tail"))
    have htI : ∀ p ∈ tl, p.1 ≠ I := fun p hp => hI3 p (by walk_at "own tail")
    (try (show wpAny _ _ _ _ _ _; k_fold))
    k_steps
    refine pyIter_baseW rfl (by k_asm) (by k_asm) (codes_at X₉) (Nat.le_of_ble_eq_true rfl) (fun _ => True) trivial ?_
    intro g
    refine compT_inv (n := codeV.length) (fun j ys nx => ∃ row seat₂ t1₂ great₂ t2₂ k₂, nx = (I, oI) :: (P, penO c seat₂ t1₂ great₂ t2₂ k₂) :: (d₁, oi) :: (d₀, o2) :: (L₉ + 1, oP) :: (c, W.listOf cells.toArray kc) :: (tl ++ rest) ∧ IntsAre ys row ∧ row.length ≤ j ∧
      0 ≤ seat₂ ∧ seat₂ ≤ 12 * (i : Int) + j ∧ 0 ≤ great₂) ?_ ?_ _ 0 [] _ (Nat.zero_add _) ⟨[], _, _, _, _, _, rfl, .nil, Nat.le_refl _, hs0', by omega, hg'⟩
    · rintro j v₂ ys nx I₂ oI₂ C oC D₂ m₂ h₂ tk₂ hj hv₂ hJ914 hC hm F₃ N₃ off ne
      refine byC fun hG9 => ?_
      obtain ⟨row, seat₂, t1₂, great₂, t2₂, k₂, rfl, hys, hrl, hsa, hsb, hga⟩ := hJ914
      obtain ⟨cc, t₂, rfl, hc1⟩ := intsGet codeI hv₂
      obtain ⟨ne1, ne2, ne3⟩ := ne
      refine hG9 ?_
      clear hG9
      have off9 := off
      refine byC fun hG9 => ?_
      obtain ⟨o1, o2', o3, o4, o5, o6, o7⟩ := off
      refine hG9 ?_
      clear hG9
      dsimp only at o1 o2' o3 o4 o5 o6
      refine byC fun hG9 => ?_
      obtain ⟨oa, ob, oc⟩ := o2'
      refine hG9 ?_
      clear hG9
      replace oa := neN oa
      replace ob := neN ob
      replace oc := neN oc
      have hj5 : j < 5 := hj
      (try (show wpAny _ _ _ _ _ _; k_fold))
      k_steps
      · refine' CompEnd.intro ?ca ?cb _ (fun q hq => hq) ?cc trivial ⟨row ++ [cc], _, _, _, _, _, rfl, ksk_snoc hys, ?cd, ?ce, ?cf, ?cg⟩
        case ca => k_asm
        case cb => k_asm
        case cc => exact off9
        case cd => simpa using hrl
        case ce => ((repeat (rename @Ne _ _ _ => hne9; clear hne9)); omega)
        case cf => ((repeat (rename @Ne _ _ _ => hne9; clear hne9)); omega)
        case cg => ((repeat (rename @Ne _ _ _ => hne9; clear hne9)); omega)
      · refine' CompEnd.intro ?ca ?cb _ (fun q hq => hq) ?cc trivial ⟨row, _, _, _, _, _, rfl, hys, ?cd, ?ce, ?cf, ?cg⟩
        case ca => k_asm
        case cb => k_asm
        case cc => exact off9
        case cd => ((repeat (rename @Ne _ _ _ => hne9; clear hne9)); omega)
        case ce => ((repeat (rename @Ne _ _ _ => hne9; clear hne9)); omega)
        case cf => ((repeat (rename @Ne _ _ _ => hne9; clear hne9)); omega)
        case cg => ((repeat (rename @Ne _ _ _ => hne9; clear hne9)); omega)
    · rintro ys nx hJ92
      refine byC fun hG9 => ?_
      obtain ⟨row, seat₂, t1₂, great₂, t2₂, k₂, rfl, hys, hrl, hsa, hsb, hga⟩ := hJ92
      refine hG9 ?_
      clear hG9
      replace hrl : row.length ≤ 5 := hrl
      replace hsb : seat₂ ≤ 12 * (i : Int) + 5 := hsb
      intro D₃ h₃ tk₃ F₃ N₃ off₃
      refine byC fun hG9 => ?_
      obtain ⟨f1, f2, f3, f4, f5, f6, f7⟩ := off₃
      refine hG9 ?_
      clear hG9
      dsimp only at f1 f2 f3 f4 f5 f6
      have hz9 : ys.toArray.size ≤ 16384 := by
        rw [List.size_toArray, hys.length]; omega
      have ht5 : ∀ t₅ : Addr, RowK (noK.add ((t₅, { cls := .type "tuple", data := .seq ys.toArray.toList.toArray }) :: tl)) t₅ row := fun t₅ => ⟨ys, ⟨_, 0, .inr (.head _), rfl, rfl⟩, hys⟩
      have hz5 : kvs'.length ≤ sizeLine := by
        rw [hR.length, sizeLine_eq]; omega
      replace f2 := neN f2
      have f7' := off1_ne' f7
      repeat ((fail_if_success (with_reducible show wpAny _ _ (execs (Stmt.If _ _ _ _ :: _) _) _ _ _)); (first | (k_unfold; (try dsimp only)) | walk1 | (dsimp only; walk1) | (leave1; try dsimp only)))
      refine seq_cut (by k_asm) (LvR prog w P c d₁ d₀ (L₉ + 1) I oP oI o2 cells kc rest tl i) (fun _ _ h => LvR.next h) ?_ ?_
      · repeat ((fail_if_success (with_reducible show wpAny _ _ (compareOp _ _ _) _ _ _)); (first | (k_unfold; (try dsimp only)) | walk1 | (dsimp only; walk1) | (leave1; try dsimp only)))
        refine ne_nil (ht5 t₅) (RowK.empty Nt₀ rfl rfl) ?_ (fun _ _ x => x) (by ktr_units) ?_
        · exact le_addN noK_le (by k_asm) Nt₀ (by walk_at "own subs")
        k_steps
        · obtain ⟨DX, hRX, hDX, hD5X⟩ := R2.stored_ex (P := RowV (noK.add ((t₅, { cls := .type "tuple", data := .seq ys.toArray.toList.toArray }) :: tl))) (hR.imp fun _ _ ⟨a, x, e, y⟩ => ⟨a, x, e, y.mono (Kn.add_mono (fun _ _ x => x) fun _ x => .tail _ x)⟩) kk (v := .ref t₅) (b := row) ⟨t₅, rfl, ht5 t₅⟩
          refine' LvR.mk o₇ _ DX ((t₅, ({ cls := .type "tuple", data := .seq ys.toArray.toList.toArray } : Obj)) :: tl) seat₂ p1₂ great₂ p2₂ k₂ _ _ rfl rfl ?qF0 (News.sub N₇ ?qS0) hd₇ hRX (fun _ h => .tail _ h) (List.forall_mem_cons.mpr ⟨Nat.ne_of_gt l₅.2.2.1, htP⟩) (List.forall_mem_cons.mpr ⟨Nat.ne_of_gt l₅.2.2.2.1, ht1⟩) (List.forall_mem_cons.mpr ⟨Nat.ne_of_gt l₅.2.2.2.2.1, ht0⟩) (List.forall_mem_cons.mpr ⟨Nat.ne_of_gt l₅.2.1, htI⟩)
            (List.forall_mem_cons.mpr ⟨fun q hq => Nat.ne_of_gt (allLt_gt l₅.2.2.2.2.2.2.2 q (List.mem_append_right _ hq)), htR⟩) ?qD0 (fun x hx => (hD5X x hx).elim (hD5 x) fun e => by rw [e]; exact hrl) ?qa0 ?qb0 ?qc0
          case qF0 => k_asm
          case qS0 => walk_at "own subs"
          case qD0 => omega
          case qa0 => ((repeat (rename @Ne _ _ _ => hne9; clear hne9)); omega)
          case qb0 => ((repeat (rename @Ne _ _ _ => hne9; clear hne9)); omega)
          case qc0 => ((repeat (rename @Ne _ _ _ => hne9; clear hne9)); omega)
        · refine' LvR.mk oi kvs' D tl seat₂ p1₂ great₂ p2₂ k₂ _ _ rfl rfl ?qF1 (News.sub N₂ ?qS1) hoi hR (fun _ h => h) htP ht1 ht0 htI htR ?qD1 hD5 ?qa1 ?qb1 ?qc1
          case qF1 => k_asm
          case qS1 => walk_at "own subs"
          case qD1 => omega
          case qa1 => ((repeat (rename @Ne _ _ _ => hne9; clear hne9)); omega)
          case qb1 => ((repeat (rename @Ne _ _ _ => hne9; clear hne9)); omega)
          case qc1 => ((repeat (rename @Ne _ _ _ => hne9; clear hne9)); omega)
        · obtain ⟨DX, hRX, hDX, hD5X⟩ := R2.stored_ex (P := RowV (noK.add ((t₅, { cls := .type "tuple", data := .seq ys.toArray.toList.toArray }) :: tl))) (hR.imp fun _ _ ⟨a, x, e, y⟩ => ⟨a, x, e, y.mono (Kn.add_mono (fun _ _ x => x) fun _ x => .tail _ x)⟩) kk (v := .ref t₅) (b := row) ⟨t₅, rfl, ht5 t₅⟩
          refine' LvR.mk o₇ _ DX ((t₅, ({ cls := .type "tuple", data := .seq ys.toArray.toList.toArray } : Obj)) :: tl) seat₂ t1₂ great₂ t2₂ k₂ _ _ rfl rfl ?qF2 (News.sub N₇ ?qS2) hd₇ hRX (fun _ h => .tail _ h) (List.forall_mem_cons.mpr ⟨Nat.ne_of_gt l₅.2.2.1, htP⟩) (List.forall_mem_cons.mpr ⟨Nat.ne_of_gt l₅.2.2.2.1, ht1⟩) (List.forall_mem_cons.mpr ⟨Nat.ne_of_gt l₅.2.2.2.2.1, ht0⟩) (List.forall_mem_cons.mpr ⟨Nat.ne_of_gt l₅.2.1, htI⟩)
            (List.forall_mem_cons.mpr ⟨fun q hq => Nat.ne_of_gt (allLt_gt l₅.2.2.2.2.2.2.2 q (List.mem_append_right _ hq)), htR⟩) ?qD2 (fun x hx => (hD5X x hx).elim (hD5 x) fun e => by rw [e]; exact hrl) ?qa2 ?qb2 ?qc2
          case qF2 => k_asm
          case qS2 => walk_at "own subs"
          case qD2 => omega
          case qa2 => ((repeat (rename @Ne _ _ _ => hne9; clear hne9)); omega)
          case qb2 => ((repeat (rename @Ne _ _ _ => hne9; clear hne9)); omega)
          case qc2 => ((repeat (rename @Ne _ _ _ => hne9; clear hne9)); omega)
      · rintro s' hJ91
        refine byC fun hG9 => ?_
        obtain ⟨oX, kvsX, DX, tlX, seat₆, t1₆, great₆, t2₆, k₆, h₆, tk₆, -, rfl, FX, NX₀, hd₇, hRX, hsubX, hXP, hX1, hX0, hXI, hXR, hDX, hD5', hsX0, hsX1, hgX⟩ := hJ91
        refine hG9 ?_
        clear hG9
        (try (show wpAny _ _ _ _ _ _; k_fold))
        k_steps
        rename_i hrg _ NN _
        (try dsimp only [List.cons_append, List.nil_append] at NN)
        have NX := News.sub NN (small := (P, penO c seat₂ p1₂ great₂ p2₂ k₂) :: (d₁, oX) :: (d₀, o2) :: (L₉ + 1, oP) :: (c, W.listOf cells.toArray kc) :: (I, oI) :: (tlX ++ rest)) (by walk_at "own subs")
        clear NN NX₀
        dsimp only at hrg
        refine ⟨_, _, r₂, _, _, _, (P, penO c seat₂ p1₂ great₂ p2₂ k₂) :: (d₁, oX) :: (d₀, o2) :: (L₉ + 1, oP) :: (c, W.listOf cells.toArray kc) :: (I, oI) :: (tlX ++ rest), ?m₁₀, LvI prog w P c d₁ d₀ (L₉ + 1) I oP oI oX cells kc rest kvsX DX i ?m₁₀, rfl, rfl, hrg, ra₂, by omega, by k_asm, NX, ?_, ?_, ?_⟩
        · exact ⟨_, _, o2, xs', O, tlX, _, _, _, _, _, upd2_self _ (Str.ofString "code") (Str.ofString "lap"), rfl, hRX, ho2.mono (Kn.add_mono (fun _ _ x => x) hsubX), hRO, hXP, hX1, hX0, hXI, hXR, by omega, hO9, by omega, by omega, ga₂⟩
        · rintro j I₅ oI₅ m₅ nx₅ hh₅ tk₅ ti₅ hj0 hj1 hJ910 hI51 hI52 F₅ N₅
          refine byC fun hG9 => ?_
          obtain ⟨v1, v2, o3, xs3, O3, tl3, seat₅, t1₅, great₅, t2₅, k₅, rfl, rfl, hR3, ho3, hRO3, h3P, h31, h30, h3I, h3R, hO3, hO39, hs50, hs51, hg5⟩ := hJ910
          refine hG9 ?_
          clear hG9
          have hI51' := allLt_of hI51
          simp only [AllLt] at hI51'
          refine byC fun hG9 => ?_
          obtain ⟨h5P, h51, h50, h5L, h5c, h5I, -⟩ := hI51'
          refine hG9 ?_
          clear hG9
          have hr5 : ∀ p ∈ rest, p.1 ≠ I₅ := fun p hp => hI52 p (by walk_at "own tail")
          have ht3' : ∀ p ∈ tl3, p.1 ≠ I₅ := fun p hp => hI52 p (by walk_at "own tail")
          have hjb : 0 ≤ 2 * j ∧ 2 * j ≤ 4 := by omega
          have hz6 : xs3.length ≤ sizeLine := by
            rw [hRO3.length, sizeLine_eq]; omega
          (try (show wpAny _ _ _ _ _ _; k_fold))
          k_steps
          refine byC fun hG9 => ?_
          obtain ⟨O4, hR4, hO4, hO49⟩ := hRO3.storedH_ex (P := IntV) (kk, xc) t₀ (v := .int r₂ t₂) (b := r₂) ⟨t₂, rfl⟩
          refine hG9 ?_
          clear hG9
          refine setItem_H (ks := kp (kk, xc)) (κ := noK.add tl3) (κ' := noK.add ((t₀, { cls := .type "tuple", data := .seq #[.int kk t₁, .int xc tc] }) :: tl3)) (by ktr_units) (by k_asm) Nt₀ (by k_updF) ho3 (KeyK.new (q := (kk, xc)) (.inr (.head _))) ?_ ?_ _ ?_ (fun _ _ x => x) hz6 ?_
          · exact le_addN noK_le (by k_asm) Nt₀ (by walk_at "own subs")
          · exact le_addN noK_le (by k_asm) Nt₀ (by walk_at "own subs")
          · exact Kn.add_mono (fun _ _ x => x) fun _ x => .tail _ x
          intro h₈ o₈ F₈ N₈ hd₈
          (try dsimp only at N₈)
          k_steps
          refine TurnEnd.next (nx := (P, penO c seat₂ p1₂ great₂ p2₂ k₂) :: (d₁, oX) :: (d₀, o₈) :: (L₉ + 1, oP) :: (c, W.listOf cells.toArray kc) :: (I, oI) :: (((t₀, ({ cls := .type "tuple", data := .seq #[.int kk t₁, .int xc tc] } : Obj)) :: tl3) ++ rest)) (by k_asm) N₈ (by walk_at "own subs") ?_
            ⟨some (.int xc tc), some (.int j ti₅), o₈, _, O4, (t₀, ({ cls := .type "tuple", data := .seq #[.int kk t₁, .int xc tc] } : Obj)) :: tl3, seat₂, p1₂, great₂, p2₂, k₂, funext fun _ => mm2, rfl, hR3.imp fun _ _ ⟨a, x, e, y⟩ => ⟨a, x, e, y.mono (Kn.add_mono (fun _ _ x => x) fun _ x => .tail _ x)⟩, hd₈, hR4, ?_, ?_, ?_, ?_, ?_, ?_, ?_, ?_, ?_, ga₂⟩
          · refine List.forall_mem_cons.mpr ⟨Nat.ne_of_lt h5P, List.forall_mem_cons.mpr ⟨Nat.ne_of_lt h51, List.forall_mem_cons.mpr ⟨Nat.ne_of_lt h50, List.forall_mem_cons.mpr ⟨Nat.ne_of_lt h5L, List.forall_mem_cons.mpr ⟨Nat.ne_of_lt h5c, List.forall_mem_cons.mpr ⟨Nat.ne_of_lt h5I, List.forall_mem_append.mpr ⟨List.forall_mem_cons.mpr ⟨Nat.ne_of_gt lt₀.1, ht3'⟩, hr5⟩⟩⟩⟩⟩⟩⟩
          · exact List.forall_mem_cons.mpr ⟨Nat.ne_of_gt lt₀.2.1, h3P⟩
          · exact List.forall_mem_cons.mpr ⟨Nat.ne_of_gt lt₀.2.2.1, h31⟩
          · exact List.forall_mem_cons.mpr ⟨Nat.ne_of_gt lt₀.2.2.2.1, h30⟩
          · exact List.forall_mem_cons.mpr ⟨Nat.ne_of_gt lt₀.2.2.2.2.2.2.1, h3I⟩
          · exact List.forall_mem_cons.mpr ⟨fun q hq => Nat.ne_of_gt (allLt_gt lt₀.2.2.2.2.2.2.2 q (List.mem_append_right _ hq)), h3R⟩
          · ((repeat (rename @Ne _ _ _ => hne9; clear hne9)); omega)
          · intro x hx
            rcases hO49 x hx with hx | hx
            · exact hO39 x hx
            · rw [hx]; exact ⟨ra₂, rb₂⟩
          · ((repeat (rename @Ne _ _ _ => hne9; clear hne9)); omega)
          · ((repeat (rename @Ne _ _ _ => hne9; clear hne9)); omega)
        · rintro m₅ nx₅ hh₅ tk₅ hJ94 F₅ N₅
          refine byC fun hG9 => ?_
          obtain ⟨v1, v2, o3, xs3, O3, tl3, seat₅, t1₅, great₅, t2₅, k₅, rfl, rfl, hR3, ho3, hRO3, h3P, h31, h30, h3I, h3R, hO3, hO39, hs50, hs51, hg5⟩ := hJ94
          refine hG9 ?_
          clear hG9
          (try (show wpAny _ _ _ _ _ _; k_fold))
          k_steps
          refine TurnEnd.next (nx := (P, penO c seat₅ t1₅ great₅ t2₅ k₅) :: (d₁, oX) :: (d₀, o3) :: (L₉ + 1, oP) :: (c, W.listOf cells.toArray kc) :: (tl3 ++ rest)) F₅ N₅ (by walk_at "own subs") ?_
            ⟨v1, v2, some (.ref t₅), some (.int kk t₁), oX, o3, kvsX, xs3, DX, O3, tl3, seat₅, t1₅, great₅, t2₅, k₅, funext fun _ => mm4, rfl, hd₇, hR3, ho3, hRO3, h3P, h31, h30, h3R, hDX, ?_, hD5', hO39, hs50, ?_, hg5⟩
          · exact List.forall_mem_cons.mpr ⟨Nat.ne_of_lt hIP, List.forall_mem_cons.mpr ⟨Nat.ne_of_lt hId₁, List.forall_mem_cons.mpr ⟨Nat.ne_of_lt hId₀, List.forall_mem_cons.mpr ⟨Nat.ne_of_lt hIL, List.forall_mem_cons.mpr ⟨Nat.ne_of_lt hIc, List.forall_mem_append.mpr ⟨h3I, hrI⟩⟩⟩⟩⟩⟩
          · ((repeat (rename @Ne _ _ _ => hne9; clear hne9)); omega)
          · ((repeat (rename @Ne _ _ _ => hne9; clear hne9)); omega)
  · rintro m₁ nx h tk hJ94 F₂ N₂
    refine byC fun hG9 => ?_
    obtain ⟨u1, u2, u3, u4, oi, o2, kvs', xs', D, O, tl, seat₁, t1₁, great₁, t2₁, k₁, rfl, rfl, hoi, hR, ho2, hRO, htP, ht1, ht0, htR, hDl, hOl, hD5, hO9, hs0', hs1', hg'⟩ := hJ94
    refine hG9 ?_
    clear hG9
    replace hDl : D.length ≤ 3 := hDl
    replace hOl : O.length ≤ 6 := hOl
    replace hs1' : seat₁ ≤ 36 := hs1'
    dsimp only [List.nil_append] at N₂
    (try (show wpAny _ _ _ _ _ _; k_fold))
    k_steps
    refine' hQ x₈ d₈ d₁ d₀ oi o2 tl kvs' xs' D O _ _ 2 _ _ seat₁ t1₁ great₁ t2₁ k₁ hs0' (by omega) hg' ?hF (News.sub ?hN ?hs) hoi hR ho2 hRO lod₁ lod₀ htP ?hR hDl hOl hD5 hO9
    case hF => with_reducible assumption
    case hN => with_reducible assumption
    case hR =>
      have hr8 : ∀ q ∈ rest, q.1 < d₈ := fun q hq => allLt_gt l₈.2.2.2.2.2 q (List.mem_append_right _ hq)
      exact List.forall_mem_cons.mpr ⟨fun q hq => Nat.ne_of_gt (Nat.lt_trans (hr8 q hq) m₈), List.forall_mem_cons.mpr ⟨fun q hq => Nat.ne_of_gt (hr8 q hq), List.forall_mem_cons.mpr ⟨fun q hq => (hrd₁ q hq).symm, List.forall_mem_cons.mpr ⟨fun q hq => (hrd₀ q hq).symm, htR⟩⟩⟩⟩
    case hs =>
      refine List.forall_mem_cons.mpr ⟨.tail _ (.tail _ (.head _)), List.forall_mem_cons.mpr ⟨.tail _ (.tail _ (.tail _ (.tail _ (.tail _ (.tail _ (.head _)))))), List.forall_mem_cons.mpr ⟨.head _, List.forall_mem_cons.mpr ⟨?hs1, List.forall_mem_cons.mpr ⟨.tail _ (.tail _ (.tail _ (.head _))), List.forall_mem_cons.mpr ⟨.tail _ (.tail _ (.tail _ (.tail _ (.head _)))), fun q hq => .tail _ (.tail _ (.tail _ (.tail _ (.tail _ (.tail _ (.tail _ hq))))))⟩⟩⟩⟩⟩⟩
      case hs1 =>
        refine List.Mem.tail _ ?_
        unfold two
        exact List.Mem.head _
end


end
theorem rows_V5 : True := by
  k_with_none
  w_top off
  (k_with "own tail" => (first | ((repeat apply List.Mem.tail); first | exact hp | exact List.mem_append_left _ hp | exact List.mem_append_right _ hp) | (simp only [List.mem_cons, List.mem_append, List.not_mem_nil, or_false] at hp ⊢; grind)))
  (k_with "own subs" => (((try dsimp only [List.cons_append, List.nil_append]); (repeat (refine List.forall_mem_cons.mpr ⟨?_, ?_⟩; (· ((repeat (first | with_reducible exact List.Mem.head _ | refine List.Mem.tail _ ?_)); done)))); intro p hp; first | exact absurd hp List.not_mem_nil | ((repeat apply List.Mem.tail); first | exact hp | exact List.mem_append_left _ hp | exact List.mem_append_right _ hp) | (simp only [List.mem_cons, List.mem_append, List.not_mem_nil, or_false] at hp ⊢; grind))))
  (k_with "own ne" => ((refine neN ?_; (try dsimp only); first | assumption | exact Ne.symm (by assumption) | exact Nat.ne_of_lt (by assumption) | exact Nat.ne_of_gt (by assumption) | exact And.left (by assumption) | exact And.left (And.right (by assumption)) | exact And.right (And.right (by assumption)) | exact Ne.symm (And.left (by assumption)) | exact Ne.symm (And.left (And.right (by assumption))) | exact Ne.symm (And.right (And.right (by assumption))) | ((repeat (rename @Ne _ _ _ => hne9; clear hne9)); (repeat (rename And (@Ne _ _ _) _ => hne9; clear hne9)); omega))))
  (k_with "le" => (first | (refine' le_fr ?zla ?zlb; (case zlb => k_asm); (case zla => with_reducible assumption)) | exact Fr.keep (by k_asm)))
  (k_with "fin" => (((try dsimp only); (try k_unfold); (try dsimp only); refine ⟨_, _, _, rfl, by k_asm, ?_⟩)))
  (k_with "leF" => (first | exact fun _ F9 _ => le_fr (by with_reducible assumption) F9 | exact fun _ F9 _ => Fr.keep F9))
  (k_with "own inst" => ((refine' inst_kn ?le ?h1 ?h2; (case h1 => with_reducible assumption); (case h2 => with_reducible assumption); (case le => walk_at "le"))))
  (k_with "own fits" => (with_reducible assumption))
  (k_with "execs cons Assign cons" => (refine wpAny_execs_cons ?_))
  (k_with "exec For Name Call cons nil" => ((k_here; k_dflt (refine For_at ?_))))
  (k_with "getMethod ref" => ((k_here; first
      | (refine' getm_int ?d ?le ?_; (case d => with_reducible assumption); (case le => walk_at "le"))
      | (refine' getm_tup ?d ?le ?_; (case d => with_reducible assumption); (case le => walk_at "le")))))
  (k_with "key" => (exact key2 (by k_asm) (by k_mem)))
  (k_with "call builtin:dict.get" => ((k_here; first
      | (refine' get2_int ?d ?le ?lo ?_; (case d => with_reducible assumption); (case lo => with_reducible assumption); (case le => walk_at "le"))
      | (refine' get2_tup ?u ?d ?le ?lo ?k ?_; (case d => with_reducible assumption); (case lo => with_reducible assumption); (case u => ktr_units); (case le => walk_at "le"); (case k => walk_at "key")))))
  (k_with "enterC" => ((
      refine' enter_cells (args := ⟨_, []⟩) ?k1 ?k2 ?k3 ?k5 ?kA ?kF ?kK ?k6 ?k7 ?k8 ?k9 ?kB ?kD ?_ ?c2 ?c3 ?c4
      case kA => exact rfl
      case kF => exact rfl
      case kK => assumption
      case k1 => k_asm
      case k2 => k_asm
      case k3 => k_asm
      case k5 => k_asm
      case k6 => k_is
      case k7 => k_is
      case k8 => ktr_room
      case k9 => exact BindsTo.of_eq rfl
      case kB => exact rfl
      case kD => decide +kernel
      case c2 => exact rfl
      case c3 => exact rfl
      case c4 => exact rfl)))
  (k_with "enter" => ((
      refine' enter_pure (args := ⟨_, []⟩) ?k1 ?k2 ?k3 ?k5 ?kA ?kF ?kK ?k6 ?k7 ?k8 ?k9 ?kB ?_ ?c2 ?c3 ?c4 ?c5
      case kA => exact rfl
      case kF => exact rfl
      case kK => assumption
      case k1 => k_asm
      case k2 => k_asm
      case k3 => k_asm
      case k5 => k_asm
      case k6 => k_is
      case k7 => k_is
      case k8 => ktr_room
      case k9 => exact BindsTo.of_eq rfl
      case c5 => decide
      case kB => exact locs rfl
      case c2 => exact rfl
      case c3 => exact rfl
      case c4 => exact rfl)))
  (k_with "newList" => ((k_here; k_dflt (refine' newList_K ?k1 ?k2 ?_; (case k1 => k_asm); (case k2 => k_asm); k_whole); intro l₀ hl₀ Fl₀ Nl₀ ll₀; (try k_lt ll₀); (try k_sweep))))
  (k_with "newTuple" => ((k_here; k_dflt (refine' kup_newTuple ?zqk1 ?zqk2 ?_ ?zqk3; (case zqk1 => k_asm); (case zqk2 => k_asm); (case zqk3 => exact Nat.le_of_ble_eq_true rfl)); intro t₀ ht₀ Ft₀ Nt₀ lt₀; (try k_lt lt₀); (try k_sweep))))
  (k_with "call builtin:sorted" => ((k_here; k_dflt (
      refine' sorted_intD ?zqhh ?zqF ?zqN ?zqd ?zqle ?zqlo ?zqn ?_
      case zqd => with_reducible assumption
      case zqhh => exact rfl
      case zqF => k_asm
      case zqN => k_asm
      case zqle => walk_at "le"
      case zqlo => with_reducible assumption
      case zqn => with_reducible assumption
      intro D₁ h₁ tk₁ vs ns c₁ F₁ N₁ l₁ hI hP hW))))
  (k_with "call builtin:sorted" => ((k_here; k_dflt (
      refine' sorted_tupD ?zqhh ?zqF ?zqN ?zqd ?zqp ?zqle ?zqlo ?zqn ?_
      case zqd => with_reducible assumption
      case zqp => with_reducible assumption
      case zqhh => exact rfl
      case zqF => k_asm
      case zqN => k_asm
      case zqle => walk_at "leF"
      case zqlo => with_reducible assumption
      case zqn => assumption
      intro D₁ h₁ tk₁ vs qs c₁ F₁ N₁ l₁ hR hP hW))))
  (k_with "subscriptTail" => ((k_here; (with_reducible show wpAny _ _ (subscriptTail _ _ (Value.ref _) (Value.ref _)) _ _ _); k_dflt (
      refine' item_tup ?u ?d ?le ?k ?l ?_
      case d => with_reducible assumption
      case l => with_reducible assumption
      case u => ktr_units
      case le => walk_at "le"
      case k => (refine' KeyK.at (KeyK.mono ?zle ?zk); (case zk => with_reducible assumption); (case zle => walk_at "le"))))))
  (k_with "subscriptTail" => ((k_here; (with_reducible show wpAny _ _ (subscriptTail _ _ (Value.ref _) (Value.int _ _)) _ _ _); k_dflt (
      refine' item_int ?d ?le ?l ?_
      case d => with_reducible assumption
      case l => with_reducible assumption
      case le => walk_at "le"))))
  (k_with "compareOp In int ref" => ((k_here; k_dflt (
      refine' in_int ?d ?le ?lo ?_
      case d => with_reducible assumption
      case lo => with_reducible assumption
      case le => walk_at "le"))))
  (k_with "compareOp NotIn int ref" => ((k_here; k_dflt (
      refine' notin_int ?d ?le ?lo ?_
      case d => with_reducible assumption
      case lo => with_reducible assumption
      case le => walk_at "le"))))
  (k_with "truthy ref" => ((k_here; k_dflt (
      refine' truthy_row ?r ?le ?z ?_
      case r => with_reducible assumption
      case z => with_reducible assumption
      case le => walk_at "le"))))
  (k_with "call type:tuple" => ((k_here; (with_reducible show wpAny _ _ (call (Value.type _) [Value.ref _]) _ _ _); k_dflt (
      refine' tup_row ?r ?le ?_
      case r => with_reducible assumption
      case le => walk_at "le"))))
  (k_with "call type:tuple" => ((k_here; (with_reducible show wpAny _ _ (call (Value.type _) [Value.ref _]) _ _ _); k_dflt (
      refine' kde_tupleOf ?k1 ?k2 ?k3 ?k4 ?k5 ?_
      case k1 => k_asm
      case k2 => k_asm
      case k3 => exact News.isList (by k_asm) (by k_mem)
      case k4 => with_reducible assumption
      case k5 => exact rfl
      intro t₅ h₅ F₅ N₅ l₅
      (try k_lt l₅)))))
  (k_with "call ref" => ((k_here; (with_reducible show wpAny _ _ (call (Value.ref 35) _) _ _ _); k_dflt (
      refine' use_pure ?F ?N (is_default_spec ?B ?F2 ?X ?T ?k ?d ?u ?V) ?_
      case F => k_asm
      case N => k_asm
      case B => k_asm
      case F2 => k_asm
      case X => k_asm
      case T => k_asm
      case k => first | exact rfl | assumption
      case d => ktr_room
      case u => ktr_units
      case V => (refine' VarsK.mono ?zle ?zk; (case zk => with_reducible assumption); (case zle => walk_at "le"))
      intro _ _ _ _ _ _
      rintro rfl
      (try k_sweep)))))
  (k_with "call ref" => ((k_here; (with_reducible show wpAny _ _ (call (Value.ref 42) _) _ _ _); k_dflt (
      refine' use_pure ?zqF ?zqN (own_pairs_spec ?zqB ?zqF2 ?zqX ?zqT ?zqk ?zqd ?zqu ?zqK ?zqV ?zq6) ?_
      case zqF => k_asm
      case zqN => k_asm
      case zqB => k_asm
      case zqF2 => k_asm
      case zqX => k_asm
      case zqT => k_asm
      case zqk => first | exact rfl | assumption
      case zqd => ktr_room
      case zqu => ktr_units
      case zqV => with_reducible assumption
      case zqK => walk_at "le"
      case zq6 => with_reducible assumption
      intro r₂ h₂ tk₂ F₂ N₂ G₂ P₂
      obtain ⟨a₂, ws₂, ps₂, n₂, e₂, f₂, g₂, hR₂, hP₂, hW₂⟩ := P₂
      subst e₂
      have N₂' := News.grew (by k_asm) N₂ f₂ g₂))))
  (k_with "eval ListComp" => ((k_here; (with_reducible show wpAny _ _ (eval (Expr.ListComp _ [⟨_, _, [], _⟩] _ _) _) _ _ _); k_dflt (refine LCg.ListComp_U (F₀ := by k_asm) (by with_unfolding_all rfl) (by decide) (by rfl) (by decide) (by rfl) ?_))))
  (k_with "eval ListComp" => ((k_here; (with_reducible show wpAny _ _ (eval (Expr.ListComp _ [⟨_, _, [_], _⟩] _ _) _) _ _ _); k_dflt (refine LCt.ListComp_T (F₀ := by k_asm) (by with_unfolding_all rfl) (by decide) (by rfl) (by decide) (by rfl) ?_))))
  (k_with "own all" => (first | with_reducible assumption | (refine List.forall_mem_append.mpr ⟨?_, ?_⟩ <;> k_all)))
  (k_with "exec For Tuple Call cons nil" => ((k_here; k_dflt (refine For_at ?_))))
  (k_with "eval Dict nil nil" => ((k_here; k_dflt (refine' newDict_K ?zqk1 ?zqk2 (TopRead.nolimit (by k_asm)) ?_; (case zqk1 => k_asm); (case zqk2 => k_asm); k_whole); intro d₀ hd₀ o₀ Fd₀ Nd₀ ld₀ lod₀ hs₀ fs₀ hi₀ fi₀; clear hs₀ fs₀ fi₀; (try k_lt ld₀); (try k_sweep))))
  (k_with "eval ListComp" => ((k_here; (with_reducible show wpAny _ _ (eval (Expr.ListComp _ [⟨_, Expr.Subscript _ _ _, [_], _⟩] _ _) _) _ _ _); k_dflt (refine ListComp_WF (F₀ := by k_asm) (by with_unfolding_all rfl) (by decide) (by rfl) (by decide) (by rfl) ?_))))
  (k_with "setItem ref int" => ((k_here; k_dflt (
      refine' kda_set (knd := PySem.intKind _ _) ?zqF ?zqN ?zqU ?zqd (intKind_is _ _ _ _) ?zqz ?_
      case zqd => with_reducible assumption
      case zqF => k_asm
      case zqN => k_asm
      case zqU => k_updF
      case zqz => with_reducible assumption
      intro h₇ o₇ F₇ N₇ hd₇
      (try dsimp only at N₇)))))
  (k_with "subscriptTail" => ((k_here; (with_reducible show wpAny _ _ (subscriptTail _ _ (Value.ref _) (Value.ref _)) _ _ _); k_dflt (
      refine' item_tup ?u ?d ?le ?k ?l ?_
      case d => with_reducible assumption
      case l => with_reducible assumption
      case u => ktr_units
      case le => walk_at "le"
      case k => exact key2 (by k_asm) (by k_mem)))))
  (k_with "call ref" => ((k_here; (with_reducible show wpAny _ _ (call (Value.ref 50) _) _ _ _); k_dflt (
      refine' call_cls ?zk1 ?zk2 ?zk3 ?zk4 ?zk5 ?zk6 ?_
      case zk1 => k_asm
      case zk2 => k_asm
      case zk3 => k_asm
      case zk4 => k_is
      case zk5 => k_is
      case zk6 => k_is
      intro x₈ d₈ h₈ F₈ N₈ l₈ m₈
      (try k_lt l₈)
      (try k_lt2 m₈)
      (try (first | have hal₈ := allLt_ne l₈ | have hal₈ := allLt_ne l₈.2 | have hal₈ := allLt_ne l₈.2.2 | have hal₈ := allLt_ne l₈.2.2.2 | have hal₈ := allLt_ne l₈.2.2.2.2 | have hal₈ := allLt_ne l₈.2.2.2.2.2 | have hal₈ := allLt_ne l₈.2.2.2.2.2.2 | have hal₈ := allLt_ne l₈.2.2.2.2.2.2.2 | have hal₈ := allLt_ne l₈.2.2.2.2.2.2.2.2 | have hal₈ := allLt_ne l₈.2.2.2.2.2.2.2.2.2 | have hal₈ := allLt_ne l₈.2.2.2.2.2.2.2.2.2.2))
      (try k_sweep)
      refine' code_def ?zk1 ?zk2 ?zk3 ?zk4 ?zk5 ?zkA ?zkF ?zkK ?zk6 ?zk7 ?zk8 ?zk9 ?zkB ?_ ?zc2 ?zc3 ?zc4 ?zc5
      case zkA => exact rfl
      case zkF => exact rfl
      case zkK => exact rfl
      case zk1 => k_asm
      case zk2 => k_asm
      case zk3 => k_asm
      case zk4 => k_asm
      case zk5 => k_asm
      case zk6 => k_is
      case zk7 => k_is
      case zk8 => ktr_room
      case zk9 => exact BindsTo.of_eq rfl
      case zc5 => decide
      case zkB => exact locs rfl
      case zc2 => exact rfl
      case zc3 => exact rfl
      case zc4 => exact rfl
      intro g₉ L₉ h₉ FG₉ F₉ N₉ B₉ X₉ T₉
      (try dsimp only)
      (try k_lift B₉)
      (try k_fold)))))
  (k_with "le" => ((refine' le_addN ?zla ?zlb ?zlc ?zld; (case zlb => k_asm); (case zlc => k_asm); (case zla => with_reducible assumption); (case zld => walk_at "own subs"))))
  (k_with "leF" => (exact fun _ F9 N9 => le_addN (by with_reducible assumption) F9 N9 (by walk_at "own subs")))
  (k_with "call ref" => ((k_here; (with_reducible show wpAny _ _ (call (Value.ref 81) _) _ _ _); k_dflt (
      refine' use_pure ?zqF ?zqN (glyph_spec ?zqB ?zqF2 ?zqX ?zqT ?zqk ?zqd ?zqu ?zqV) ?_
      case zqF => k_asm
      case zqN => k_asm
      case zqB => k_asm
      case zqF2 => k_asm
      case zqX => k_asm
      case zqT => k_asm
      case zqk => first | exact rfl | assumption
      case zqd => ktr_room
      case zqu => ktr_units
      case zqV => (refine' CmK.mono ?zle ?zk; (case zk => with_reducible assumption); (case zle => walk_at "le"))
      intro r₃ h₃ tk₃ F₃ N₃ G₃ P₃
      obtain ⟨t₃, e₃⟩ := P₃
      subst e₃
      (try k_sweep)))))
  (k_with "call ref" => ((k_here; (with_reducible show wpAny _ _ (call (Value.ref 105) _) _ _ _); k_dflt (
      refine' use_pure ?zqF ?zqN (cut_vars_spec ?zqB ?zqF2 ?zqX ?zqT ?zqk ?zqd ?zqu ?zqK ?zqV ?zqw ?zql ?zq6 ?zq7 ?zq5) ?_
      case zqF => k_asm
      case zqN => k_asm
      case zqB => k_asm
      case zqF2 => k_asm
      case zqX => k_asm
      case zqT => k_asm
      case zqk => first | exact rfl | assumption
      case zqd => ktr_room
      case zqu => ktr_units
      case zqV => with_reducible assumption
      case zqw => with_reducible assumption
      case zqK => walk_at "le"
      case zql => with_reducible assumption
      case zq6 => with_reducible assumption
      case zq7 => with_reducible assumption
      case zq5 => assumption
      intro r₂ h₂ tk₂ F₂ N₂ G₂ P₂
      obtain ⟨v₂, dx₂, t₂₁, t₂₂, n₂, dd₂, oo₂, tl₂, ns₂, qs₂, e₂, hT₂, hlt₂, hal₂, hRw₂, hOt₂, hk₂, hkw₂, hp₂, hpw₂⟩ := P₂
      subst e₂
      have hz₂ := fresh_all hT₂ (by k_asm)
      simp only [List.forall_mem_cons] at hz₂
      have N₂' := News.grewL (by k_asm) N₂ hT₂
      dsimp only [List.cons_append] at N₂'))))
  (k_with "eval DictComp" => ((k_here; k_dflt (refine DictComp_L (F₀ := by k_asm) (by with_unfolding_all rfl) (by decide) (by rfl) (by decide) (by rfl) ?_))))
  (k_with "exec Assign cons DictComp" => ((k_here; k_dflt (refine Assign_DictComp_L (F₀ := by k_asm) (by rfl) (by with_unfolding_all rfl) (by with_unfolding_all rfl) (by decide) (by rfl) (by decide) (by rfl) (by rfl) (by rfl) ?_))))
  (k_with "exec For Name Name cons nil" => ((k_here; k_dflt (refine For_at ?_))))
  (k_with "exec For Name Call cons nil" => ((k_here; (with_reducible show wpAny _ _ (exec (Stmt.For _ (Expr.Call (Expr.Name (Str.ofString "range") _) _ _ _) _ _ _) _) _ _ _); k_dflt (refine For_R ?_))))
  (k_with "call ref" => ((k_here; (with_reducible show wpAny _ _ (call (Value.ref 119) _) _ _ _); k_dflt (
      refine' draw_at ?zqB ?zqF ?zqN ?zqX ?zqT ?zqk ?zqd ?zqu ?zqU ?zqm ?zqI ?zql ?zq0 ?zq1 ?zqg ?zqp ?zq9 ?_
      case zqF => k_asm
      case zqN => k_asm
      case zqB => k_asm
      case zqX => k_asm
      case zqT => k_asm
      case zqk => first | exact rfl | assumption
      case zqd => ktr_room
      case zqu => ktr_units
      case zqU => k_updF
      case zqm => k_mem
      case zqI => with_reducible assumption
      case zql => assumption
      case zq0 => ((try clear hQ); (repeat (rename @Ne _ _ _ => hne9; clear hne9)); omega)
      case zq1 => ((try clear hQ); (repeat (rename @Ne _ _ _ => hne9; clear hne9)); omega)
      case zqg => ((try clear hQ); (repeat (rename @Ne _ _ _ => hne9; clear hne9)); omega)
      case zqp => ((try clear hQ); (repeat (rename @Ne _ _ _ => hne9; clear hne9)); omega)
      case zq9 => ((try clear hQ); (repeat (rename @Ne _ _ _ => hne9; clear hne9)); omega)
      intro r₂ t₂ h₂ tk₂ seat₂ p1₂ great₂ p2₂ k₂ ra₂ rb₂ sa₂ sb₂ ga₂ F₂ N₂
      (try dsimp only at N₂)))))
  (k_with "eval ListComp" => ((k_here; (with_reducible show wpAny _ _ (eval (Expr.ListComp _ [⟨_, Expr.Name _ _, [_], _⟩] _ _) _) _ _ _); k_dflt (refine ListComp_WF (F₀ := by k_asm) (by with_unfolding_all rfl) (by decide) (by rfl) (by decide) (by rfl) ?_))))
  trivial
section
theorem News.ne_cls {h₀ h : Heap} {L : Addr} {news : List (Addr × Obj)} (N : News h₀ L h news) {a b : Addr} {o o' : Obj} (h1 : (a, o) ∈ news) (h2 : (b, o') ∈ news) (hc : o.cls ≠ o'.cls) : a ≠ b := fun e => by
  have q1 := (N _ h1).1
  have q2 := (N _ h2).1
  dsimp only at q1 q2
  rw [e, q2] at q1
  cases q1; exact hc rfl
theorem isDict_cls {prog : Program} {w : World} {o : Obj} {kvs : List (Int × Value)} (h : o.IsDictOf (intKind prog w) kvs) : o.cls = .type "dict" := by
  obtain ⟨_, _, hc, _⟩ := h
  exact hc.1
section
variable {prog : Program} {w : World} {A₀ : Around} {E : Value → Shared → Prop} {s : Shared} {base h₀ : Heap} {L : Addr} {m : Str → Option Value}
  {p : Program} {loose : List Str} {mean : ExcName → Option Value} {mg mb : Str → Option Value} {dp un : Nat} {gd : Option (List Code)} {cn : Str} {cs : Scope} {ca : Addr} {ccd : Value} {cl : List (Str × Addr)} {outer : List Env}
theorem lawvars_at {P c : Addr} {seat great : Int} {t1 t2 : Tok} {k kc : Nat} {cells : List Value} {ns : List Int} {rest : List (Addr × Obj)} {Q : Value → Shared → Prop}
    (B : Below A₀ base outer h₀) (F : Fr h₀ L s.heap m) (N : News h₀ L s.heap ((P, penO c seat t1 great t2 k) :: (c, W.listOf cells.toArray kc) :: rest)) (X : (Mine.hd.heap_39 w.params).In h₀) (T : Top p loose mean mg mb h₀) (hk : cs.kind = .function)
    (hd : dp + 20 < recursionLimit) (hu : un + 240 < cLine) (hcP : @Ne Nat c P) (hrP : ∀ p ∈ rest, p.1 ≠ P) (hI : IntsAre cells ns) (hlen : ns.length ≤ 40) (hs0 : 0 ≤ seat) (hs1 : seat ≤ 0) (hg : 0 ≤ great)
    (hQ : ∀ (v : Addr) (T : List (Addr × Obj)) (D : List (Int × List Int)) (O : List ((Int × Int) × Int)) (h' : Heap) tk seat' t1' great' t2' k', 0 ≤ seat' → seat' ≤ 40 → 0 ≤ great' → Fr h₀ L h' m →
      News h₀ L h' ((P, penO c seat' t1' great' t2' k') :: (c, W.listOf cells.toArray kc) :: (rest ++ T)) → VarsK prog w (noK.add T) v D O → (∀ p ∈ T, p.1 ≠ P) → (∀ p ∈ T, ∀ q ∈ rest, p.1 ≠ q.1) →
      D.length ≤ 3 → O.length ≤ 6 → (∀ x ∈ D, x.2.length ≤ 8) → (∀ x ∈ O, 0 ≤ x.2 ∧ x.2 < 9) → Q (.ref v) { s with heap := h', toks := tk }) :
    wpAny (model prog w) (ktrTop dp un gd cn cs L ca ccd cl outer) (call (.ref 124) [.ref P]) Q E s := by
  refine lawvars_spec B F N X T hk hd hu hcP hrP hI hlen hs0 hs1 hg ?_
  intro v dx dd oo odd ooo tl kvs xs D O h' tk n t1 t2 seat' t1' great' t2' k' sa sb ga F' N' hod hR hoo hRO lod loo htP hTR h3 h6 h5 h9
  refine hQ v ((v, instObj 50 dx) :: (dx, two w (Str.ofString "defaults") (Str.ofString "others") t1 t2 (.ref dd) (.ref oo) n) :: (dd, odd) :: (oo, ooo) :: tl) D O h' tk seat' t1' great' t2' k' sa sb ga F' (News.sub N' (fun p hp => by simp only [List.mem_cons, List.mem_append] at hp ⊢; grind))
    ⟨dd, oo, dx, t1, t2, n, .inr (.head _), .inr (.tail _ (.head _)), ⟨lod, kvs, ⟨odd, .inr (.tail _ (.tail _ (.head _))), hod⟩, hR.imp fun _ _ ⟨a, x, e, y⟩ => ⟨a, x, e, y.mono (Kn.add_mono (fun _ _ x => x) fun _ x => .tail _ (.tail _ (.tail _ (.tail _ x))))⟩⟩,
      ⟨loo, xs, (hoo.mono (Kn.add_mono (fun _ _ x => x) fun _ x => .tail _ (.tail _ (.tail _ (.tail _ x))))).K (.inr (.tail _ (.tail _ (.tail _ (.head _))))), hRO⟩⟩ ?_ hTR h3 h6 (fun x hx => Nat.le_trans (h5 x hx) (by decide)) h9
  refine List.forall_mem_cons.mpr ⟨?_, List.forall_mem_cons.mpr ⟨?_, List.forall_mem_cons.mpr ⟨?_, List.forall_mem_cons.mpr ⟨?_, htP⟩⟩⟩⟩
  · exact News.ne_cls N' (.tail _ (.tail _ (.head _))) (.head _) (by show (Value.ref 50) ≠ .type "list"; exact fun e => by cases e)
  · exact News.ne_cls N' (.tail _ (.tail _ (.tail _ (.head _)))) (.head _) (by show (Value.type "dict") ≠ .type "list"; decide)
  · exact News.ne_cls N' (.tail _ (.tail _ (.tail _ (.tail _ (.head _))))) (.head _) (by rw [isDict_cls hod]; show (Value.type "dict") ≠ .type "list"; decide)
  · exact News.ne_cls N' (.tail _ (.tail _ (.tail _ (.tail _ (.tail _ (.head _)))))) (.head _) (by rw [hoo.1.1]; show (Value.type "dict") ≠ .type "list"; decide)
end
def OffAll (as : List Addr) (T : List (Addr × Obj)) : Prop := ∀ a ∈ as, ∀ p ∈ T, p.1 ≠ a
theorem OffAll.cons {as : List Addr} {T news : List (Addr × Obj)} {a : Addr} {o : Obj} (hT : OffAll as T) (hn : ∀ x ∈ as, ∃ o', (x, o') ∈ news) (lt : ∀ p ∈ news, p.1 < a) : OffAll as ((a, o) :: T) := fun x hx => List.forall_mem_cons.mpr ⟨by
  obtain ⟨o', hm⟩ := hn x hx
  exact Nat.ne_of_gt (lt _ hm), hT x hx⟩
theorem OffAll.app {as : List Addr} {T tl news : List (Addr × Obj)} (hT : OffAll as T) (hn : ∀ x ∈ as, ∃ o', (x, o') ∈ news) (hz : ∀ p ∈ news, ∀ q ∈ tl, q.1 ≠ p.1) : OffAll as (tl ++ T) := fun x hx => List.forall_mem_append.mpr ⟨by
  obtain ⟨o', hm⟩ := hn x hx
  exact hz _ hm, hT x hx⟩
def kd (o : Obj) : Bool := match o.data with
  | .cell _ => true
  | .seq _ _ => true
  | _ => false
theorem OffAll.kind {h₀ h : Heap} {L : Addr} {as : List Addr} {T news : List (Addr × Obj)} {a : Addr} {o : Obj} (hT : OffAll as T) (N : News h₀ L h news) (hn : ∀ x ∈ as, ∃ o', (x, o') ∈ news ∧ kd o' = true) (hm : (a, o) ∈ news) (hk : kd o = false) : OffAll as ((a, o) :: T) := by
  intro x hx
  obtain ⟨o', hm', hk'⟩ := hn x hx
  refine List.forall_mem_cons.mpr ⟨fun e => ?_, hT x hx⟩
  have q1 := (N _ hm).1
  have q2 := (N _ hm').1
  dsimp only at q1 q2 e
  rw [e, q2] at q1
  have q3 : o' = o := by simpa using q1
  rw [q3, hk] at hk'; cases hk'
theorem kd_dict {prog : Program} {w : World} {o : Obj} {kvs : List (Int × Value)} (h : o.IsDictOf (intKind prog w) kvs) : kd o = false := by
  obtain ⟨_, _, _, e, _⟩ := h
  rw [kd, e]


end
theorem rows_V6 : True := by
  k_with_none
  w_top off
  (k_with "own tail" => (first | ((repeat apply List.Mem.tail); first | exact hp | exact List.mem_append_left _ hp | exact List.mem_append_right _ hp) | (simp only [List.mem_cons, List.mem_append, List.not_mem_nil, or_false] at hp ⊢; grind)))
  (k_with "own subs" => (((try dsimp only [List.cons_append, List.nil_append]); (repeat (refine List.forall_mem_cons.mpr ⟨?_, ?_⟩; (· ((repeat (first | with_reducible exact List.Mem.head _ | refine List.Mem.tail _ ?_)); done)))); intro p hp; first | exact absurd hp List.not_mem_nil | ((repeat apply List.Mem.tail); first | exact hp | exact List.mem_append_left _ hp | exact List.mem_append_right _ hp) | (simp only [List.mem_cons, List.mem_append, List.not_mem_nil, or_false] at hp ⊢; grind))))
  (k_with "own ne" => ((refine neN ?_; (try dsimp only); first | assumption | exact Ne.symm (by assumption) | exact Nat.ne_of_lt (by assumption) | exact Nat.ne_of_gt (by assumption) | exact And.left (by assumption) | exact And.left (And.right (by assumption)) | exact And.right (And.right (by assumption)) | exact Ne.symm (And.left (by assumption)) | exact Ne.symm (And.left (And.right (by assumption))) | exact Ne.symm (And.right (And.right (by assumption))) | ((repeat (rename @Ne _ _ _ => hne9; clear hne9)); (repeat (rename And (@Ne _ _ _) _ => hne9; clear hne9)); omega))))
  (k_with "le" => (first | (refine' le_fr ?zla ?zlb; (case zlb => k_asm); (case zla => with_reducible assumption)) | exact Fr.keep (by k_asm)))
  (k_with "fin" => (((try dsimp only); (try k_unfold); (try dsimp only); refine ⟨_, _, _, rfl, by k_asm, ?_⟩)))
  (k_with "leF" => (first | exact fun _ F9 _ => le_fr (by with_reducible assumption) F9 | exact fun _ F9 _ => Fr.keep F9))
  (k_with "own inst" => ((refine' inst_kn ?le ?h1 ?h2; (case h1 => with_reducible assumption); (case h2 => with_reducible assumption); (case le => walk_at "le"))))
  (k_with "own fits" => (with_reducible assumption))
  (k_with "execs cons Assign cons" => (refine wpAny_execs_cons ?_))
  (k_with "exec For Name Call cons nil" => ((k_here; k_dflt (refine For_at ?_))))
  (k_with "getMethod ref" => ((k_here; first
      | (refine' getm_int ?d ?le ?_; (case d => with_reducible assumption); (case le => walk_at "le"))
      | (refine' getm_tup ?d ?le ?_; (case d => with_reducible assumption); (case le => walk_at "le")))))
  (k_with "key" => (exact key2 (by k_asm) (by k_mem)))
  (k_with "call builtin:dict.get" => ((k_here; first
      | (refine' get2_int ?d ?le ?lo ?_; (case d => with_reducible assumption); (case lo => with_reducible assumption); (case le => walk_at "le"))
      | (refine' get2_tup ?u ?d ?le ?lo ?k ?_; (case d => with_reducible assumption); (case lo => with_reducible assumption); (case u => ktr_units); (case le => walk_at "le"); (case k => walk_at "key")))))
  (k_with "enterC" => ((
      refine' enter_cells (args := ⟨_, []⟩) ?k1 ?k2 ?k3 ?k5 ?kA ?kF ?kK ?k6 ?k7 ?k8 ?k9 ?kB ?kD ?_ ?c2 ?c3 ?c4
      case kA => exact rfl
      case kF => exact rfl
      case kK => assumption
      case k1 => k_asm
      case k2 => k_asm
      case k3 => k_asm
      case k5 => k_asm
      case k6 => k_is
      case k7 => k_is
      case k8 => ktr_room
      case k9 => exact BindsTo.of_eq rfl
      case kB => exact rfl
      case kD => decide +kernel
      case c2 => exact rfl
      case c3 => exact rfl
      case c4 => exact rfl)))
  (k_with "enter" => ((
      refine' enter_pure (args := ⟨_, []⟩) ?k1 ?k2 ?k3 ?k5 ?kA ?kF ?kK ?k6 ?k7 ?k8 ?k9 ?kB ?_ ?c2 ?c3 ?c4 ?c5
      case kA => exact rfl
      case kF => exact rfl
      case kK => assumption
      case k1 => k_asm
      case k2 => k_asm
      case k3 => k_asm
      case k5 => k_asm
      case k6 => k_is
      case k7 => k_is
      case k8 => ktr_room
      case k9 => exact BindsTo.of_eq rfl
      case c5 => decide
      case kB => exact locs rfl
      case c2 => exact rfl
      case c3 => exact rfl
      case c4 => exact rfl)))
  (k_with "newList" => ((k_here; k_dflt (refine' newList_K ?k1 ?k2 ?_; (case k1 => k_asm); (case k2 => k_asm); k_whole); intro l₀ hl₀ Fl₀ Nl₀ ll₀; (try k_lt ll₀); (try k_sweep))))
  (k_with "newTuple" => ((k_here; k_dflt (refine' kup_newTuple ?zqk1 ?zqk2 ?_ ?zqk3; (case zqk1 => k_asm); (case zqk2 => k_asm); (case zqk3 => exact Nat.le_of_ble_eq_true rfl)); intro t₀ ht₀ Ft₀ Nt₀ lt₀; (try k_lt lt₀); (try k_sweep))))
  (k_with "call builtin:sorted" => ((k_here; k_dflt (
      refine' sorted_intD ?zqhh ?zqF ?zqN ?zqd ?zqle ?zqlo ?zqn ?_
      case zqd => with_reducible assumption
      case zqhh => exact rfl
      case zqF => k_asm
      case zqN => k_asm
      case zqle => walk_at "le"
      case zqlo => with_reducible assumption
      case zqn => with_reducible assumption
      intro D₁ h₁ tk₁ vs ns c₁ F₁ N₁ l₁ hI hP hW))))
  (k_with "call builtin:sorted" => ((k_here; k_dflt (
      refine' sorted_tupD ?zqhh ?zqF ?zqN ?zqd ?zqp ?zqle ?zqlo ?zqn ?_
      case zqd => with_reducible assumption
      case zqp => with_reducible assumption
      case zqhh => exact rfl
      case zqF => k_asm
      case zqN => k_asm
      case zqle => walk_at "leF"
      case zqlo => with_reducible assumption
      case zqn => assumption
      intro D₁ h₁ tk₁ vs qs c₁ F₁ N₁ l₁ hR hP hW))))
  (k_with "subscriptTail" => ((k_here; (with_reducible show wpAny _ _ (subscriptTail _ _ (Value.ref _) (Value.ref _)) _ _ _); k_dflt (
      refine' item_tup ?u ?d ?le ?k ?l ?_
      case d => with_reducible assumption
      case l => with_reducible assumption
      case u => ktr_units
      case le => walk_at "le"
      case k => (refine' KeyK.at (KeyK.mono ?zle ?zk); (case zk => with_reducible assumption); (case zle => walk_at "le"))))))
  (k_with "subscriptTail" => ((k_here; (with_reducible show wpAny _ _ (subscriptTail _ _ (Value.ref _) (Value.int _ _)) _ _ _); k_dflt (
      refine' item_int ?d ?le ?l ?_
      case d => with_reducible assumption
      case l => with_reducible assumption
      case le => walk_at "le"))))
  (k_with "compareOp In int ref" => ((k_here; k_dflt (
      refine' in_int ?d ?le ?lo ?_
      case d => with_reducible assumption
      case lo => with_reducible assumption
      case le => walk_at "le"))))
  (k_with "compareOp NotIn int ref" => ((k_here; k_dflt (
      refine' notin_int ?d ?le ?lo ?_
      case d => with_reducible assumption
      case lo => with_reducible assumption
      case le => walk_at "le"))))
  (k_with "truthy ref" => ((k_here; k_dflt (
      refine' truthy_row ?r ?le ?z ?_
      case r => with_reducible assumption
      case z => with_reducible assumption
      case le => walk_at "le"))))
  (k_with "call type:tuple" => ((k_here; (with_reducible show wpAny _ _ (call (Value.type _) [Value.ref _]) _ _ _); k_dflt (
      refine' tup_row ?r ?le ?_
      case r => with_reducible assumption
      case le => walk_at "le"))))
  (k_with "call type:tuple" => ((k_here; (with_reducible show wpAny _ _ (call (Value.type _) [Value.ref _]) _ _ _); k_dflt (
      refine' kde_tupleOf ?k1 ?k2 ?k3 ?k4 ?k5 ?_
      case k1 => k_asm
      case k2 => k_asm
      case k3 => exact News.isList (by k_asm) (by k_mem)
      case k4 => with_reducible assumption
      case k5 => exact rfl
      intro t₅ h₅ F₅ N₅ l₅
      (try k_lt l₅)))))
  (k_with "call ref" => ((k_here; (with_reducible show wpAny _ _ (call (Value.ref 35) _) _ _ _); k_dflt (
      refine' use_pure ?F ?N (is_default_spec ?B ?F2 ?X ?T ?k ?d ?u ?V) ?_
      case F => k_asm
      case N => k_asm
      case B => k_asm
      case F2 => k_asm
      case X => k_asm
      case T => k_asm
      case k => first | exact rfl | assumption
      case d => ktr_room
      case u => ktr_units
      case V => (refine' VarsK.mono ?zle ?zk; (case zk => with_reducible assumption); (case zle => walk_at "le"))
      intro _ _ _ _ _ _
      rintro rfl
      (try k_sweep)))))
  (k_with "call ref" => ((k_here; (with_reducible show wpAny _ _ (call (Value.ref 42) _) _ _ _); k_dflt (
      refine' use_pure ?zqF ?zqN (own_pairs_spec ?zqB ?zqF2 ?zqX ?zqT ?zqk ?zqd ?zqu ?zqK ?zqV ?zq6) ?_
      case zqF => k_asm
      case zqN => k_asm
      case zqB => k_asm
      case zqF2 => k_asm
      case zqX => k_asm
      case zqT => k_asm
      case zqk => first | exact rfl | assumption
      case zqd => ktr_room
      case zqu => ktr_units
      case zqV => with_reducible assumption
      case zqK => walk_at "le"
      case zq6 => with_reducible assumption
      intro r₂ h₂ tk₂ F₂ N₂ G₂ P₂
      obtain ⟨a₂, ws₂, ps₂, n₂, e₂, f₂, g₂, hR₂, hP₂, hW₂⟩ := P₂
      subst e₂
      have N₂' := News.grew (by k_asm) N₂ f₂ g₂))))
  (k_with "eval ListComp" => ((k_here; (with_reducible show wpAny _ _ (eval (Expr.ListComp _ [⟨_, _, [], _⟩] _ _) _) _ _ _); k_dflt (refine LCg.ListComp_U (F₀ := by k_asm) (by with_unfolding_all rfl) (by decide) (by rfl) (by decide) (by rfl) ?_))))
  (k_with "eval ListComp" => ((k_here; (with_reducible show wpAny _ _ (eval (Expr.ListComp _ [⟨_, _, [_], _⟩] _ _) _) _ _ _); k_dflt (refine LCt.ListComp_T (F₀ := by k_asm) (by with_unfolding_all rfl) (by decide) (by rfl) (by decide) (by rfl) ?_))))
  (k_with "own all" => (first | with_reducible assumption | (refine List.forall_mem_append.mpr ⟨?_, ?_⟩ <;> k_all)))
  (k_with "exec For Tuple Call cons nil" => ((k_here; k_dflt (refine For_at ?_))))
  (k_with "eval Dict nil nil" => ((k_here; k_dflt (refine' newDict_K ?zqk1 ?zqk2 (TopRead.nolimit (by k_asm)) ?_; (case zqk1 => k_asm); (case zqk2 => k_asm); k_whole); intro d₀ hd₀ o₀ Fd₀ Nd₀ ld₀ lod₀ hs₀ fs₀ hi₀ fi₀; clear hs₀ fs₀ fi₀; (try k_lt ld₀); (try k_sweep))))
  (k_with "eval ListComp" => ((k_here; (with_reducible show wpAny _ _ (eval (Expr.ListComp _ [⟨_, Expr.Subscript _ _ _, [_], _⟩] _ _) _) _ _ _); k_dflt (refine ListComp_WF (F₀ := by k_asm) (by with_unfolding_all rfl) (by decide) (by rfl) (by decide) (by rfl) ?_))))
  (k_with "setItem ref int" => ((k_here; k_dflt (
      refine' kda_set (knd := PySem.intKind _ _) ?zqF ?zqN ?zqU ?zqd (intKind_is _ _ _ _) ?zqz ?_
      case zqd => with_reducible assumption
      case zqF => k_asm
      case zqN => k_asm
      case zqU => k_updF
      case zqz => with_reducible assumption
      intro h₇ o₇ F₇ N₇ hd₇
      (try dsimp only at N₇)))))
  (k_with "subscriptTail" => ((k_here; (with_reducible show wpAny _ _ (subscriptTail _ _ (Value.ref _) (Value.ref _)) _ _ _); k_dflt (
      refine' item_tup ?u ?d ?le ?k ?l ?_
      case d => with_reducible assumption
      case l => with_reducible assumption
      case u => ktr_units
      case le => walk_at "le"
      case k => exact key2 (by k_asm) (by k_mem)))))
  (k_with "call ref" => ((k_here; (with_reducible show wpAny _ _ (call (Value.ref 50) _) _ _ _); k_dflt (
      refine' call_cls ?zk1 ?zk2 ?zk3 ?zk4 ?zk5 ?zk6 ?_
      case zk1 => k_asm
      case zk2 => k_asm
      case zk3 => k_asm
      case zk4 => k_is
      case zk5 => k_is
      case zk6 => k_is
      intro x₈ d₈ h₈ F₈ N₈ l₈ m₈
      (try k_lt l₈)
      (try k_lt2 m₈)
      (try (first | have hal₈ := allLt_ne l₈ | have hal₈ := allLt_ne l₈.2 | have hal₈ := allLt_ne l₈.2.2 | have hal₈ := allLt_ne l₈.2.2.2 | have hal₈ := allLt_ne l₈.2.2.2.2 | have hal₈ := allLt_ne l₈.2.2.2.2.2 | have hal₈ := allLt_ne l₈.2.2.2.2.2.2 | have hal₈ := allLt_ne l₈.2.2.2.2.2.2.2 | have hal₈ := allLt_ne l₈.2.2.2.2.2.2.2.2 | have hal₈ := allLt_ne l₈.2.2.2.2.2.2.2.2.2 | have hal₈ := allLt_ne l₈.2.2.2.2.2.2.2.2.2.2))
      (try k_sweep)
      refine' code_def ?zk1 ?zk2 ?zk3 ?zk4 ?zk5 ?zkA ?zkF ?zkK ?zk6 ?zk7 ?zk8 ?zk9 ?zkB ?_ ?zc2 ?zc3 ?zc4 ?zc5
      case zkA => exact rfl
      case zkF => exact rfl
      case zkK => exact rfl
      case zk1 => k_asm
      case zk2 => k_asm
      case zk3 => k_asm
      case zk4 => k_asm
      case zk5 => k_asm
      case zk6 => k_is
      case zk7 => k_is
      case zk8 => ktr_room
      case zk9 => exact BindsTo.of_eq rfl
      case zc5 => decide
      case zkB => exact locs rfl
      case zc2 => exact rfl
      case zc3 => exact rfl
      case zc4 => exact rfl
      intro g₉ L₉ h₉ FG₉ F₉ N₉ B₉ X₉ T₉
      (try dsimp only)
      (try k_lift B₉)
      (try k_fold)))))
  (k_with "le" => ((refine' le_addN ?zla ?zlb ?zlc ?zld; (case zlb => k_asm); (case zlc => k_asm); (case zla => with_reducible assumption); (case zld => walk_at "own subs"))))
  (k_with "leF" => (exact fun _ F9 N9 => le_addN (by with_reducible assumption) F9 N9 (by walk_at "own subs")))
  (k_with "call ref" => ((k_here; (with_reducible show wpAny _ _ (call (Value.ref 81) _) _ _ _); k_dflt (
      refine' use_pure ?zqF ?zqN (glyph_spec ?zqB ?zqF2 ?zqX ?zqT ?zqk ?zqd ?zqu ?zqV) ?_
      case zqF => k_asm
      case zqN => k_asm
      case zqB => k_asm
      case zqF2 => k_asm
      case zqX => k_asm
      case zqT => k_asm
      case zqk => first | exact rfl | assumption
      case zqd => ktr_room
      case zqu => ktr_units
      case zqV => (refine' CmK.mono ?zle ?zk; (case zk => with_reducible assumption); (case zle => walk_at "le"))
      intro r₃ h₃ tk₃ F₃ N₃ G₃ P₃
      obtain ⟨t₃, e₃⟩ := P₃
      subst e₃
      (try k_sweep)))))
  (k_with "call ref" => ((k_here; (with_reducible show wpAny _ _ (call (Value.ref 105) _) _ _ _); k_dflt (
      refine' use_pure ?zqF ?zqN (cut_vars_spec ?zqB ?zqF2 ?zqX ?zqT ?zqk ?zqd ?zqu ?zqK ?zqV ?zqw ?zql ?zq6 ?zq7 ?zq5) ?_
      case zqF => k_asm
      case zqN => k_asm
      case zqB => k_asm
      case zqF2 => k_asm
      case zqX => k_asm
      case zqT => k_asm
      case zqk => first | exact rfl | assumption
      case zqd => ktr_room
      case zqu => ktr_units
      case zqV => with_reducible assumption
      case zqw => with_reducible assumption
      case zqK => walk_at "le"
      case zql => with_reducible assumption
      case zq6 => with_reducible assumption
      case zq7 => with_reducible assumption
      case zq5 => assumption
      intro r₂ h₂ tk₂ F₂ N₂ G₂ P₂
      obtain ⟨v₂, dx₂, t₂₁, t₂₂, n₂, dd₂, oo₂, tl₂, ns₂, qs₂, e₂, hT₂, hlt₂, hal₂, hRw₂, hOt₂, hk₂, hkw₂, hp₂, hpw₂⟩ := P₂
      subst e₂
      have hz₂ := fresh_all hT₂ (by k_asm)
      simp only [List.forall_mem_cons] at hz₂
      have N₂' := News.grewL (by k_asm) N₂ hT₂
      dsimp only [List.cons_append] at N₂'))))
  (k_with "eval DictComp" => ((k_here; k_dflt (refine DictComp_L (F₀ := by k_asm) (by with_unfolding_all rfl) (by decide) (by rfl) (by decide) (by rfl) ?_))))
  (k_with "exec Assign cons DictComp" => ((k_here; k_dflt (refine Assign_DictComp_L (F₀ := by k_asm) (by rfl) (by with_unfolding_all rfl) (by with_unfolding_all rfl) (by decide) (by rfl) (by decide) (by rfl) (by rfl) (by rfl) ?_))))
  (k_with "exec For Name Name cons nil" => ((k_here; k_dflt (refine For_at ?_))))
  (k_with "exec For Name Call cons nil" => ((k_here; (with_reducible show wpAny _ _ (exec (Stmt.For _ (Expr.Call (Expr.Name (Str.ofString "range") _) _ _ _) _ _ _) _) _ _ _); k_dflt (refine For_R ?_))))
  (k_with "call ref" => ((k_here; (with_reducible show wpAny _ _ (call (Value.ref 119) _) _ _ _); k_dflt (
      refine' draw_at ?zqB ?zqF ?zqN ?zqX ?zqT ?zqk ?zqd ?zqu ?zqU ?zqm ?zqI ?zql ?zq0 ?zq1 ?zqg ?zqp ?zq9 ?_
      case zqF => k_asm
      case zqN => k_asm
      case zqB => k_asm
      case zqX => k_asm
      case zqT => k_asm
      case zqk => first | exact rfl | assumption
      case zqd => ktr_room
      case zqu => ktr_units
      case zqU => k_updF
      case zqm => k_mem
      case zqI => with_reducible assumption
      case zql => assumption
      case zq0 => ((try clear hQ); (repeat (rename @Ne _ _ _ => hne9; clear hne9)); omega)
      case zq1 => ((try clear hQ); (repeat (rename @Ne _ _ _ => hne9; clear hne9)); omega)
      case zqg => ((try clear hQ); (repeat (rename @Ne _ _ _ => hne9; clear hne9)); omega)
      case zqp => ((try clear hQ); (repeat (rename @Ne _ _ _ => hne9; clear hne9)); omega)
      case zq9 => ((try clear hQ); (repeat (rename @Ne _ _ _ => hne9; clear hne9)); omega)
      intro r₂ t₂ h₂ tk₂ seat₂ p1₂ great₂ p2₂ k₂ ra₂ rb₂ sa₂ sb₂ ga₂ F₂ N₂
      (try dsimp only at N₂)))))
  (k_with "eval ListComp" => ((k_here; (with_reducible show wpAny _ _ (eval (Expr.ListComp _ [⟨_, Expr.Name _ _, [_], _⟩] _ _) _) _ _ _); k_dflt (refine ListComp_WF (F₀ := by k_asm) (by with_unfolding_all rfl) (by decide) (by rfl) (by decide) (by rfl) ?_))))
  trivial
section
section
variable {prog : Program} {w : World} {A : Around} {E : Value → Shared → Prop} {s : Shared} {h₀ : Heap} {L : Addr} {m : Str → Option Value} {env : Env} {news : List (Addr × Obj)}
/-- a comprehension without a test over whatever walks -/
def SrcWU (prog : Program) (w : World) (A : Around) (h₀ : Heap) (L : Addr) (m : Str → Option Value) (env : Env) (elt : PySem.Expr) (x : Str) (scope : Scope) (cl : List (Str × Addr)) (Q : Value → Shared → Prop) (it : Value) (s₂ : Shared) : Prop :=
  ∃ I fp n P St S news, it = .ref I ∧ Walks prog w A I fp [I] n P St ∧ n ≤ sizeLine ∧ (∀ i h, St i h → ∃ o, h.get? I = some o) ∧
    (∀ i (h h' : Heap) (o : Obj) (nw : List (Addr × Obj)), St i h → h.get? I = some o → h'.get? I = some o → (∀ b o, h₀.get? b = some o → h'.get? b = some o) → News h₀ L h' nw → S nw → St i h') ∧
    St 0 s₂.heap ∧ (∀ b ∈ fp, b < s₂.heap.objs.size) ∧ Fr h₀ L s₂.heap m ∧ News h₀ L s₂.heap news ∧ L ≠ I ∧ h₀.get? I = none ∧ (∀ p ∈ news, p.1 ≠ I) ∧ S news ∧
    CompRest prog w A h₀ L m env elt x scope cl s₂ S P (FinE h₀ L m s₂ Q) n 0 [] news
theorem ListComp_WU {elt iter : PySem.Expr} {x : Str} {px : Pos} {scope : Scope} {cl : List (Str × Addr)} {pos : Pos} {Q : Value → Shared → Prop} (F₀ : Fr h₀ L s.heap m)
    (hclos : closureFor scope env = pure cl) (hcell : ∀ y ∈ scope.names, y.2 ≠ .cell) (hkind : scope.kind = .function)
    (hnames : ∀ y ∈ scope.names, y.2 = .local → scope.names.lookup y.1 = some .local) (hx : scope.names.lookup x = some .local)
    (h : wpAny (model prog w) A (eval iter env) (fun xv s₁ => wpAny (model prog w) A (pyIter xv) (SrcWU prog w A h₀ L m env elt x scope cl Q) E s₁) E s)
    (hs : ∀ x, foldedSetIterable iter env x = pure x := by intro _; rfl) :
    wpAny (model prog w) A (eval (.ListComp elt [⟨.Name x px, iter, [], 0⟩] scope pos) env) Q E s := by
  rw [eval_ListComp]
  refine wpAny_comprehension_free (use := none) rfl hs hclos hkind hnames (wpAny_mono h (fun xv s₁ h₁ => wpAny_mono h₁ (fun it s₂ h₂ => ?_) fun _ _ e => e) fun _ _ e => e)
  obtain ⟨I, fp, n, P, St, S, news, rfl, W, hsz, hIo, hSt, hst, hfp, F, N, hIL, hI₀, off, hS, R⟩ := h₂
  refine block_U W hsz hIo hSt hcell hkind hx hst hfp F N hIL hI₀ off hS R ?_
  intro D C h' tk m' ys news' F' N' o1 hn hC₀ hD₀ hCL hDL hCD offC fin
  refine ⟨m', hn, fun h'' hs'' => fin D h'' tk (F'.change hs'' hCL hC₀) (fun p hp => ?_) o1⟩
  refine ⟨hs''.extBut _ _ ?_ (N' p hp).1, (N' p hp).2⟩
  rcases List.mem_cons.mp hp with rfl | hp
  · exact Ne.symm hCD
  · exact offC p hp
theorem pyIter_baseWU {elt : PySem.Expr} {x : Str} {scope : Scope} {cl : List (Str × Addr)} {Q : Value → Shared → Prop} {r : Addr} {vs : List Value} (hh : A.handled = none) (F : Fr h₀ L s.heap m) (N : News h₀ L s.heap news) (hl : ∀ h : Heap, (∀ b o, h₀.get? b = some o → h.get? b = some o) → h.IsList r vs.toArray) (hz : vs.length ≤ sizeLine)
    (k : ∀ g, CompRest prog w A h₀ L m env elt x scope cl { s with heap := g } (fun _ => True) (fun i v => vs[i]? = some v) (FinE h₀ L m { s with heap := g } Q) vs.length 0 [] news) :
    wpAny (model prog w) A (pyIter (.ref r)) (SrcWU prog w A h₀ L m env elt x scope cl Q) E s := by
  have hT : s.heap.IsList r vs.toArray := hl _ F.keep
  have hlt : r < s.heap.objs.size := by obtain ⟨_, e, _⟩ := hT; exact Heap.lt_size e
  refine wpAny_pyIter_list hT ?_
  have hne : r ≠ s.heap.objs.size := Nat.ne_of_lt hlt
  have W := (Walks.list (prog := prog) (w := w) (A := A) hh s.heap.objs.size r hne vs.toArray)
  have k' := k (s.heap.push { cls := .type "list_iterator", data := .fields #[.ref r, .int 0 0] })
  have e1 : vs.toArray.size = vs.length := List.size_toArray
  refine ⟨_, _, vs.toArray.size, _, _, fun _ => True, news, rfl, W, by rw [e1]; exact hz, fun i h st => by obtain ⟨o, e, _⟩ := st.1; exact ⟨o, e⟩, ?_, ⟨⟨_, Heap.get?_push_size _ rfl, rfl, rfl⟩, hT.push _⟩, fun b hb => ?_,
    F.keeps fun _ _ e => Heap.get?_push_of_some _ e, N.grown fun _ _ e => Heap.get?_push_of_some _ e, Nat.ne_of_lt F.ns.lt, next_is_new F, fun p hp => Nat.ne_of_lt (Heap.lt_size (N p hp).1), trivial, ?_⟩
  · intro i h h' o nw st e e' kp _ _
    refine ⟨listiter_at st.1 e e', hl _ kp⟩
  · show b < (s.heap.push _).objs.size
    rw [Heap.size_push]
    rcases List.mem_cons.mp hb with rfl | hb
    · exact Nat.lt_succ_self _
    · rw [List.mem_singleton.mp hb]; exact Nat.lt_succ_of_lt hlt
  · rw [e1]
    simpa using k'
theorem pyIter_ledW {ct elt : PySem.Expr} {x : Str} {scope : Scope} {cl : List (Str × Addr)} {Q : Value → Shared → Prop} {r : Addr} {vs : List Value} {c : Nat} (hh : A.handled = none) (F : Fr h₀ L s.heap m) (N : News h₀ L s.heap news) (hm : (r, W.listOf vs.toArray c) ∈ news) (hz : vs.length ≤ sizeLine)
    (k : ∀ g, CompRestT prog w A h₀ L m env ct elt x scope cl { s with heap := g } (fun nx => (r, W.listOf vs.toArray c) ∈ nx) (fun i v => vs[i]? = some v) (FinE h₀ L m { s with heap := g } Q) vs.length 0 [] news) :
    wpAny (model prog w) A (pyIter (.ref r)) (SrcW prog w A h₀ L m env ct elt x scope cl Q) E s := by
  have hT : s.heap.IsList r vs.toArray := ⟨_, (N _ hm).1, rfl, _, rfl⟩
  have hlt : r < s.heap.objs.size := by obtain ⟨_, e, _⟩ := hT; exact Heap.lt_size e
  refine wpAny_pyIter_list hT ?_
  have hne : r ≠ s.heap.objs.size := Nat.ne_of_lt hlt
  have hW := (Walks.list (prog := prog) (w := w) (A := A) hh s.heap.objs.size r hne vs.toArray)
  have k' := k (s.heap.push { cls := .type "list_iterator", data := .fields #[.ref r, .int 0 0] })
  have e1 : vs.toArray.size = vs.length := List.size_toArray
  refine ⟨_, _, vs.toArray.size, _, _, fun nx => (r, W.listOf vs.toArray c) ∈ nx, news, rfl, hW, by rw [e1]; exact hz, fun i h st => by obtain ⟨o, e, _⟩ := st.1; exact ⟨o, e⟩, ?_, ⟨⟨_, Heap.get?_push_size _ rfl, rfl, rfl⟩, hT.push _⟩, fun b hb => ?_,
    F.keeps fun _ _ e => Heap.get?_push_of_some _ e, N.grown fun _ _ e => Heap.get?_push_of_some _ e, Nat.ne_of_lt F.ns.lt, next_is_new F, fun p hp => Nat.ne_of_lt (Heap.lt_size (N p hp).1), hm, ?_⟩
  · intro i h h' o nw st e e' kp hN hS
    exact ⟨listiter_at st.1 e e', ⟨_, (hN _ hS).1, rfl, _, rfl⟩⟩
  · show b < (s.heap.push _).objs.size
    rw [Heap.size_push]
    rcases List.mem_cons.mp hb with rfl | hb
    · exact Nat.lt_succ_self _
    · rw [List.mem_singleton.mp hb]; exact Nat.lt_succ_of_lt hlt
  · rw [e1]
    simpa using k'
theorem pyIter_dictWU {elt : PySem.Expr} {x : Str} {scope : Scope} {cl : List (Str × Addr)} {Q : Value → Shared → Prop} {d : Addr} {od : Obj} {kvs : List (Int × Value)}
    (hh : A.handled = none) (F : Fr h₀ L s.heap m) (N : News h₀ L s.heap news) (hd : od.IsDictOf (intKind prog w) kvs) (lo : (d == sysModules) = false) (hm : (d, od) ∈ news) (hz : kvs.length ≤ sizeLine)
    (k : ∀ g, CompRest prog w A h₀ L m env elt x scope cl { s with heap := g } (fun nx => (d, od) ∈ nx) (fun i v => ∃ k y t, kvs[i]? = some (k, y) ∧ v = .int k t) (FinE h₀ L m { s with heap := g } Q) kvs.length 0 [] news) :
    wpAny (model prog w) A (pyIter (.ref d)) (SrcWU prog w A h₀ L m env elt x scope cl Q) E s := by
  obtain ⟨es, ep, hc, hdat, hr⟩ := id hd
  have e0 : s.heap.get? d = some od := (N _ hm).1
  have hat : s.heap.DictAt (intKind prog w) d kvs ep := dictAt_of e0 hd hdat
  have hlt : d < s.heap.objs.size := Heap.lt_size e0
  refine wpAny_pyIter_dict lo hat ?_
  have hne : d ≠ s.heap.objs.size := Nat.ne_of_lt hlt
  refine ⟨_, _, _, _, _, fun nx => (d, od) ∈ nx, news, rfl, (Walks.dictKeys (knd := intKind prog w) hh s.heap.objs.size d hne kvs ep).weaken (P' := fun i v => ∃ k y t, kvs[i]? = some (k, y) ∧ v = .int k t) ?_, hz, fun i h st => ?_, ?_, ⟨⟨_, Heap.get?_push_size _ rfl, rfl, rfl⟩, hat.push _⟩, fun b hb => ?_,
    F.keeps fun _ _ e => Heap.get?_push_of_some _ e, N.grown fun _ _ e => Heap.get?_push_of_some _ e, Nat.ne_of_lt F.ns.lt, next_is_new F, fun p hp => Nat.ne_of_lt (Heap.lt_size (N p hp).1), hm, k _⟩
  · rintro i v ⟨k, y, e, hk⟩
    obtain ⟨t, rfl⟩ := Value.isInt_shape hk
    exact ⟨k, y, t, e, rfl⟩
  · obtain ⟨o, e, _⟩ := st.1; exact ⟨o, e⟩
  · intro i h h' o nw st e e' kp hN hS'
    exact ⟨keyiter_at st.1 e e', dictAt_of (hN _ hS').1 hd hdat⟩
  · show b < (s.heap.push _).objs.size
    rw [Heap.size_push]
    rcases List.mem_cons.mp hb with rfl | hb
    · exact Nat.lt_succ_self _
    · rw [List.mem_singleton.mp hb]; exact Nat.lt_succ_of_lt hlt
theorem pyIter_rangeWU {elt : PySem.Expr} {x : Str} {scope : Scope} {cl : List (Str × Addr)} {Q : Value → Shared → Prop} {r : Addr} {n : Nat} {b : Int} {t u v : Tok} (hh : A.handled = none) (F : Fr h₀ L s.heap m) (N : News h₀ L s.heap news) (hr : IsRange s.heap r 0 b 1 t u v) (hb : b = (n : Int)) (hz : n ≤ 1000)
    (k : ∀ g, CompRest prog w A h₀ L m env elt x scope cl { s with heap := g } (fun _ => True) (fun i v => ∃ t, v = .int (i : Int) t) (FinE h₀ L m { s with heap := g } Q) n 0 [] news) :
    wpAny (model prog w) A (pyIter (.ref r)) (SrcWU prog w A h₀ L m env elt x scope cl Q) E s := by
  subst hb
  refine wpAny_pyIter_range hr (small_one (by omega) (by omega) (by omega) (by omega)) ?_
  rw [rangeSize_nat, Int.sub_zero, Int.toNat_natCast]
  have W := range_walks (prog := prog) (w := w) (A := A) (I := s.heap.objs.size) hh 0 n
  refine ⟨_, _, n, _, _, fun _ => True, news, rfl, W.weaken (P' := fun i v => ∃ t, v = .int (i : Int) t) ?_, by rw [sizeLine_eq]; omega, fun i h st => ⟨_, st⟩, range_st, by simpa using Heap.get?_push_size _ rfl, fun b hb => ?_,
    F.keeps fun _ _ e => Heap.get?_push_of_some _ e, N.grown fun _ _ e => Heap.get?_push_of_some _ e, Nat.ne_of_lt F.ns.lt, next_is_new F, fun p hp => Nat.ne_of_lt (Heap.lt_size (N p hp).1), trivial, k _⟩
  · rintro i v ⟨t, rfl⟩
    exact ⟨t, by rw [Int.zero_add]⟩
  · show b < (s.heap.push _).objs.size
    rw [Heap.size_push, List.mem_singleton.mp hb]
    exact Nat.lt_succ_self _
end
section
variable {prog : Program} {w : World} {A₀ : Around} {E : Value → Shared → Prop} {s : Shared} {base h₀ : Heap} {L : Addr} {m : Str → Option Value}
  {p : Program} {loose : List Str} {mean : ExcName → Option Value} {mg mb : Str → Option Value} {dp un : Nat} {gd : Option (List Code)} {cn : Str} {cs : Scope} {ca : Addr} {ccd : Value} {cl : List (Str × Addr)} {outer : List Env}
inductive CutTP (prog : Program) (w : World) (κ : Kn) (wkvs : List (Int × Value)) (D : List (Int × List Int)) (O : List ((Int × Int) × Int)) (s : Shared) (r : Value) (h' : Heap) : Prop where
  | mk (v' : Addr) (tl : List (Addr × Obj)) (ns : List Int) (qs : List (Int × Int))
      (h0 : r = .ref v')
      (h1 : (∀ q ∈ tl, h'.get? q.1 = some q.2 ∧ s.heap.get? q.1 = none))
      (h2 : VarsK prog w (κ.add tl) v' (cutD (Wn wkvs) D ns) (cutO (Wn wkvs) O qs))
      (h3 : ns.Perm (D.map (·.1)))
      (h4 : ns.Pairwise (· ≤ ·))
      (h5 : qs.Perm (O.map (·.1)))
      (h6 : qs.Pairwise (fun a b => ltP a b = true)) : CutTP prog w κ wkvs D O s r h'
theorem cut_vars_T {v wd : Addr} {wkvs : List (Int × Value)} {D : List (Int × List Int)} {O : List ((Int × Int) × Int)} {κ : Kn} 
    (B : Below A₀ base outer h₀) (F : Fr h₀ L s.heap m) (X : (Mine.hd.heap_39 w.params).In h₀) (T : Top p loose mean mg mb h₀) (hk : cs.kind = .function)
    (hd : dp + 20 < recursionLimit) (hu : un + 240 < cLine) (hκ : Kn.le κ (kn s.heap)) (V : VarsK prog w κ v D O) (hw : DictK prog w κ wd wkvs) (lw : (wd == sysModules) = false) (h6 : O.length ≤ 6) (h7 : D.length ≤ 3) (h5 : ∀ d ∈ D, d.2.length ≤ 8) :
    wpAny (model prog w) (ktrTop dp un gd cn cs L ca ccd cl outer) (call (.ref 105) [.ref v, .ref wd])
      (Pure1 s fun r h' => CutTP prog w κ wkvs D O s r h') E s := by
  refine wpAny_mono (cut_vars_spec B F X T hk hd hu hκ V hw lw h6 h7 h5) (fun r s' hr => ?_) fun _ _ e => e
  obtain ⟨K, v', dx', t1, t2, n, dd', oo', tl, ns, qs, rfl, hT, -, -, hR, hO, a, b, c, d⟩ := hr
  exact ⟨K, v', _, ns, qs, rfl, hT, ⟨dd', oo', dx', t1, t2, n, .inr (.head _), .inr (.tail _ (.head _)), hR.mono (Kn.add_mono (fun _ _ x => x) fun _ x => .tail _ (.tail _ x)), hO.mono (Kn.add_mono (fun _ _ x => x) fun _ x => .tail _ (.tail _ x))⟩, a, b, c, d⟩
theorem noK_up {T U : List (Addr × Obj)} (h : ∀ p ∈ T, p ∈ U) : Kn.le (noK.add T) (noK.add U) := Kn.add_mono (fun _ _ x => x) h
theorem noK_two {T tl : List (Addr × Obj)} : Kn.le ((noK.add T).add tl) (noK.add (tl ++ T)) := fun a o x => x.elim (fun y => y.elim (fun z => z.elim) fun m => .inr (List.mem_append_right _ m)) fun m => .inr (List.mem_append_left _ m)
theorem noK_at {h₀ h : Heap} {L : Addr} {T news : List (Addr × Obj)} (N : News h₀ L h news) (hs : ∀ p ∈ T, p ∈ news) : Kn.le (noK.add T) (kn h) := Kn.add_le noK_le fun p hp => (N p (hs p hp)).1
end
theorem News.absorb {h₀ h : Heap} {L : Addr} {A T tl : List (Addr × Obj)} (N : News h₀ L h (tl ++ (A ++ T))) : News h₀ L h (A ++ (tl ++ T)) := fun p hp => N p (by simp only [List.mem_append] at hp ⊢; grind)
theorem dict_copyN {prog : Program} {w : World} {A : Around} {E : Value → Shared → Prop} {s : Shared} {h₀ : Heap} {L : Addr} {m : Str → Option Value} {news : List (Addr × Obj)} {src : Addr} {osrc : Obj} {kvs : List (Int × Value)} {Q : Value → Shared → Prop} (F : Fr h₀ L s.heap m) (N : News h₀ L s.heap news) (hbig : sysModules < h₀.objs.size)
    (hm : (src, osrc) ∈ news) (hd : osrc.IsDictOf (intKind prog w) kvs) (lo : (src == sysModules) = false) (hz : kvs.length ≤ sizeLine)
    (k : ∀ d o h', Fr h₀ L h' m → News h₀ L h' ((d, o) :: news) → (∀ p ∈ news, p.1 < d) → (d == sysModules) = false → o.IsDictOf (intKind prog w) kvs → Q (.ref d) { s with heap := h' }) :
    wpAny (model prog w) A (call (.type "dict") [.ref src]) Q E s := by
  refine kt_call_dict lo (Heap.dictOf_iff.mpr ⟨osrc, (N _ hm).1, hd⟩) hz fun h' hm' hs => ?_
  obtain ⟨o', ho', hd'⟩ := Heap.dictOf_iff.mp hm'
  have N1 := News.push F N { cls := .type "dict", data := .dict #[] }
  exact k _ o' h' ((F.push _).change hs (N1 _ (.head _)).2.1 (N1.fresh (.head _))) (N1.setHead N.apart hs ho') (fun p hp => Heap.lt_size (N p hp).1) (F.notModules hbig) hd'
structure LawK (prog : Program) (w : World) (T : List (Addr × Obj)) (v : Addr) (D : List (Int × List Int)) (O : List ((Int × Int) × Int)) (x : Addr) (C1 : List (Int × Int)) (r : Value) (rows : List (Int × List Int)) (pairs : List ((Int × Int) × Int))
    (dW : Addr) (oW : Obj) (Wk : List (Int × Value)) (dN : Addr) (oN : Obj) (Nk : List (Int × Value)) (Nm : List (Int × Int)) (d6 : Addr) (o6 : Obj) : Prop where
  V : VarsK prog w (noK.add T) v D O
  VC : CmK prog w (noK.add T) x C1 (.ref v)
  To : ToldK prog w (noK.add T) r rows pairs
  mW : (dW, oW) ∈ T
  hW : oW.IsDictOf (intKind prog w) Wk
  lW : (dW == sysModules) = false
  mN : (dN, oN) ∈ T
  hN : oN.IsDictOf (intKind prog w) Nk
  lN : (dN == sysModules) = false
  RN : R2 (fun a b => a.1 = b.1 ∧ IntV a.2 b.2) Nk Nm
  m6 : (d6, o6) ∈ T
theorem LawK.up {prog w T U v D O x C1 r rows pairs dW oW Wk dN oN Nk Nm d6 o6} (h : LawK prog w T v D O x C1 r rows pairs dW oW Wk dN oN Nk Nm d6 o6) (hs : ∀ p ∈ T, p ∈ U) : LawK prog w U v D O x C1 r rows pairs dW oW Wk dN oN Nk Nm d6 o6 :=
  ⟨h.V.mono (noK_up hs), h.VC.mono (noK_up hs), h.To.mono (noK_up hs), hs _ h.mW, h.hW, h.lW, hs _ h.mN, h.hN, h.lN, h.RN, hs _ h.m6⟩
theorem LawK.DW {prog w T v D O x C1 r rows pairs dW oW Wk dN oN Nk Nm d6 o6} (h : LawK prog w T v D O x C1 r rows pairs dW oW Wk dN oN Nk Nm d6 o6) : DictK prog w (noK.add T) dW Wk := ⟨oW, .inr h.mW, h.hW⟩
theorem LawK.VN {prog w T v D O x C1 r rows pairs dW oW Wk dN oN Nk Nm d6 o6} (h : LawK prog w T v D O x C1 r rows pairs dW oW Wk dN oN Nk Nm d6 o6) : IntsK prog w (noK.add T) dN Nm := ⟨h.lN, Nk, ⟨oN, .inr h.mN, h.hN⟩, h.RN⟩
def nmOf (Nm : List (Int × Int)) (g : Int) : Int := (lk Nm g).getD 0
section
variable {prog : Program} {w : World} {A : Around} {E : Value → Shared → Prop} {s : Shared} {κ : Kn}
theorem item_ints {value slice : PySem.Expr} {d : Addr} {Nm : List (Int × Int)} {k : Int} {t : Tok} {Q : Value → Shared → Prop} (V : IntsK prog w κ d Nm) (le : Kn.le κ (kn s.heap)) (hn : ∃ n, lk Nm k = some n) (h : ∀ t tk, Q (.int (nmOf Nm k) t) { s with toks := tk })
    (hs : subscripted slice false (.ref d) (.int k t) = operate [.ref d, .int k t] (getItem (.ref d) (.int k t)) := by with_unfolding_all rfl) (hg : ∀ r, letTemporaryGo value (.ref d) r = pure () := by intro _; with_unfolding_all rfl) :
    wpAny (model prog w) A (subscriptTail value slice (.ref d) (.int k t)) Q E s := by
  obtain ⟨lo, kvs, hD, R⟩ := V
  obtain ⟨n, hn⟩ := hn
  rcases R.look k with ⟨-, e2⟩ | ⟨v, b, e1, e2, u, rfl⟩
  · rw [hn] at e2; cases e2
  · refine item_int hD le e1 ?_ hs hg
    have : nmOf Nm k = b := by rw [nmOf, e2]; rfl
    rw [← this]; exact h _ _
theorem get_ints {d : Addr} {kvs : List (Int × Value)} {C : List (Int × Int)} {k : Int} {t u : Tok} {Q : Value → Shared → Prop} (hd : DictK prog w κ d kvs) (R : R2 (fun a b => a.1 = b.1 ∧ IntV a.2 b.2) kvs C) (le : Kn.le κ (kn s.heap)) (lo : (d == sysModules) = false)
    (h : ∀ t tk, Q (.int (gl C k) t) { s with toks := tk }) : wpAny (model prog w) A (call (.builtin "dict.get") [.ref d, .int k t, .int 0 u]) Q E s := by
  refine get2_int hd le lo ?_
  rcases R.look k with ⟨e1, e2⟩ | ⟨v, b, e1, e2, u, rfl⟩
  · have : gl C k = 0 := by rw [gl, e2]; rfl
    rw [e1, ← this]; exact h _ _
  · have : gl C k = b := by rw [gl, e2]; rfl
    rw [e1, ← this]; exact h _ _
theorem ne_fd {a b : Value} {f : Fd} {Q : Value → Shared → Prop} (ha : FdV a f) (hb : FdV b f) (hU : A.units + 64 < cLine) (h : Q (.bool false) s) : wpAny (model prog w) A (compareOp .NotEq a b) Q E s := by
  cases f with
  | dflt =>
    obtain ⟨t, rfl⟩ := ha
    obtain ⟨u, rfl⟩ := hb
    exact ne_at (κ := fun _ _ => False) (κ' := fun _ _ => False) (d := .str (Str.ofString "default")) (n := 1) (fun h _ => ⟨_, Reads.str _ _⟩) (fun h _ => ⟨_, Reads.str _ _⟩) (fun _ _ x => x.elim) (fun _ _ x => x.elim) ⟨by decide +kernel, by simp [PyData.depth]⟩ (by decide) hU h
  | no =>
    cases ha; cases hb
    exact ne_at (κ := fun _ _ => False) (κ' := fun _ _ => False) (d := .none) (n := 1) (fun h _ => ⟨_, Reads.none⟩) (fun h _ => ⟨_, Reads.none⟩) (fun _ _ x => x.elim) (fun _ _ x => x.elim) ⟨rfl, by simp [PyData.depth]⟩ (by decide) hU h
  | own g =>
    obtain ⟨t, rfl⟩ := ha
    obtain ⟨u, rfl⟩ := hb
    exact ne_at (κ := fun _ _ => False) (κ' := fun _ _ => False) (d := .int g) (n := 1) (fun h _ => ⟨_, Reads.int _ _⟩) (fun h _ => ⟨_, Reads.int _ _⟩) (fun _ _ x => x.elim) (fun _ _ x => x.elim) (lays_int g) (by decide) hU h
end
theorem News.tidy {h₀ h : Heap} {L : Addr} {A U T X Y : List (Addr × Obj)} (N : News h₀ L h (X ++ (A ++ (U ++ T)))) (hY : ∀ p ∈ Y, p ∈ X) : News h₀ L h (A ++ (Y ++ T)) := fun p hp => N p (by
  simp only [List.mem_append] at hp ⊢
  rcases hp with hp | hp | hp
  · exact .inr (.inl hp)
  · exact .inl (hY _ hp)
  · exact .inr (.inr (.inr hp)))
theorem News.tidy0 {h₀ h : Heap} {L : Addr} {A T X Y : List (Addr × Obj)} (N : News h₀ L h (X ++ (A ++ T))) (hY : ∀ p ∈ Y, p ∈ X) : News h₀ L h (A ++ (Y ++ T)) := fun p hp => N p (by
  simp only [List.mem_append] at hp ⊢
  rcases hp with hp | hp | hp
  · exact .inr (.inl hp)
  · exact .inl (hY _ hp)
  · exact .inr (.inr hp))
theorem ne_gb {prog : Program} {w : World} {A : Around} {E : Value → Shared → Prop} {s : Shared} {a a' : Addr} {g g' : Int} {b b' : Bool} {t t' : Tok} {n n' : Nat} {Q : Value → Shared → Prop} (h1 : s.heap.get? a = some { cls := .type "tuple", data := .seq #[.int g t, .bool b] n }) (h2 : s.heap.get? a' = some { cls := .type "tuple", data := .seq #[.int g' t', .bool b'] n' })
    (hU : A.units + 64 < cLine) (hg : g = g') (hb : b = b') (h : Q (.bool false) s) : wpAny (model prog w) A (compareOp .NotEq (.ref a) (.ref a')) Q E s := by
  subst hg hb
  have l1 : Lays 2 (.tuple [.int g, .bool b]) := lays_two (lays_int g) ⟨rfl, by simp [PyData.depth]⟩
  exact ne_at (κ := kn s.heap) (κ' := kn s.heap) (d := .tuple [.int g, .bool b]) (n := 2)
    (fun h le => ⟨_, reads_tuple_at (le _ _ h1) rfl rfl (ReadsAll.cons (as := []) (.int _ _) (ReadsAll.cons (as := []) (.bool _) ReadsAll.nil))⟩)
    (fun h le => ⟨_, reads_tuple_at (le _ _ h2) rfl rfl (ReadsAll.cons (as := []) (.int _ _) (ReadsAll.cons (as := []) (.bool _) ReadsAll.nil))⟩) (fun _ _ x => x) (fun _ _ x => x) l1 (by decide) hU h
theorem ne_lists {prog : Program} {w : World} {A : Around} {E : Value → Shared → Prop} {s : Shared} {a a' : Addr} {n n' : Nat} {Q : Value → Shared → Prop} (h1 : s.heap.get? a = some { cls := .type "list", data := .seq #[] n }) (h2 : s.heap.get? a' = some { cls := .type "list", data := .seq #[] n' })
    (hU : A.units + 64 < cLine) (h : Q (.bool false) s) : wpAny (model prog w) A (compareOp .NotEq (.ref a) (.ref a')) Q E s :=
  ne_at (κ := kn s.heap) (κ' := kn s.heap) (d := .list []) (n := 2) (fun h le => ⟨_, reads_list_at (le _ _ h1) rfl rfl ReadsAll.nil⟩) (fun h le => ⟨_, reads_list_at (le _ _ h2) rfl rfl ReadsAll.nil⟩) (fun _ _ x => x) (fun _ _ x => x)
    ⟨rfl, by simp [PyData.depth, PyData.depthAll]⟩ (by decide) hU h


end
section
theorem perm_sorted {α : Type} {r : α → α → Prop} (anti : ∀ a b, r a b → r b a → a = b) : ∀ {l₁ l₂ : List α}, l₁.Perm l₂ → l₁.Pairwise r → l₂.Pairwise r → l₁ = l₂ := by
  intro l₁
  induction l₁ with
  | nil => intro l₂ h _ _; exact (List.nil_perm.mp h).symm
  | cons a l₁ ih =>
    intro l₂ h h1 h2
    cases l₂ with
    | nil => exact absurd h.length_eq (by simp)
    | cons b l₂ =>
      have e : a = b := by
        by_cases hab : a = b
        · exact hab
        have ha : a ∈ l₂ := by
          have := h.mem_iff.mp (List.mem_cons_self (a := a))
          rcases List.mem_cons.mp this with x | x
          · exact absurd x hab
          · exact x
        have hb : b ∈ l₁ := by
          have := h.mem_iff.mpr (List.mem_cons_self (a := b))
          rcases List.mem_cons.mp this with x | x
          · exact absurd x.symm hab
          · exact x
        exact anti _ _ ((List.pairwise_cons.mp h1).1 b hb) ((List.pairwise_cons.mp h2).1 a ha)
      subst e
      rw [ih (List.perm_cons a |>.mp h) (List.pairwise_cons.mp h1).2 (List.pairwise_cons.mp h2).2]
theorem ints_sorted {l₁ l₂ : List Int} (h : l₁.Perm l₂) (h1 : l₁.Pairwise (· ≤ ·)) (h2 : l₂.Pairwise (· ≤ ·)) : l₁ = l₂ := perm_sorted (fun _ _ => Int.le_antisymm) h h1 h2
theorem pairs_sorted {l₁ l₂ : List (Int × Int)} (h : l₁.Perm l₂) (h1 : l₁.Pairwise fun a b => ltP a b = true) (h2 : l₂.Pairwise fun a b => ltP a b = true) : l₁ = l₂ := perm_sorted (fun _ _ x y => by rw [ltP_asymm x] at y; cases y) h h1 h2
section
variable {κ β : Type} [DecidableEq κ]
theorem lk_cons (x : κ × β) (l : List (κ × β)) (k : κ) : lk (x :: l) k = if x.1 = k then some x.2 else lk l k := by
  unfold lk
  rw [List.find?_cons]
  by_cases h : x.1 = k <;> simp [h]
theorem lk_none {l : List (κ × β)} {k : κ} : lk l k = none ↔ k ∉ l.map (·.1) := by
  induction l with
  | nil => simp [lk]
  | cons x l ih =>
    rw [lk_cons]
    by_cases h : x.1 = k
    · simp [h]
    · rw [if_neg h, ih]
      simp only [List.map_cons, List.mem_cons, not_or]
      exact ⟨fun q => ⟨fun e => h e.symm, q⟩, fun q => q.2⟩
/-- look up in a list made from keys -/
theorem lk_fm (f : κ → Option (κ × β)) (hf : ∀ k x, f k = some x → x.1 = k) : ∀ (ks : List κ) (k : κ), lk (ks.filterMap f) k = if k ∈ ks then (f k).map (·.2) else none
  | [], k => by simp [lk]
  | a :: ks, k => by
    rw [List.filterMap_cons]
    cases e : f a with
    | none =>
      dsimp only
      rw [lk_fm f hf ks k]
      by_cases h : k = a
      · subst h; simp [e]
      · simp [h]
    | some x =>
      dsimp only
      rw [lk_cons, lk_fm f hf ks k, hf a x e]
      by_cases h : a = k
      · subst h; simp [e]
      · have : ¬ k = a := fun q => h q.symm
        simp [h, this]
theorem lk_map (g : κ → β) (ks : List κ) (k : κ) : lk (ks.map fun q => (q, g q)) k = if k ∈ ks then some (g k) else none := by
  have := lk_fm (fun q => some (q, g q)) (fun k x h => by cases h; rfl) ks k
  rw [List.filterMap_eq_map'] at this
  simpa using this
theorem lk_map_pos (g : κ → β) {ks : List κ} {k : κ} (h : k ∈ ks) : lk (ks.map fun q => (q, g q)) k = some (g k) := by rw [lk_map, if_pos h]
theorem lk_map_neg (g : κ → β) {ks : List κ} {k : κ} (h : k ∉ ks) : lk (ks.map fun q => (q, g q)) k = none := by rw [lk_map, if_neg h]
theorem lk_of_mem {l : List (κ × β)} (hn : (l.map (·.1)).Nodup) {x : κ × β} (hx : x ∈ l) : lk l x.1 = some x.2 := by
  induction l with
  | nil => cases hx
  | cons y l ih =>
    rw [lk_cons]
    rw [List.map_cons, List.nodup_cons] at hn
    rcases List.mem_cons.mp hx with rfl | hx
    · simp
    · have : y.1 ≠ x.1 := fun e => hn.1 (e ▸ List.mem_map.mpr ⟨x, hx, rfl⟩)
      rw [if_neg this, ih hn.2 hx]
end
section
variable {W : Int → Bool} {D : List (Int × List Int)} {O : List ((Int × Int) × Int)} {ns : List Int} {qs : List (Int × Int)}
theorem cutRow_key {k : Int} {x : Int × List Int} (h : cutRow W D k = some x) : x.1 = k := by
  unfold cutRow at h; split at h
  · cases h; rfl
  · cases h
theorem isDef_cut (hns : ns.Perm (D.map (·.1))) (sel code : Int) : isDef (cutD W D ns) sel code = (W sel && W code && isDef D sel code) := by
  have e : lk (cutD W D ns) sel = if sel ∈ ns then (cutRow W D sel).map (·.2) else none := lk_fm _ (fun k x h => cutRow_key h) ns sel
  unfold isDef
  rw [e]
  by_cases hs : sel ∈ ns
  · rw [if_pos hs]
    have hk : sel ∈ D.map (·.1) := hns.mem_iff.mp hs
    cases hl : lk D sel with
    | none => exact absurd hk (lk_none.mp hl)
    | some row =>
      unfold cutRow
      simp only [hl, Option.getD_some]
      by_cases hw : W sel = true
      · by_cases hr : row.filter W = []
        · have : (row.any fun x => x == code) = true → W code = true → False := by
            intro h1 h2
            obtain ⟨x, hx, hxe⟩ := List.any_eq_true.mp h1
            have hxe : x = code := by simpa using hxe
            subst hxe
            have : x ∈ row.filter W := List.mem_filter.mpr ⟨hx, h2⟩
            rw [hr] at this; cases this
          simp only [hw, hr, ne_eq, not_true_eq_false, and_false, if_false, Option.map_none, Bool.true_and]
          cases h1 : W code <;> cases h2 : (row.any fun x => x == code) <;> simp_all
        · simp only [hw, hr, ne_eq, not_false_eq_true, and_self, if_true, Option.map_some, Bool.true_and]
          rw [List.any_filter]
          induction row with
          | nil => simp at hr
          | cons a row _ =>
            rw [Bool.eq_iff_iff]
            simp only [List.any_eq_true, Bool.and_eq_true, beq_iff_eq]
            constructor
            · rintro ⟨x, hx, h1, rfl⟩; exact ⟨h1, x, hx, rfl⟩
            · rintro ⟨h1, x, hx, rfl⟩; exact ⟨x, hx, h1, rfl⟩
      · simp [hw]
  · rw [if_neg hs]
    have hk : sel ∉ D.map (·.1) := fun h => hs (hns.mem_iff.mpr h)
    rw [lk_none.mpr hk]
    simp
theorem own_cut (hqs : qs.Perm (O.map (·.1))) (q : Int × Int) : (lk (cutO W O qs) q).getD 0 = if (W q.1 && W q.2) = true then (lk O q).getD 0 else 0 := by
  have e1 : ∀ h : q ∈ qs.filter (fun q => W q.1 && W q.2), lk (cutO W O qs) q = some ((lk O q).getD 0) := fun h => lk_map_pos (fun q => (lk O q).getD 0) h
  have e2 : ∀ h : q ∉ qs.filter (fun q => W q.1 && W q.2), lk (cutO W O qs) q = none := fun h => lk_map_neg (fun q => (lk O q).getD 0) h
  by_cases hw : (W q.1 && W q.2) = true
  · rw [if_pos hw]
    by_cases hm : q ∈ qs
    · rw [e1 (List.mem_filter.mpr ⟨hm, hw⟩)]; rfl
    · rw [e2 (fun h => hm (List.mem_filter.mp h).1), lk_none.mpr (fun h => hm (hqs.mem_iff.mpr h))]
  · rw [if_neg hw, e2 (fun h => hw (List.mem_filter.mp h).2)]; rfl
theorem fnd_cut (hns : ns.Perm (D.map (·.1))) (hqs : qs.Perm (O.map (·.1))) (sel code : Int) : fnd (cutD W D ns) (cutO W O qs) sel code = if (W sel && W code) = true then fnd D O sel code else .no := by
  unfold fnd
  rw [isDef_cut hns, own_cut hqs]
  by_cases hw : (W sel && W code) = true
  · simp [hw]
  · simp only [Bool.not_eq_true] at hw
    simp [hw]
theorem gl_kept {C Nm : List (Int × Int)} {ns3 : List Int} (k : Int) : gl ((keptOf C Nm ns3).filter fun x => x.2 != 0) k = if k ∈ ns3 then (if gl C k ≠ 0 then (lk Nm (gl C k)).getD 0 else 0) else 0 := by
  have e : (keptOf C Nm ns3).filter (fun x => x.2 != 0) = ns3.filterMap (fun k => (keptAt C Nm k).filter fun x => x.2 != 0) := by
    unfold keptOf; rw [List.filter_filterMap]
  unfold gl
  rw [e, lk_fm _ (fun k x h => ?_)]
  · by_cases hm : k ∈ ns3
    · rw [if_pos hm, if_pos hm]
      unfold keptAt gl
      by_cases h0 : (lk C k).getD 0 ≠ 0
      · rw [if_pos h0, if_pos h0]
        by_cases h1 : (lk Nm ((lk C k).getD 0)).getD 0 = 0
        · simp [Option.filter, h1]
        · simp [Option.filter, h1]
      · rw [if_neg h0, if_neg h0]; rfl
    · rw [if_neg hm, if_neg hm]; rfl
  · have h' := (Option.filter_eq_some_iff.mp h).1
    unfold keptAt at h'
    split at h'
    · cases h'; rfl
    · cases h'
theorem gl_filter {C : List (Int × Int)} (hn : (C.map (·.1)).Nodup) (k : Int) : gl (C.filter fun x => x.2 != 0) k = gl C k := by
  induction C with
  | nil => rfl
  | cons x C ih =>
    rw [List.map_cons, List.nodup_cons] at hn
    have ih := ih hn.2
    unfold gl at ih ⊢
    rw [List.filter_cons]
    by_cases h0 : x.2 = 0
    · rw [if_neg (by simp [h0]), ih, lk_cons]
      by_cases hk : x.1 = k
      · rw [if_pos hk, lk_none.mpr (hk ▸ hn.1)]; simp [h0]
      · rw [if_neg hk]
    · rw [if_pos (by simp [h0]), lk_cons, lk_cons]
      by_cases hk : x.1 = k
      · rw [if_pos hk, if_pos hk]
      · rw [if_neg hk, if_neg hk, ih]
theorem own_renum {Nm : List (Int × Int)} {qs2 : List (Int × Int)} (h0 : (lk Nm 0).getD 0 = 0) (hq : qs2.Perm (O.map (·.1))) (q : Int × Int) : (lk (renum O Nm qs2) q).getD 0 = (lk Nm ((lk O q).getD 0)).getD 0 := by
  by_cases hm : q ∈ qs2
  · have e1 : lk (renum O Nm qs2) q = some ((lk Nm ((lk O q).getD 0)).getD 0) := lk_map_pos (fun q => (lk Nm ((lk O q).getD 0)).getD 0) hm
    rw [e1]; rfl
  · have e2 : lk (renum O Nm qs2) q = none := lk_map_neg (fun q => (lk Nm ((lk O q).getD 0)).getD 0) hm
    rw [e2, lk_none.mpr (fun h => hm (hq.mem_iff.mpr h))]
    exact h0.symm
end


end
section
section
variable {κ β : Type} [DecidableEq κ]
theorem fm_self {f : κ → Option (κ × β)} : ∀ {l : List (κ × β)}, (∀ x ∈ l, f x.1 = some x) → (l.map (·.1)).filterMap f = l
  | [], _ => rfl
  | x :: l, h => by rw [List.map_cons, List.filterMap_cons, h x (.head _)]; exact congrArg _ (fm_self fun y hy => h y (.tail _ hy))
theorem map_self {g : κ → β} : ∀ {l : List (κ × β)}, (∀ x ∈ l, g x.1 = x.2) → (l.map (·.1)).map (fun q => (q, g q)) = l
  | [], _ => rfl
  | x :: l, h => by rw [List.map_cons, List.map_cons, h x (.head _)]; exact congrArg _ (map_self fun y hy => h y (.tail _ hy))
theorem fm_keys {f : κ → Option (κ × β)} (hf : ∀ k x, f k = some x → x.1 = k) : ∀ (ks : List κ), ((ks.filterMap f).map (·.1)).Sublist ks
  | [] => .slnil
  | k :: ks => by
    rw [List.filterMap_cons]
    cases e : f k with
    | none => exact (fm_keys hf ks).cons _
    | some x => dsimp only; rw [List.map_cons, hf k x e]; exact (fm_keys hf ks).cons_cons _
theorem pairsOfQ_keys (O : List ((Int × Int) × Int)) (ps : List (Int × Int)) : (pairsOfQ O ps).map (·.1) = ps := by
  unfold pairsOfQ; rw [List.map_map]; exact List.map_id' ps
end
section
variable {W : Int → Bool} {D : List (Int × List Int)} {O : List ((Int × Int) × Int)} {ns : List Int} {qs : List (Int × Int)}
theorem cutD_sub : ((cutD W D ns).map (·.1)).Sublist ns := fm_keys (fun k x h => cutRow_key h) ns
theorem cutO_sub : ((cutO W O qs).map (·.1)).Sublist qs := by unfold cutO; rw [pairsOfQ_keys]; exact List.filter_sublist
theorem cutD_mem {x : Int × List Int} (hx : x ∈ cutD W D ns) : W x.1 = true ∧ x.2.filter W = x.2 ∧ x.2 ≠ [] := by
  obtain ⟨k, -, e⟩ := List.mem_filterMap.mp hx
  unfold cutRow at e
  split at e
  · rename_i h
    cases e
    exact ⟨h.1, by rw [List.filter_filter]; simp, h.2⟩
  · cases e
theorem cutD_row {x : Int × List Int} (hx : x ∈ cutD W D ns) (h8 : ∀ d ∈ D, d.2.length ≤ 8) : x.2.length ≤ 8 := by
  obtain ⟨k, -, e⟩ := List.mem_filterMap.mp hx
  unfold cutRow at e
  split at e
  · cases e
    refine Nat.le_trans (List.length_filter_le _ _) ?_
    cases hl : lk D k with
    | none => simp
    | some row => exact h8 _ (lk_some_mem hl)
  · cases e
theorem cutD_self {X : List (Int × List Int)} (hn : (X.map (·.1)).Nodup) (hx : ∀ x ∈ X, W x.1 = true ∧ x.2.filter W = x.2 ∧ x.2 ≠ []) : cutD W X (X.map (·.1)) = X := by
  refine fm_self fun x hm => ?_
  obtain ⟨a, b, c⟩ := hx x hm
  unfold cutRow
  rw [lk_of_mem hn hm]
  simp only [Option.getD_some]
  rw [b, if_pos ⟨a, c⟩]
theorem cutD_twice {ns2 : List Int} (hw : ns.Pairwise (· ≤ ·)) (hn : ns.Nodup) (hp : ns2.Perm ((cutD W D ns).map (·.1))) (hw2 : ns2.Pairwise (· ≤ ·)) : cutD W (cutD W D ns) ns2 = cutD W D ns := by
  have e : ns2 = (cutD W D ns).map (·.1) := ints_sorted hp hw2 (hw.sublist cutD_sub)
  rw [e]
  exact cutD_self (hn.sublist cutD_sub) fun x hx => cutD_mem hx
theorem cutO_self {X : List ((Int × Int) × Int)} (hn : (X.map (·.1)).Nodup) (hx : ∀ x ∈ X, (W x.1.1 && W x.1.2) = true) : cutO W X (X.map (·.1)) = X := by
  unfold cutO
  rw [List.filter_eq_self.mpr]
  · refine map_self fun x hm => ?_
    rw [lk_of_mem hn hm]; rfl
  · intro q hq
    obtain ⟨x, hm, rfl⟩ := List.mem_map.mp hq
    exact hx x hm
theorem cutO_W {x : (Int × Int) × Int} (hx : x ∈ cutO W O qs) : (W x.1.1 && W x.1.2) = true := by
  unfold cutO pairsOfQ at hx
  obtain ⟨q, hq, rfl⟩ := List.mem_map.mp hx
  exact (List.mem_filter.mp hq).2
theorem cutO_twice {qs2 : List (Int × Int)} (hw : qs.Pairwise fun a b => ltP a b = true) (hp : qs2.Perm ((cutO W O qs).map (·.1))) (hw2 : qs2.Pairwise fun a b => ltP a b = true) : cutO W (cutO W O qs) qs2 = cutO W O qs := by
  have e : qs2 = (cutO W O qs).map (·.1) := pairs_sorted hp hw2 (hw.sublist cutO_sub)
  rw [e]
  exact cutO_self ((ltP_nodup hw).sublist cutO_sub) fun x hx => cutO_W hx
theorem renum_keys (O : List ((Int × Int) × Int)) (Nm : List (Int × Int)) (qs : List (Int × Int)) : (renum O Nm qs).map (·.1) = qs := by
  unfold renum; rw [List.map_map]; exact List.map_id' qs
theorem renum_self {X : List ((Int × Int) × Int)} {Nm : List (Int × Int)} (hn : (X.map (·.1)).Nodup) (hx : ∀ x ∈ X, (lk Nm x.2).getD 0 = x.2) : renum X Nm (X.map (·.1)) = X := by
  refine map_self fun x hm => ?_
  rw [lk_of_mem hn hm]
  exact hx x hm
/-- the second cut of a cut and renumbered dict changes nothing -/
theorem renum_twice {Nm S : List (Int × Int)} {qs2 qs3 qs4 : List (Int × Int)} (hw2 : qs2.Pairwise fun a b => ltP a b = true) (hW : ∀ q ∈ qs2, (W q.1 && W q.2) = true)
    (h3 : qs3.Perm ((renum O Nm qs2).map (·.1))) (hw3 : qs3.Pairwise fun a b => ltP a b = true) (h4 : qs4.Perm ((cutO W (renum O Nm qs2) qs3).map (·.1))) (hw4 : qs4.Pairwise fun a b => ltP a b = true)
    (hS : ∀ x ∈ renum O Nm qs2, (lk S x.2).getD 0 = x.2) : renum (cutO W (renum O Nm qs2) qs3) S qs4 = renum O Nm qs2 := by
  have hk : (renum O Nm qs2).map (·.1) = qs2 := renum_keys _ _ _
  have hn : ((renum O Nm qs2).map (·.1)).Nodup := by rw [hk]; exact ltP_nodup hw2
  have e3 : qs3 = (renum O Nm qs2).map (·.1) := pairs_sorted h3 hw3 (by rw [hk]; exact hw2)
  have e5 : cutO W (renum O Nm qs2) qs3 = renum O Nm qs2 := by
    rw [e3]
    refine cutO_self hn fun x hx => hW _ ?_
    rw [← hk]; exact List.mem_map.mpr ⟨x, hx, rfl⟩
  rw [e5] at h4 ⊢
  have e4 : qs4 = (renum O Nm qs2).map (·.1) := pairs_sorted h4 hw4 (by rw [hk]; exact hw2)
  rw [e4]
  exact renum_self hn hS
theorem kept_sub {C Nm : List (Int × Int)} {ns3 : List Int} : (((keptOf C Nm ns3).filter fun x => x.2 != 0).map (·.1)).Sublist ns3 :=
  (List.filter_sublist.map _).trans (fm_keys (fun k x h => by unfold keptAt at h; split at h <;> cases h; rfl) ns3)
theorem kept_mem {C Nm : List (Int × Int)} {ns3 : List Int} (hn : ns3.Nodup) (k : Int) : k ∈ ((keptOf C Nm ns3).filter fun x => x.2 != 0).map (·.1) ↔ gl ((keptOf C Nm ns3).filter fun x => x.2 != 0) k ≠ 0 := by
  have hn' := hn.sublist (kept_sub (C := C) (Nm := Nm))
  constructor
  · intro h
    obtain ⟨x, hx, rfl⟩ := List.mem_map.mp h
    unfold gl
    rw [lk_of_mem hn' hx]
    simpa using (List.mem_filter.mp hx).2
  · intro h
    refine Classical.byContradiction fun hm => h ?_
    unfold gl
    rw [lk_none.mpr hm]; rfl
end


end
section
section
variable {W : Int → Bool} {C Nm : List (Int × Int)} {D : List (Int × List Int)} {O : List ((Int × Int) × Int)} {ns3 ns : List Int} {qs qs2 : List (Int × Int)}
theorem gl_kept' (hW : ∀ k, k ∈ ns3 ↔ W k = true) (h0 : (lk Nm 0).getD 0 = 0) (k : Int) : gl ((keptOf C Nm ns3).filter fun x => x.2 != 0) k = if W k = true then (lk Nm (gl C k)).getD 0 else 0 := by
  rw [gl_kept]
  by_cases hw : W k = true
  · rw [if_pos ((hW k).mpr hw), if_pos hw]
    by_cases hg : gl C k = 0
    · rw [if_neg (by simp [hg]), hg, h0]
    · rw [if_pos hg]
  · rw [if_neg (fun h => hw ((hW k).mp h)), if_neg hw]
theorem glOf_cut (hW : ∀ k, k ∈ ns3 ↔ W k = true) (hns : ns.Perm (D.map (·.1))) (hqs : qs.Perm (O.map (·.1))) (hq2 : qs2.Perm ((cutO W O qs).map (·.1))) (hnm : ∀ g, 0 ≤ g ∧ g < 9 → ((lk Nm g).getD 0 = 0 ↔ g = 0))
    (hC : ∀ k, 0 ≤ gl C k ∧ gl C k < 9) (hO : ∀ q, 0 ≤ (lk O q).getD 0 ∧ (lk O q).getD 0 < 9) (code sel : Int) :
    glOf ((keptOf C Nm ns3).filter fun x => x.2 != 0) (cutD W D ns) (renum (cutO W O qs) Nm qs2) code sel =
      if (W sel && W code) = true then ((lk Nm (glOf C D O code sel).1).getD 0, (glOf C D O code sel).2) else (if W code = true then (lk Nm (gl C code)).getD 0 else 0, false) := by
  have h0 : (lk Nm 0).getD 0 = 0 := (hnm 0 (by decide)).mpr rfl
  have hg := gl_kept' (C := C) hW h0 code
  have ho : (lk (renum (cutO W O qs) Nm qs2) (sel, code)).getD 0 = (lk Nm (if (W sel && W code) = true then (lk O (sel, code)).getD 0 else 0)).getD 0 := by
    rw [own_renum h0 hq2, own_cut hqs]
  have hdef := isDef_cut (W := W) hns sel code
  by_cases hw : (W sel && W code) = true
  · rw [if_pos hw]
    rw [if_pos hw] at ho
    rw [hw, Bool.true_and] at hdef
    have hwc : W code = true := (Bool.and_eq_true_iff.mp hw).2
    rw [if_pos hwc] at hg
    by_cases hd : isDef D sel code = true
    · have f1 : fnd D O sel code = .dflt := by unfold fnd; rw [if_pos hd]
      have f2 : fnd (cutD W D ns) (renum (cutO W O qs) Nm qs2) sel code = .dflt := by unfold fnd; rw [hdef, if_pos hd]
      unfold glOf
      rw [f1, f2]
      dsimp only
      rw [hg]
      have := hnm _ (hC code)
      by_cases hz : gl C code = 0
      · rw [hz, h0]
      · have hz' : (lk Nm (gl C code)).getD 0 ≠ 0 := fun e => hz (this.mp e)
        rw [bne_iff_ne.mpr hz, bne_iff_ne.mpr hz']
    · by_cases hz : (lk O (sel, code)).getD 0 = 0
      · have f1 : fnd D O sel code = .no := by unfold fnd; rw [if_neg hd, if_pos hz]
        have f2 : fnd (cutD W D ns) (renum (cutO W O qs) Nm qs2) sel code = .no := by unfold fnd; rw [hdef, if_neg hd, ho, hz, if_pos h0]
        unfold glOf
        rw [f1, f2]
        dsimp only
        rw [hg]
      · have f1 : fnd D O sel code = .own ((lk O (sel, code)).getD 0) := by unfold fnd; rw [if_neg hd, if_neg hz]
        have hz' : (lk Nm ((lk O (sel, code)).getD 0)).getD 0 ≠ 0 := fun e => hz ((hnm _ (hO _)).mp e)
        have f2 : fnd (cutD W D ns) (renum (cutO W O qs) Nm qs2) sel code = .own ((lk Nm ((lk O (sel, code)).getD 0)).getD 0) := by unfold fnd; rw [hdef, if_neg hd, ho, if_neg hz']
        unfold glOf
        rw [f1, f2]
  · rw [if_neg hw]
    rw [if_neg hw, h0] at ho
    have hdef' : isDef (cutD W D ns) sel code = false := by rw [hdef]; simp only [Bool.not_eq_true] at hw; rw [hw]; rfl
    have f2 : fnd (cutD W D ns) (renum (cutO W O qs) Nm qs2) sel code = .no := by unfold fnd; rw [hdef', if_neg (by decide), if_pos ho]
    unfold glOf
    rw [f2]
    dsimp only
    rw [hg]
theorem glOf_range (hC : ∀ k, 0 ≤ gl C k ∧ gl C k < 9) (hO : ∀ q, 0 ≤ (lk O q).getD 0 ∧ (lk O q).getD 0 < 9) (code sel : Int) : 0 ≤ (glOf C D O code sel).1 ∧ (glOf C D O code sel).1 < 9 := by
  unfold glOf fnd
  by_cases hd : isDef D sel code = true
  · rw [if_pos hd]; exact hC _
  · rw [if_neg hd]
    by_cases hz : (lk O (sel, code)).getD 0 = 0
    · rw [if_pos hz]; exact hC _
    · rw [if_neg hz]; exact hO _
/-- the wanted codes are the keys of the dict -/
theorem wn_keys {kvs : List (Int × Value)} {ns3 : List Int} (h : ns3.Perm (kvs.map (·.1))) (k : Int) : k ∈ ns3 ↔ Wn kvs k = true := by
  rw [h.mem_iff]
  unfold Wn
  constructor
  · intro hm
    obtain ⟨x, hx, rfl⟩ := List.mem_map.mp hm
    obtain ⟨y, hy⟩ := valueAt_some_of_mem hx
    rw [hy]; rfl
  · intro hs
    cases e : valueAt kvs k with
    | none => rw [e] at hs; cases hs
    | some v =>
      unfold valueAt at e
      obtain ⟨x, hx, -⟩ := Option.map_eq_some_iff.mp e
      have h1 := List.mem_of_find?_eq_some hx
      have h2 := List.find?_some hx
      exact List.mem_map.mpr ⟨x, h1, by simpa using h2⟩
theorem lk_in {O : List ((Int × Int) × Int)} (h : ∀ x ∈ O, 0 ≤ x.2 ∧ x.2 < 9) (q : Int × Int) : 0 ≤ (lk O q).getD 0 ∧ (lk O q).getD 0 < 9 := by
  cases e : lk O q with
  | none => simp
  | some g => exact h _ (lk_some_mem e)
end


end
section
def numAt (j : Nat) : Int × Int := ((j : Int), if 0 < (j : Int) then 2 * (j : Int) + 30 else 0)
def samAt (x : Int × Int) : Int × Int := (x.2, x.2)
def numL : List (Int × Int) := (List.range 9).map numAt
def samL : List (Int × Int) := numL.map samAt
theorem num_ok : ∀ g : Int, 0 ≤ g ∧ g < 9 → ∃ n, lk numL g = some n := by
  rintro g ⟨h0, h1⟩
  have : g = 0 ∨ g = 1 ∨ g = 2 ∨ g = 3 ∨ g = 4 ∨ g = 5 ∨ g = 6 ∨ g = 7 ∨ g = 8 := by omega
  rcases this with rfl | rfl | rfl | rfl | rfl | rfl | rfl | rfl | rfl <;> exact ⟨_, rfl⟩
theorem num_ne : ∀ g : Int, 0 ≤ g ∧ g < 9 → ((lk numL g).getD 0 = 0 ↔ g = 0) := by
  rintro g ⟨h0, h1⟩
  have : g = 0 ∨ g = 1 ∨ g = 2 ∨ g = 3 ∨ g = 4 ∨ g = 5 ∨ g = 6 ∨ g = 7 ∨ g = 8 := by omega
  rcases this with rfl | rfl | rfl | rfl | rfl | rfl | rfl | rfl | rfl <;> decide +kernel
theorem sam_fix : ∀ g : Int, 0 ≤ g ∧ g < 9 → lk samL ((lk numL g).getD 0) = some ((lk numL g).getD 0) := by
  rintro g ⟨h0, h1⟩
  have : g = 0 ∨ g = 1 ∨ g = 2 ∨ g = 3 ∨ g = 4 ∨ g = 5 ∨ g = 6 ∨ g = 7 ∨ g = 8 := by omega
  rcases this with rfl | rfl | rfl | rfl | rfl | rfl | rfl | rfl | rfl <;> decide +kernel
theorem num_zero : (lk numL 0).getD 0 = 0 := by decide +kernel
theorem sam_zero : lk samL 0 = some 0 := by decide +kernel
theorem sam_nodup : (samL.map (fun x => x.1)).Nodup := by decide +kernel
section
variable {W : Int → Bool} {C Nm Sm : List (Int × Int)} {D : List (Int × List Int)} {O : List ((Int × Int) × Int)} {ns3 ns4 nsU nsV : List Int} {qs qs2 : List (Int × Int)}
theorem sam_gl (hW : ∀ k, k ∈ ns3 ↔ W k = true) (hC : ∀ k, 0 ≤ gl C k ∧ gl C k < 9) (k : Int) : lk samL (gl ((keptOf C numL ns3).filter fun x => x.2 != 0) k) = some (gl ((keptOf C numL ns3).filter fun x => x.2 != 0) k) := by
  rw [gl_kept' hW num_zero]
  by_cases hw : W k = true
  · rw [if_pos hw]; exact sam_fix _ (hC k)
  · rw [if_neg hw]; exact sam_zero
theorem sam_ren (hqs : qs.Perm (O.map (·.1))) (hO : ∀ q, 0 ≤ (lk O q).getD 0 ∧ (lk O q).getD 0 < 9) : ∀ x ∈ renum (cutO W O qs) numL qs2, lk samL x.2 = some x.2 := by
  intro x hx
  obtain ⟨q, -, rfl⟩ := List.mem_map.mp hx
  refine sam_fix _ ?_
  rw [own_cut hqs]
  by_cases hw : (W q.1 && W q.2) = true
  · rw [if_pos hw]; exact hO _
  · rw [if_neg hw]; decide
theorem codes_twice (hn : ns3.Nodup) (hn' : ns4.Nodup) (hW : ∀ k, k ∈ ns3 ↔ W k = true) (hW' : ∀ k, k ∈ ns4 ↔ W k = true) (h0 : (lk Nm 0).getD 0 = 0) (h0' : (lk Sm 0).getD 0 = 0)
    (hS : ∀ k, lk Sm (gl ((keptOf C Nm ns3).filter fun x => x.2 != 0) k) = some (gl ((keptOf C Nm ns3).filter fun x => x.2 != 0) k))
    (hU : nsU.Perm (((keptOf ((keptOf C Nm ns3).filter fun x => x.2 != 0) Sm ns4).filter fun x => x.2 != 0).map (·.1))) (wU : nsU.Pairwise (· ≤ ·))
    (hV : nsV.Perm (((keptOf C Nm ns3).filter fun x => x.2 != 0).map (·.1))) (wV : nsV.Pairwise (· ≤ ·)) :
    codesOf ((keptOf ((keptOf C Nm ns3).filter fun x => x.2 != 0) Sm ns4).filter fun x => x.2 != 0) nsU = codesOf ((keptOf C Nm ns3).filter fun x => x.2 != 0) nsV := by
  have e : ∀ k, gl ((keptOf ((keptOf C Nm ns3).filter fun x => x.2 != 0) Sm ns4).filter fun x => x.2 != 0) k = gl ((keptOf C Nm ns3).filter fun x => x.2 != 0) k := fun k => by
    rw [gl_kept' hW' h0', hS, Option.getD_some, gl_kept' hW h0]
    by_cases hw : W k = true
    · rw [if_pos hw]
    · rw [if_neg hw, if_neg hw]
  have hp : nsU.Perm nsV := by
    refine hU.trans (List.Perm.trans ?_ hV.symm)
    refine (List.perm_ext_iff_of_nodup (hn'.sublist kept_sub) (hn.sublist kept_sub)).mpr fun k => ?_
    rw [kept_mem hn', kept_mem hn, e]
  rw [ints_sorted hp wU wV]
  unfold codesOf
  exact List.map_congr_left fun k _ => by rw [e]
theorem kept_len {k : Nat} (h : ns3.length ≤ k) : ((keptOf C Nm ns3).filter fun x => x.2 != 0).length ≤ k := by
  have := (kept_sub (C := C) (Nm := Nm) (ns3 := ns3)).length_le
  rw [List.length_map] at this
  omega
theorem renum_len {qs : List (Int × Int)} : (renum O Nm qs).length = qs.length := by unfold renum; rw [List.length_map]
end


end
section
section
variable {prog : Program} {w : World} {A : Around} {E : Value → Shared → Prop} {s : Shared} {κ κ' : Kn}
theorem ints_hits {kb : List (Int × Value)} {X : List (Int × Int)} (hn : (X.map (·.1)).Nodup) (hb : R2 (fun a b => a.1 = b.1 ∧ IntV a.2 b.2) kb X) : ∀ {ka : List (Int × Value)} {Y : List (Int × Int)}, R2 (fun a b => a.1 = b.1 ∧ IntV a.2 b.2) ka Y → (∀ y ∈ Y, y ∈ X) → KeqHits A s kb ka true
  | _, _, .nil, _ => .nil
  | _, _, .cons (a := a) (b := b) h r, hY => by
    obtain ⟨k, v⟩ := a
    obtain ⟨k', n⟩ := b
    obtain ⟨e, t, e'⟩ := h
    dsimp only at e e'
    subst e e'
    have hl := lk_of_mem hn (hY _ (.head _))
    rcases hb.look k with ⟨-, e2⟩ | ⟨y, b, e1, e2, u, rfl⟩
    · dsimp only at hl; rw [hl] at e2; cases e2
    · dsimp only at hl
      rw [hl] at e2
      cases e2
      have q := SeqAt.EqAt.int_int (A := A) (s := s) n t n u
      rw [beq_self_eq_true] at q
      exact .hit e1 q (ints_hits hn hb r fun y hy => hY y (.tail _ hy))
/-- two dicts of the same ints -/
theorem eq_dints {a b : Addr} {ka kb : List (Int × Value)} {X : List (Int × Int)} {Q : Value → Shared → Prop} (la : (a == sysModules) = false) (lb : (b == sysModules) = false) (da : DictK prog w κ a ka) (db : DictK prog w κ' b kb) (le : Kn.le κ (kn s.heap)) (le' : Kn.le κ' (kn s.heap))
    (ha : R2 (fun a b => a.1 = b.1 ∧ IntV a.2 b.2) ka X) (hb : R2 (fun a b => a.1 = b.1 ∧ IntV a.2 b.2) kb X) (hn : (X.map (·.1)).Nodup) (hu : A.units + 64 < cLine) (h : Q (.bool true) s) : wpAny (model prog w) A (compareOp .Eq (.ref a) (.ref b)) Q E s := by
  refine keq_eq (r := true) la lb (da.mono le).at (db.mono le').at (by omega) (fun _ => ints_hits hn hb ha fun _ h => h) ?_
  rw [ha.length, hb.length, beq_self_eq_true]
  exact h
end


end
local macro_rules | `(tactic| walk_at "subscriptTail Name Slice ref ref") => `(tactic| (k_here; (with_reducible show wpAny _ _ (subscriptTail _ (PySem.Expr.Slice _ _ none _) (Value.ref 112) (Value.ref _)) _ _ _); (refine' kms_slice_lit (its := codeV.toArray) ?F ?N ?l ?p ?q ?e ?_ ?s ?t ?z; (case F => k_asm); (case N => k_asm); (case l => exact codes_at (by k_asm) _ (Fr.keep (by k_asm))); (case p => kmk_part); (case q => kmk_part); (case e => exact rfl); (case s => with_unfolding_all rfl); (case t => kmk_pure); (case z => exact Nat.le_of_ble_eq_true rfl)); intro D' h' F' N' l1; (try k_lt l1)))
local macro_rules | `(tactic| walk_at "binaryOp Add ref ref") => `(tactic| (k_here; (refine' kmk_add_lit ?F ?N ?a ?b ?e ?_ ?z; (case F => k_asm); (case N => k_asm); (case a => first | exact sels_at (by k_asm) _ (Fr.keep (by k_asm)) | exact codes_at (by k_asm) _ (Fr.keep (by k_asm)) | exact News.isList (by k_asm) (by k_mem)); (case b => first | exact sels_at (by k_asm) _ (Fr.keep (by k_asm)) | exact codes_at (by k_asm) _ (Fr.keep (by k_asm)) | exact News.isList (by k_asm) (by k_mem)); (case e => exact rfl); (case z => exact Nat.le_of_ble_eq_true rfl)); intro D' h' F' N' l1; (try k_lt l1)))
local macro_rules | `(tactic| k_in) => `(tactic| walk_at "own in")
theorem rows_V7 : True := by
  k_with_none
  w_top off
  (k_with "own tail" => (first | ((repeat apply List.Mem.tail); first | exact hp | exact List.mem_append_left _ hp | exact List.mem_append_right _ hp) | (simp only [List.mem_cons, List.mem_append, List.not_mem_nil, or_false] at hp ⊢; grind)))
  (k_with "own subs" => (((try dsimp only [List.cons_append, List.nil_append]); (repeat (refine List.forall_mem_cons.mpr ⟨?_, ?_⟩; (· ((repeat (first | with_reducible exact List.Mem.head _ | refine List.Mem.tail _ ?_)); done)))); intro p hp; first | exact absurd hp List.not_mem_nil | ((repeat apply List.Mem.tail); first | exact hp | exact List.mem_append_left _ hp | exact List.mem_append_right _ hp) | (simp only [List.mem_cons, List.mem_append, List.not_mem_nil, or_false] at hp ⊢; grind))))
  (k_with "own ne" => ((refine neN ?_; (try dsimp only); first | assumption | exact Ne.symm (by assumption) | exact Nat.ne_of_lt (by assumption) | exact Nat.ne_of_gt (by assumption) | exact And.left (by assumption) | exact And.left (And.right (by assumption)) | exact And.right (And.right (by assumption)) | exact Ne.symm (And.left (by assumption)) | exact Ne.symm (And.left (And.right (by assumption))) | exact Ne.symm (And.right (And.right (by assumption))) | ((repeat (rename @Ne _ _ _ => hne9; clear hne9)); (repeat (rename And (@Ne _ _ _) _ => hne9; clear hne9)); omega))))
  (k_with "le" => (first | (refine' le_fr ?zla ?zlb; (case zlb => k_asm); (case zla => with_reducible assumption)) | exact Fr.keep (by k_asm)))
  (k_with "fin" => (((try dsimp only); (try k_unfold); (try dsimp only); refine ⟨_, _, _, rfl, by k_asm, ?_⟩)))
  (k_with "leF" => (first | exact fun _ F9 _ => le_fr (by with_reducible assumption) F9 | exact fun _ F9 _ => Fr.keep F9))
  (k_with "own inst" => ((refine' inst_kn ?le ?h1 ?h2; (case h1 => with_reducible assumption); (case h2 => with_reducible assumption); (case le => walk_at "le"))))
  (k_with "own fits" => (with_reducible assumption))
  (k_with "execs cons Assign cons" => (refine wpAny_execs_cons ?_))
  (k_with "exec For Name Call cons nil" => ((k_here; k_dflt (refine For_at ?_))))
  (k_with "getMethod ref" => ((k_here; first
      | (refine' getm_int ?d ?le ?_; (case d => with_reducible assumption); (case le => walk_at "le"))
      | (refine' getm_tup ?d ?le ?_; (case d => with_reducible assumption); (case le => walk_at "le")))))
  (k_with "key" => (exact key2 (by k_asm) (by k_mem)))
  (k_with "call builtin:dict.get" => ((k_here; first
      | (refine' get2_int ?d ?le ?lo ?_; (case d => with_reducible assumption); (case lo => with_reducible assumption); (case le => walk_at "le"))
      | (refine' get2_tup ?u ?d ?le ?lo ?k ?_; (case d => with_reducible assumption); (case lo => with_reducible assumption); (case u => ktr_units); (case le => walk_at "le"); (case k => walk_at "key")))))
  (k_with "enterC" => ((
      refine' enter_cells (args := ⟨_, []⟩) ?k1 ?k2 ?k3 ?k5 ?kA ?kF ?kK ?k6 ?k7 ?k8 ?k9 ?kB ?kD ?_ ?c2 ?c3 ?c4
      case kA => exact rfl
      case kF => exact rfl
      case kK => assumption
      case k1 => k_asm
      case k2 => k_asm
      case k3 => k_asm
      case k5 => k_asm
      case k6 => k_is
      case k7 => k_is
      case k8 => ktr_room
      case k9 => exact BindsTo.of_eq rfl
      case kB => exact rfl
      case kD => decide +kernel
      case c2 => exact rfl
      case c3 => exact rfl
      case c4 => exact rfl)))
  (k_with "enter" => ((
      refine' enter_pure (args := ⟨_, []⟩) ?k1 ?k2 ?k3 ?k5 ?kA ?kF ?kK ?k6 ?k7 ?k8 ?k9 ?kB ?_ ?c2 ?c3 ?c4 ?c5
      case kA => exact rfl
      case kF => exact rfl
      case kK => assumption
      case k1 => k_asm
      case k2 => k_asm
      case k3 => k_asm
      case k5 => k_asm
      case k6 => k_is
      case k7 => k_is
      case k8 => ktr_room
      case k9 => exact BindsTo.of_eq rfl
      case c5 => decide
      case kB => exact locs rfl
      case c2 => exact rfl
      case c3 => exact rfl
      case c4 => exact rfl)))
  (k_with "newList" => ((k_here; k_dflt (refine' newList_K ?k1 ?k2 ?_; (case k1 => k_asm); (case k2 => k_asm); k_whole); intro l₀ hl₀ Fl₀ Nl₀ ll₀; (try k_lt ll₀); (try k_sweep))))
  (k_with "newTuple" => ((k_here; k_dflt (refine' kup_newTuple ?zqk1 ?zqk2 ?_ ?zqk3; (case zqk1 => k_asm); (case zqk2 => k_asm); (case zqk3 => exact Nat.le_of_ble_eq_true rfl)); intro t₀ ht₀ Ft₀ Nt₀ lt₀; (try k_lt lt₀); (try k_sweep))))
  (k_with "call builtin:sorted" => ((k_here; k_dflt (
      refine' sorted_intD ?zqhh ?zqF ?zqN ?zqd ?zqle ?zqlo ?zqn ?_
      case zqd => with_reducible assumption
      case zqhh => exact rfl
      case zqF => k_asm
      case zqN => k_asm
      case zqle => walk_at "le"
      case zqlo => with_reducible assumption
      case zqn => with_reducible assumption
      intro D₁ h₁ tk₁ vs ns c₁ F₁ N₁ l₁ hI hP hW))))
  (k_with "call builtin:sorted" => ((k_here; k_dflt (
      refine' sorted_tupD ?zqhh ?zqF ?zqN ?zqd ?zqp ?zqle ?zqlo ?zqn ?_
      case zqd => with_reducible assumption
      case zqp => with_reducible assumption
      case zqhh => exact rfl
      case zqF => k_asm
      case zqN => k_asm
      case zqle => walk_at "leF"
      case zqlo => with_reducible assumption
      case zqn => assumption
      intro D₁ h₁ tk₁ vs qs c₁ F₁ N₁ l₁ hR hP hW))))
  (k_with "subscriptTail" => ((k_here; (with_reducible show wpAny _ _ (subscriptTail _ _ (Value.ref _) (Value.ref _)) _ _ _); k_dflt (
      refine' item_tup ?u ?d ?le ?k ?l ?_
      case d => with_reducible assumption
      case l => with_reducible assumption
      case u => ktr_units
      case le => walk_at "le"
      case k => (refine' KeyK.at (KeyK.mono ?zle ?zk); (case zk => with_reducible assumption); (case zle => walk_at "le"))))))
  (k_with "subscriptTail" => ((k_here; (with_reducible show wpAny _ _ (subscriptTail _ _ (Value.ref _) (Value.int _ _)) _ _ _); k_dflt (
      refine' item_int ?d ?le ?l ?_
      case d => with_reducible assumption
      case l => with_reducible assumption
      case le => walk_at "le"))))
  (k_with "compareOp In int ref" => ((k_here; k_dflt (
      refine' in_int ?d ?le ?lo ?_
      case d => with_reducible assumption
      case lo => with_reducible assumption
      case le => walk_at "le"))))
  (k_with "compareOp NotIn int ref" => ((k_here; k_dflt (
      refine' notin_int ?d ?le ?lo ?_
      case d => with_reducible assumption
      case lo => with_reducible assumption
      case le => walk_at "le"))))
  (k_with "truthy ref" => ((k_here; k_dflt (
      refine' truthy_row ?r ?le ?z ?_
      case r => with_reducible assumption
      case z => with_reducible assumption
      case le => walk_at "le"))))
  (k_with "call type:tuple" => ((k_here; (with_reducible show wpAny _ _ (call (Value.type _) [Value.ref _]) _ _ _); k_dflt (
      refine' tup_row ?r ?le ?_
      case r => with_reducible assumption
      case le => walk_at "le"))))
  (k_with "call type:tuple" => ((k_here; (with_reducible show wpAny _ _ (call (Value.type _) [Value.ref _]) _ _ _); k_dflt (
      refine' kde_tupleOf ?k1 ?k2 ?k3 ?k4 ?k5 ?_
      case k1 => k_asm
      case k2 => k_asm
      case k3 => exact News.isList (by k_asm) (by k_mem)
      case k4 => with_reducible assumption
      case k5 => exact rfl
      intro t₅ h₅ F₅ N₅ l₅
      (try k_lt l₅)))))
  (k_with "call ref" => ((k_here; (with_reducible show wpAny _ _ (call (Value.ref 35) _) _ _ _); k_dflt (
      refine' use_pure ?F ?N (is_default_spec ?B ?F2 ?X ?T ?k ?d ?u ?V) ?_
      case F => k_asm
      case N => k_asm
      case B => k_asm
      case F2 => k_asm
      case X => k_asm
      case T => k_asm
      case k => first | exact rfl | assumption
      case d => ktr_room
      case u => ktr_units
      case V => (refine' VarsK.mono ?zle ?zk; (case zk => with_reducible assumption); (case zle => walk_at "le"))
      intro _ _ _ _ _ _
      rintro rfl
      (try k_sweep)))))
  (k_with "call ref" => ((k_here; (with_reducible show wpAny _ _ (call (Value.ref 42) _) _ _ _); k_dflt (
      refine' use_pure ?zqF ?zqN (own_pairs_spec ?zqB ?zqF2 ?zqX ?zqT ?zqk ?zqd ?zqu ?zqK ?zqV ?zq6) ?_
      case zqF => k_asm
      case zqN => k_asm
      case zqB => k_asm
      case zqF2 => k_asm
      case zqX => k_asm
      case zqT => k_asm
      case zqk => first | exact rfl | assumption
      case zqd => ktr_room
      case zqu => ktr_units
      case zqV => with_reducible assumption
      case zqK => walk_at "le"
      case zq6 => with_reducible assumption
      intro r₂ h₂ tk₂ F₂ N₂ G₂ P₂
      obtain ⟨a₂, ws₂, ps₂, n₂, e₂, f₂, g₂, hR₂, hP₂, hW₂⟩ := P₂
      subst e₂
      have N₂' := News.grew (by k_asm) N₂ f₂ g₂))))
  (k_with "eval ListComp" => ((k_here; (with_reducible show wpAny _ _ (eval (Expr.ListComp _ [⟨_, _, [], _⟩] _ _) _) _ _ _); k_dflt (refine LCg.ListComp_U (F₀ := by k_asm) (by with_unfolding_all rfl) (by decide) (by rfl) (by decide) (by rfl) ?_))))
  (k_with "eval ListComp" => ((k_here; (with_reducible show wpAny _ _ (eval (Expr.ListComp _ [⟨_, _, [_], _⟩] _ _) _) _ _ _); k_dflt (refine LCt.ListComp_T (F₀ := by k_asm) (by with_unfolding_all rfl) (by decide) (by rfl) (by decide) (by rfl) ?_))))
  (k_with "own all" => (first | with_reducible assumption | (refine List.forall_mem_append.mpr ⟨?_, ?_⟩ <;> k_all)))
  (k_with "exec For Tuple Call cons nil" => ((k_here; k_dflt (refine For_at ?_))))
  (k_with "eval Dict nil nil" => ((k_here; k_dflt (refine' newDict_K ?zqk1 ?zqk2 (TopRead.nolimit (by k_asm)) ?_; (case zqk1 => k_asm); (case zqk2 => k_asm); k_whole); intro d₀ hd₀ o₀ Fd₀ Nd₀ ld₀ lod₀ hs₀ fs₀ hi₀ fi₀; clear hs₀ fs₀ fi₀; (try k_lt ld₀); (try k_sweep))))
  (k_with "eval ListComp" => ((k_here; (with_reducible show wpAny _ _ (eval (Expr.ListComp _ [⟨_, Expr.Subscript _ _ _, [_], _⟩] _ _) _) _ _ _); k_dflt (refine ListComp_WF (F₀ := by k_asm) (by with_unfolding_all rfl) (by decide) (by rfl) (by decide) (by rfl) ?_))))
  (k_with "setItem ref int" => ((k_here; k_dflt (
      refine' kda_set (knd := PySem.intKind _ _) ?zqF ?zqN ?zqU ?zqd (intKind_is _ _ _ _) ?zqz ?_
      case zqd => with_reducible assumption
      case zqF => k_asm
      case zqN => k_asm
      case zqU => k_updF
      case zqz => with_reducible assumption
      intro h₇ o₇ F₇ N₇ hd₇
      (try dsimp only at N₇)))))
  (k_with "subscriptTail" => ((k_here; (with_reducible show wpAny _ _ (subscriptTail _ _ (Value.ref _) (Value.ref _)) _ _ _); k_dflt (
      refine' item_tup ?u ?d ?le ?k ?l ?_
      case d => with_reducible assumption
      case l => with_reducible assumption
      case u => ktr_units
      case le => walk_at "le"
      case k => exact key2 (by k_asm) (by k_mem)))))
  (k_with "call ref" => ((k_here; (with_reducible show wpAny _ _ (call (Value.ref 50) _) _ _ _); k_dflt (
      refine' call_cls ?zk1 ?zk2 ?zk3 ?zk4 ?zk5 ?zk6 ?_
      case zk1 => k_asm
      case zk2 => k_asm
      case zk3 => k_asm
      case zk4 => k_is
      case zk5 => k_is
      case zk6 => k_is
      intro x₈ d₈ h₈ F₈ N₈ l₈ m₈
      (try k_lt l₈)
      (try k_lt2 m₈)
      (try (first | have hal₈ := allLt_ne l₈ | have hal₈ := allLt_ne l₈.2 | have hal₈ := allLt_ne l₈.2.2 | have hal₈ := allLt_ne l₈.2.2.2 | have hal₈ := allLt_ne l₈.2.2.2.2 | have hal₈ := allLt_ne l₈.2.2.2.2.2 | have hal₈ := allLt_ne l₈.2.2.2.2.2.2 | have hal₈ := allLt_ne l₈.2.2.2.2.2.2.2 | have hal₈ := allLt_ne l₈.2.2.2.2.2.2.2.2 | have hal₈ := allLt_ne l₈.2.2.2.2.2.2.2.2.2 | have hal₈ := allLt_ne l₈.2.2.2.2.2.2.2.2.2.2))
      (try k_sweep)
      refine' code_def ?zk1 ?zk2 ?zk3 ?zk4 ?zk5 ?zkA ?zkF ?zkK ?zk6 ?zk7 ?zk8 ?zk9 ?zkB ?_ ?zc2 ?zc3 ?zc4 ?zc5
      case zkA => exact rfl
      case zkF => exact rfl
      case zkK => exact rfl
      case zk1 => k_asm
      case zk2 => k_asm
      case zk3 => k_asm
      case zk4 => k_asm
      case zk5 => k_asm
      case zk6 => k_is
      case zk7 => k_is
      case zk8 => ktr_room
      case zk9 => exact BindsTo.of_eq rfl
      case zc5 => decide
      case zkB => exact locs rfl
      case zc2 => exact rfl
      case zc3 => exact rfl
      case zc4 => exact rfl
      intro g₉ L₉ h₉ FG₉ F₉ N₉ B₉ X₉ T₉
      (try dsimp only)
      (try k_lift B₉)
      (try k_fold)))))
  (k_with "le" => ((refine' le_addN ?zla ?zlb ?zlc ?zld; (case zlb => k_asm); (case zlc => k_asm); (case zla => with_reducible assumption); (case zld => walk_at "own subs"))))
  (k_with "leF" => (exact fun _ F9 N9 => le_addN (by with_reducible assumption) F9 N9 (by walk_at "own subs")))
  (k_with "call ref" => ((k_here; (with_reducible show wpAny _ _ (call (Value.ref 81) _) _ _ _); k_dflt (
      refine' use_pure ?zqF ?zqN (glyph_spec ?zqB ?zqF2 ?zqX ?zqT ?zqk ?zqd ?zqu ?zqV) ?_
      case zqF => k_asm
      case zqN => k_asm
      case zqB => k_asm
      case zqF2 => k_asm
      case zqX => k_asm
      case zqT => k_asm
      case zqk => first | exact rfl | assumption
      case zqd => ktr_room
      case zqu => ktr_units
      case zqV => (refine' CmK.mono ?zle ?zk; (case zk => with_reducible assumption); (case zle => walk_at "le"))
      intro r₃ h₃ tk₃ F₃ N₃ G₃ P₃
      obtain ⟨t₃, e₃⟩ := P₃
      subst e₃
      (try k_sweep)))))
  (k_with "call ref" => ((k_here; (with_reducible show wpAny _ _ (call (Value.ref 105) _) _ _ _); k_dflt (
      refine' use_pure ?zqF ?zqN (cut_vars_spec ?zqB ?zqF2 ?zqX ?zqT ?zqk ?zqd ?zqu ?zqK ?zqV ?zqw ?zql ?zq6 ?zq7 ?zq5) ?_
      case zqF => k_asm
      case zqN => k_asm
      case zqB => k_asm
      case zqF2 => k_asm
      case zqX => k_asm
      case zqT => k_asm
      case zqk => first | exact rfl | assumption
      case zqd => ktr_room
      case zqu => ktr_units
      case zqV => with_reducible assumption
      case zqw => with_reducible assumption
      case zqK => walk_at "le"
      case zql => with_reducible assumption
      case zq6 => with_reducible assumption
      case zq7 => with_reducible assumption
      case zq5 => assumption
      intro r₂ h₂ tk₂ F₂ N₂ G₂ P₂
      obtain ⟨v₂, dx₂, t₂₁, t₂₂, n₂, dd₂, oo₂, tl₂, ns₂, qs₂, e₂, hT₂, hlt₂, hal₂, hRw₂, hOt₂, hk₂, hkw₂, hp₂, hpw₂⟩ := P₂
      subst e₂
      have hz₂ := fresh_all hT₂ (by k_asm)
      simp only [List.forall_mem_cons] at hz₂
      have N₂' := News.grewL (by k_asm) N₂ hT₂
      dsimp only [List.cons_append] at N₂'))))
  (k_with "eval DictComp" => ((k_here; k_dflt (refine DictComp_L (F₀ := by k_asm) (by with_unfolding_all rfl) (by decide) (by rfl) (by decide) (by rfl) ?_))))
  (k_with "exec Assign cons DictComp" => ((k_here; k_dflt (refine Assign_DictComp_L (F₀ := by k_asm) (by rfl) (by with_unfolding_all rfl) (by with_unfolding_all rfl) (by decide) (by rfl) (by decide) (by rfl) (by rfl) (by rfl) ?_))))
  (k_with "exec For Name Name cons nil" => ((k_here; k_dflt (refine For_at ?_))))
  (k_with "exec For Name Call cons nil" => ((k_here; (with_reducible show wpAny _ _ (exec (Stmt.For _ (Expr.Call (Expr.Name (Str.ofString "range") _) _ _ _) _ _ _) _) _ _ _); k_dflt (refine For_R ?_))))
  (k_with "call ref" => ((k_here; (with_reducible show wpAny _ _ (call (Value.ref 119) _) _ _ _); k_dflt (
      refine' draw_at ?zqB ?zqF ?zqN ?zqX ?zqT ?zqk ?zqd ?zqu ?zqU ?zqm ?zqI ?zql ?zq0 ?zq1 ?zqg ?zqp ?zq9 ?_
      case zqF => k_asm
      case zqN => k_asm
      case zqB => k_asm
      case zqX => k_asm
      case zqT => k_asm
      case zqk => first | exact rfl | assumption
      case zqd => ktr_room
      case zqu => ktr_units
      case zqU => k_updF
      case zqm => k_mem
      case zqI => with_reducible assumption
      case zql => assumption
      case zq0 => ((try clear hQ); (repeat (rename @Ne _ _ _ => hne9; clear hne9)); omega)
      case zq1 => ((try clear hQ); (repeat (rename @Ne _ _ _ => hne9; clear hne9)); omega)
      case zqg => ((try clear hQ); (repeat (rename @Ne _ _ _ => hne9; clear hne9)); omega)
      case zqp => ((try clear hQ); (repeat (rename @Ne _ _ _ => hne9; clear hne9)); omega)
      case zq9 => ((try clear hQ); (repeat (rename @Ne _ _ _ => hne9; clear hne9)); omega)
      intro r₂ t₂ h₂ tk₂ seat₂ p1₂ great₂ p2₂ k₂ ra₂ rb₂ sa₂ sb₂ ga₂ F₂ N₂
      (try dsimp only at N₂)))))
  (k_with "eval ListComp" => ((k_here; (with_reducible show wpAny _ _ (eval (Expr.ListComp _ [⟨_, Expr.Name _ _, [_], _⟩] _ _) _) _ _ _); k_dflt (refine ListComp_WF (F₀ := by k_asm) (by with_unfolding_all rfl) (by decide) (by rfl) (by decide) (by rfl) ?_))))
  (k_with "eval ListComp" => ((k_here; (with_reducible show wpAny _ _ (eval (Expr.ListComp _ [⟨_, Expr.Name _ _, [], _⟩] _ _) _) _ _ _); k_dflt (refine ListComp_WU (F₀ := by k_asm) (by with_unfolding_all rfl) (by decide) (by rfl) (by decide) (by rfl) ?_))))
  (k_with "eval ListComp" => ((k_here; (with_reducible show wpAny _ _ (eval (Expr.ListComp _ [⟨_, Expr.Call _ _ _ _, [], _⟩] _ _) _) _ _ _); k_dflt (refine ListComp_WU (F₀ := by k_asm) (by with_unfolding_all rfl) (by decide) (by rfl) (by decide) (by rfl) ?_))))
  (k_with "eval ListComp" => ((k_here; (with_reducible show wpAny _ _ (eval (Expr.ListComp _ [⟨_, Expr.BinOp _ _ _ _, [_], _⟩] _ _) _) _ _ _); k_dflt (refine ListComp_WF (F₀ := by k_asm) (by with_unfolding_all rfl) (by decide) (by rfl) (by decide) (by rfl) ?_))))
  (k_with "eval ListComp" => ((k_here; (with_reducible show wpAny _ _ (eval (Expr.ListComp _ [⟨_, Expr.Attribute _ _ _, [_], _⟩] _ _) _) _ _ _); k_dflt (refine ListComp_WF (F₀ := by k_asm) (by with_unfolding_all rfl) (by decide) (by rfl) (by decide) (by rfl) ?_))))
  (k_with "exec For Name BinOp cons nil" => ((k_here; k_dflt (refine For_at ?_))))
  (k_with "le" => ((refine' noK_at ?zla ?zlb; (case zla => k_asm); (case zlb => walk_at "own subs"))))
  (k_with "call ref" => ((k_here; (with_reducible show wpAny _ _ (call (Value.ref 47) _) _ _ _); refine hold ?_)))
  (k_with "call ref" => ((k_here; (with_reducible show wpAny _ _ (call (Value.ref 119) _) _ _ _); refine hold ?_)))
  (k_with "call ref" => ((k_here; (with_reducible show wpAny _ _ (call (Value.ref 105) (Value.ref _ :: _)) _ _ _); refine hold ?_)))
  (k_with "call ref" => ((k_here; (with_reducible show wpAny _ _ (call (Value.ref 110) _) _ _ _); refine hold ?_)))
  (k_with "call ref" => ((k_here; (with_reducible show wpAny _ _ (call (Value.ref 61) _) _ _ _); refine hold ?_)))
  (k_with "call ref" => ((k_here; (with_reducible show wpAny _ _ (call (Value.ref 88) _) _ _ _); refine hold ?_)))
  (k_with "call ref" => ((k_here; (with_reducible show wpAny _ _ (call (Value.ref 93) _) _ _ _); refine hold ?_)))
  (k_with "call ref" => ((k_here; (with_reducible show wpAny _ _ (call (Value.ref 119) _) _ _ _); k_dflt (
      refine' draw_at ?zqB ?zqF ?zqN ?zqX ?zqT ?zqk ?zqd ?zqu ?zqU ?zqm ?zqI ?zql ?zq0 ?zq1 ?zqg ?zqp ?zq9 ?_
      case zqF => k_asm
      case zqN => k_asm
      case zqB => k_asm
      case zqX => k_asm
      case zqT => k_asm
      case zqk => first | exact rfl | assumption
      case zqd => ktr_room
      case zqu => ktr_units
      case zqU => k_updF
      case zqm => k_mem
      case zqI => with_reducible assumption
      case zql => assumption
      case zq0 => ((try clear hQ); (repeat (rename @Ne _ _ _ => hne9; clear hne9)); omega)
      case zq1 => ((try clear hQ); (repeat (rename @Ne _ _ _ => hne9; clear hne9)); omega)
      case zqg => ((try clear hQ); (repeat (rename @Ne _ _ _ => hne9; clear hne9)); omega)
      case zqp => ((try clear hQ); (repeat (rename @Ne _ _ _ => hne9; clear hne9)); omega)
      case zq9 => ((try clear hQ); (repeat (rename @Ne _ _ _ => hne9; clear hne9)); omega)
      intro r₂ t₂ h₂ tk₂ seat₂ p1₂ great₂ p2₂ k₂ ra₂ rb₂ sa₂ sb₂ ga₂ F₂ N₂
      (try dsimp only at N₂)))))
  (k_with "call ref" => ((k_here; (with_reducible show wpAny _ _ (call (Value.ref 124) _) _ _ _); refine hold ?_)))
  (k_with "call ref" => ((k_here; (with_reducible show wpAny _ _ (call (Value.ref 96) _) _ _ _); refine hold ?_)))
  (k_with "call type:dict" => ((k_here; refine hold ?_)))
  (k_with "pyIter ref" => ((k_here; refine hold ?_)))
  (k_with "compareOp NotEq ref ref" => ((k_here; refine hold ?_)))
  (k_with "compareOp Eq ref ref" => ((k_here; refine hold ?_)))
  (k_with "call ref" => ((k_here; (with_reducible show wpAny _ _ (call (Value.ref 61) _) _ _ _); k_dflt (
      refine' use_pure ?zqF ?zqN (find_spec ?zqB ?zqF2 ?zqX ?zqT ?zqk ?zqd ?zqu ?zqV) ?_
      case zqF => k_asm
      case zqN => k_asm
      case zqB => k_asm
      case zqF2 => k_asm
      case zqX => k_asm
      case zqT => k_asm
      case zqk => exact rfl
      case zqd => ktr_room
      case zqu => ktr_units
      case zqV => (refine' VarsK.mono ?zle ?zk; (case zk => with_reducible assumption); (case zle => walk_at "le"))
      intro rf hf tkf Ff Nf Gf Pf))))
  (k_with "subscriptTail" => ((k_here; (with_reducible show wpAny _ _ (subscriptTail _ _ (Value.ref _) (Value.int _ _)) _ _ _); k_dflt (
      refine' item_ints ?zqV ?zql ?zqn ?_
      case zqV => with_reducible assumption
      case zql => walk_at "le"
      case zqn => first | assumption | exact hCod _
      intro tni tki))))
  (k_with "call builtin:dict.get" => ((k_here; k_dflt (
      refine' get_ints ?zqd ?zqR ?zql ?zqo ?_
      case zqd => with_reducible assumption
      case zqR => with_reducible assumption
      case zqo => with_reducible assumption
      case zql => walk_at "le"
      intro tgi tki))))
  (k_with "own in" => (exact Frag.In.keeps (by with_reducible assumption) (Fr.keep (by k_asm))))
  trivial
section
abbrev wantV : List Value := [.int 65 328, .int 66 329, .int 67 330, .int 19968 332, .int 65024 324, .int 65025 325, .int 917760 326]
abbrev wantN : List Int := [65, 66, 67, 19968, 65024, 65025, 917760]
theorem wantI : IntsAre wantV wantN := .cons _ _ (.cons _ _ (.cons _ _ (.cons _ _ (.cons _ _ (.cons _ _ (.cons _ _ .nil))))))
theorem gl_in {C : List (Int × Int)} (h : ∀ x ∈ C, 0 ≤ x.2 ∧ x.2 < 9) (k : Int) : 0 ≤ gl C k ∧ gl C k < 9 := by
  unfold gl
  cases e : lk C k with
  | none => simp
  | some g => exact h _ (lk_some_mem e)
theorem mm5 {z a b c d e : Str} {x1 x2 x3 x4 x5 y1 y2 y3 y4 y5 r : Option Value} : (if z = a then x1 else if z = b then x2 else if z = c then x3 else if z = d then x4 else if z = e then x5 else if z = a then y1 else if z = b then y2 else if z = c then y3 else if z = d then y4 else if z = e then y5 else r) = if z = a then x1 else if z = b then x2 else if z = c then x3 else if z = d then x4 else if z = e then x5 else r := by
  by_cases h1 : z = a
  · simp [h1]
  · by_cases h2 : z = b
    · simp [h2]
    · by_cases h3 : z = c
      · simp [h3]
      · by_cases h4 : z = d
        · simp [h4]
        · by_cases h5 : z = e
          · simp [h5]
          · simp [h1, h2, h3, h4, h5]
theorem mm6 {z a b c d e f : Str} {x1 x2 x3 x4 x5 x6 y1 y2 y3 y4 y5 y6 r : Option Value} : (if z = a then x1 else if z = b then x2 else if z = c then x3 else if z = d then x4 else if z = e then x5 else if z = f then x6 else if z = a then y1 else if z = b then y2 else if z = c then y3 else if z = d then y4 else if z = e then y5 else if z = f then y6 else r) = if z = a then x1 else if z = b then x2 else if z = c then x3 else if z = d then x4 else if z = e then x5 else if z = f then x6 else r := by
  by_cases h1 : z = a
  · simp [h1]
  · by_cases h2 : z = b
    · simp [h2]
    · by_cases h3 : z = c
      · simp [h3]
      · by_cases h4 : z = d
        · simp [h4]
        · by_cases h5 : z = e
          · simp [h5]
          · by_cases h6 : z = f
            · simp [h6]
            · simp [h1, h2, h3, h4, h5, h6]
theorem upd5_self (m : Str → Option Value) (a b c d e : Str) : m = fun v => if v = a then m a else if v = b then m b else if v = c then m c else if v = d then m d else if v = e then m e else m v := by
  funext v
  repeat' (split; (rename_i h; rw [h]))
  rfl
theorem upd6_self (m : Str → Option Value) (a b c d e f : Str) : m = fun v => if v = a then m a else if v = b then m b else if v = c then m c else if v = d then m d else if v = e then m e else if v = f then m f else m v := by
  funext v
  repeat' (split; (rename_i h; rw [h]))
  rfl
def LJ5 (m₀ : Str → Option Value) (i : Nat) (m : Str → Option Value) (nx : List (Addr × Obj)) : Prop :=
  nx = [] ∧ ∃ u1 u2 u3 u4 u5 : Option Value, m = fun y => if y = Str.ofString "heard" then u1 else if y = Str.ofString "is_known" then u2 else if y = Str.ofString "glyph" then u3 else if y = Str.ofString "is_wanted" then u4 else if y = Str.ofString "code" then u5 else m₀ y
def LJ6 (m₀ : Str → Option Value) (i : Nat) (m : Str → Option Value) (nx : List (Addr × Obj)) : Prop :=
  nx = [] ∧ ∃ u1 u2 u3 u4 u5 u6 : Option Value, m = fun y => if y = Str.ofString "heard" then u1 else if y = Str.ofString "is_known" then u2 else if y = Str.ofString "glyph" then u3 else if y = Str.ofString "is_wanted" then u4 else if y = Str.ofString "code" then u5 else if y = Str.ofString "selector" then u6 else m₀ y
def PrV (tls : List (Addr × Obj)) (v : Value) (p : Int × Value) : Prop := ∃ t tk k, v = .ref t ∧ (t, ({ cls := .type "tuple", data := .seq #[.int p.1 tk, p.2] k } : Obj)) ∈ tls
theorem PrV.up {tls tls' : List (Addr × Obj)} {v : Value} {p : Int × Value} (h : PrV tls v p) (hs : ∀ q ∈ tls, q ∈ tls') : PrV tls' v p := let ⟨t, tk, k, e, m⟩ := h; ⟨t, tk, k, e, hs _ m⟩
set_option maxHeartbeats 16000000 in
theorem law_walk : ∀ _ : Unit, PySem.Challenge.rw_pb0155_01.Holds := fun _ => Mine.hd (by
  w_strict (
    k_go0
    (all_goals try k_fold)
    all_goals (try (refine letA ?_; intro A9 hAu hAd; simp only [units_deeper, depth_deeper] at hAu hAd))
    k_steps
    rename_i wd s0 s1 mg mb G Y fa oo pm doc ho hg KX XX VV GL TT BB TE TW w14 w13 MM w12 w11 hcd sc hs hlay0 hL1 hr1 hl2 w9 w8 w7 w6 w5 hLs ra w1 r0 hIs hrs hco1 hco K0 hD h₁ tkA wL wN wW wC wP cL cN cW cC cP X0 D1 ws hb hIw hCs hLw l1s hk1 hk2 gb hI8 hL8 Dc hc tkp o1 hB oPen FB NB dPen
    have hne1 := ll₀
    have hlen40 : (List.map (fun k' => k') (List.take 40 sc)).length ≤ 40 := by simp only [List.length_map, List.length_take]; omega
    unfold Hold
    refine' lawvars_at ?zqB ?zqF ?zqN ?zqX ?zqT ?zqk ?zqd ?zqu ?zqP ?zqr ?zqI ?zql ?zq0 ?zq1 ?zqg ?_
    case zqF => k_asm
    case zqN => exact NB
    case zqI => with_reducible assumption
    case zqB => k_asm
    case zqX => k_asm
    case zqT => k_asm
    case zqk => exact rfl
    case zqd => ktr_room
    case zqu => ktr_units
    case zqP => omega
    case zqr => (intro p hp; simp only [List.mem_cons, List.not_mem_nil, or_false] at hp; rcases hp with rfl | rfl | rfl | rfl | rfl | rfl <;> (refine Nat.ne_of_lt ?_; dsimp only; omega))
    case zql => (simp only [List.length_map, List.length_take]; omega)
    case zq0 => decide
    case zq1 => decide
    case zqg => decide
    intro v₂ T₂ D₂ O₂ h₂ tk₂ seat₂ p1₂ great₂ p2₂ k₂ sa₂ sb₂ ga₂ F₂ N₂ V₂ hTP₂ hTR₂ hD3 hO6 hD8 hO9
    dsimp only [List.cons_append, List.nil_append] at N₂
    have hO₂ : OffAll [l₀, s1.heap.objs.size + 1, s1.heap.objs.size + 1 + 1, s1.heap.objs.size + 1 + 1 + 1, s1.heap.objs.size + 1 + 1 + 1 + 1, s1.heap.objs.size + 1 + 1 + 1 + 1 + 1] T₂ := List.forall_mem_cons.mpr ⟨hTP₂, List.forall_mem_cons.mpr ⟨fun p hp => hTR₂ p hp _ (by k_mem : (s1.heap.objs.size + 1, oPen) ∈ _), List.forall_mem_cons.mpr ⟨fun p hp => hTR₂ p hp _ (by k_mem : (s1.heap.objs.size + 1 + 1, wC) ∈ _), List.forall_mem_cons.mpr ⟨fun p hp => hTR₂ p hp _ (by k_mem : (s1.heap.objs.size + 1 + 1 + 1, wW) ∈ _), List.forall_mem_cons.mpr ⟨fun p hp => hTR₂ p hp _ (by k_mem : (s1.heap.objs.size + 1 + 1 + 1 + 1, wN) ∈ _), List.forall_mem_cons.mpr ⟨fun p hp => hTR₂ p hp _ (by k_mem : (s1.heap.objs.size + 1 + 1 + 1 + 1 + 1, wL) ∈ _), fun _ hx => nomatch hx⟩⟩⟩⟩⟩⟩
    clear hTP₂ hTR₂
    refine byC fun hG9 => ?_
    obtain ⟨dd₂, oo₂, dx₂, a1₂, a2₂, n₂, K1₂, K2₂, K3₂, K4₂⟩ := id V₂
    refine hG9 ?_
    clear hG9
    k_steps
    unfold Hold
    refine' use_pure ?zqF ?zqN (told_spec ?zqB ?zqF2 ?zqX ?zqT rfl ?zqd ?zqu ?zqK V₂ hO6 hD3 hD8) ?_
    case zqF => k_asm
    case zqN => k_asm
    case zqB => k_asm
    case zqF2 => k_asm
    case zqX => k_asm
    case zqT => k_asm
    case zqd => ktr_room
    case zqu => ktr_units
    case zqK => exact noK_at (by k_asm) (fun p hp => by (repeat apply List.Mem.tail); exact hp)
    intro r₃ h₃ tk₃ F₃ N₃ G₃ P₃
    (try dsimp only)
    refine byC fun hG9 => ?_
    obtain ⟨tl₃, ks₃, ps₃, hT₃, hTo₃, hk₃, hkw₃, hp₃, hpw₃⟩ := P₃
    refine hG9 ?_
    clear hG9
    have hz₃ := fresh_all hT₃ (by k_asm)
    have N₃' := News.grewL (by k_asm) N₃ hT₃
    k_steps
    rename_i hTb FT NT
    have N3 := News.absorb (A := [_, _, _, _, _, _, _, _]) NT
    dsimp only [List.cons_append, List.nil_append] at N3
    refine byC fun hG9 => ?_
    obtain ⟨T₃, eT₃⟩ : ∃ T, T = tl₃ ++ T₂ := ⟨_, rfl⟩
    refine hG9 ?_
    clear hG9
    rw [← eT₃] at N3
    have V₃ := V₂.mono (noK_up (U := T₃) fun p hp => by rw [eT₃]; exact List.mem_append_right _ hp)
    have To₃ := hTo₃.mono (κ' := noK.add T₃) (by rw [eT₃]; exact noK_two)
    have hO₃ := hO₂.app (List.forall_mem_cons.mpr ⟨⟨_, by k_mem⟩, List.forall_mem_cons.mpr ⟨⟨_, by k_mem⟩, List.forall_mem_cons.mpr ⟨⟨_, by k_mem⟩, List.forall_mem_cons.mpr ⟨⟨_, by k_mem⟩, List.forall_mem_cons.mpr ⟨⟨_, by k_mem⟩, List.forall_mem_cons.mpr ⟨⟨_, by k_mem⟩, fun _ hx => nomatch hx⟩⟩⟩⟩⟩⟩) hz₃
    rw [← eT₃] at hO₃
    have hTP₃ := hO₃ _ (.head _)
    have hC1₃ := hO₃ _ (.tail _ (.head _))
    have hC2₃ := hO₃ _ (.tail _ (.tail _ (.head _)))
    have hC3₃ := hO₃ _ (.tail _ (.tail _ (.tail _ (.head _))))
    have hC4₃ := hO₃ _ (.tail _ (.tail _ (.tail _ (.tail _ (.head _)))))
    have hC5₃ := hO₃ _ (.tail _ (.tail _ (.tail _ (.tail _ (.tail _ (.head _))))))
    clear NT V₂ K1₂ K2₂ K3₂ K4₂ hTo₃ hz₃ hO₂ hT₃ eT₃
    unfold Hold
    refine pyIter_baseWU rfl (by k_asm) N3 (codes_at KX) (Nat.le_of_ble_eq_true rfl) ?_
    intro g
    refine compU_inv (n := codeV.length) (fun j ys₁ nx => ∃ (tls : List (Addr × Obj)) (C : List (Int × Value)) (C0 : List (Int × Int)) (seat₄ : Int) (t1₄ : Tok) (great₄ : Int) (t2₄ : Tok) (k₄ : Nat), nx = (l₀, penO Dc seat₄ t1₄ great₄ t2₄ k₄) :: (Dc, W.listOf ys.toArray ys.length) :: (D1, W.listOf ws.toArray 0) :: (s1.heap.objs.size + 1 + 1 + 1 + 1 + 1, wL) :: (s1.heap.objs.size + 1 + 1 + 1 + 1, wN) :: (s1.heap.objs.size + 1 + 1 + 1, wW) :: (s1.heap.objs.size + 1 + 1, wC) :: (s1.heap.objs.size + 1, oPen) :: (tls ++ T₃) ∧
      R2 (PrV tls) ys₁ C ∧ R2 (fun a b => a.1 = b.1 ∧ IntV a.2 b.2) C C0 ∧ C0.map (fun x => x.1) = codeN.take j ∧ (∀ x ∈ C0, 0 ≤ x.2 ∧ x.2 < 9) ∧ (∀ p ∈ tls, p.1 ≠ l₀) ∧ 0 ≤ seat₄ ∧ seat₄ ≤ 40 + (j : Int) ∧ 0 ≤ great₄) ?_ ?_ _ 0 [] _ (Nat.zero_add _) ⟨[], [], [], _, _, _, _, _, rfl, .nil, .nil, rfl, (fun _ hx => nomatch hx), (fun _ hx => nomatch hx), sa₂, by omega, ga₂⟩
    · rintro j v₅ ys₁ nx I₅ oI₅ C₅ oC₅ D₅ m₅ h₅ tk₅ hj hv₅ hJ914 hNs hm5 F₅ N₅ off ne
      refine byC fun hG9 => ?_
      obtain ⟨tls, C, C0, seat₄, t1₄, great₄, t2₄, k₄, rfl, hys, hC0, hkeys, hvals, hPl, hsa, hsb, hga⟩ := hJ914
      obtain ⟨cc, t₅, rfl, hc1⟩ := intsGet codeI hv₅
      obtain ⟨ne1, ne2, ne3⟩ := ne
      refine hG9 ?_
      clear hG9
      have off9 := off
      refine byC fun hG9 => ?_
      obtain ⟨o1', o2', o3', o4', o5', o6', o7', o8', o9'⟩ := off
      refine hG9 ?_
      clear hG9
      dsimp only at o1' o2' o3' o4' o5' o6' o7' o8'
      refine byC fun hG9 => ?_
      obtain ⟨oa, ob, oc⟩ := o1'
      refine hG9 ?_
      clear hG9
      replace oa := neN oa
      replace ob := neN ob
      replace oc := neN oc
      have hj5 : j < 5 := hj
      (try (show wpAny _ _ _ _ _ _; k_fold))
      k_steps
      (try k_unfold)
      refine' CompEnd.intro ?ca ?cb _ (fun q hq => hq) ?cc trivial ⟨(t₀, ({ cls := .type "tuple", data := .seq #[.int cc t₅, .int r₂ t₂] } : Obj)) :: tls, C ++ [(cc, .int r₂ t₂)], C0 ++ [(cc, r₂)], _, _, _, _, _, rfl, ?cd, ?ce, ?cf, ?cg, ?ch, ?ci, ?cj, ?ck⟩
      case ca => k_asm
      case cb =>
        have q9 := News.absorb (tl := [_]) (A := [_, _, _, _, _, _, _, _, _, _, _]) Nt₀
        exact q9
      case cc => exact ⟨⟨oa, ob, oc⟩, o2', o3', o4', o5', o6', o7', o8', ⟨Nat.ne_of_gt lt₀.1, Nat.ne_of_gt lt₀.2.1, Nat.ne_of_gt lt₀.2.2.1⟩, o9'⟩
      case cd => exact (hys.imp fun _ _ h => h.up fun _ x => .tail _ x).append (.cons ⟨t₀, t₅, 0, rfl, .head _⟩ .nil)
      case ce => exact hC0.append (.cons ⟨rfl, t₂, rfl⟩ .nil)
      case cf => rw [List.map_append, hkeys, List.take_add_one, hc1]; rfl
      case cg =>
        intro x hx
        rcases List.mem_append.mp hx with hx | hx
        · exact hvals x hx
        · rw [List.mem_singleton.mp hx]; exact ⟨ra₂, rb₂⟩
      case ch => exact List.forall_mem_cons.mpr ⟨Nat.ne_of_gt lt₀.2.2.2.1, hPl⟩
      case ci => ((repeat (rename @Ne _ _ _ => hne9; clear hne9)); omega)
      case cj => ((repeat (rename @Ne _ _ _ => hne9; clear hne9)); omega)
      case ck => exact ga₂
    · rintro ys₁ nx hJ92
      refine byC fun hG9 => ?_
      obtain ⟨tls, C, C0, seat₄, t1₄, great₄, t2₄, k₄, rfl, hys, hC0, hkeys, hvals, hPl, hsa, hsb, hga⟩ := hJ92
      refine hG9 ?_
      clear hG9
      intro D₅ h₅ tk₅ F₅ N₅ off₅
      (try (show wpAny _ _ _ _ _ _; k_fold))
      k_steps
      unfold Hold
      have hbig : sysModules < s1.heap.objs.size := modules_low (Top.nolimit TT)
      have hkeys5 : C0.map (fun x => x.1) = codeN := hkeys
      have hCk : C.map (fun x => x.1) = codeN := by rw [← hkeys5]; exact hC0.keys
      have hCl : C.length = 5 := by have := congrArg List.length hCk; simpa using this
      refine dict_pairsN (ps := C) rfl (by k_asm) N₅ hbig (.head _) (hys.imp fun _ _ h => h.up fun q hq => by (repeat apply List.Mem.tail); exact List.mem_append_left _ hq) (by rw [hCl, sizeLine_eq]; omega) (by rw [hCk]; decide) ?_
      intro d₆ o₆ h₆ tk₆ F₆ N₆ lt₆ lo₆ hd₆
      refine byC fun hG9 => ?_
      obtain ⟨T₆, eT₆⟩ : ∃ T, T = (d₆, o₆) :: T₃ := ⟨_, rfl⟩
      refine hG9 ?_
      clear hG9
      have N6 := News.tidy (A := [_, _, _, _, _, _, _, _]) (X := [_, _]) (Y := [(d₆, o₆)]) N₆ (List.forall_mem_cons.mpr ⟨.head _, fun _ hx => nomatch hx⟩)
      dsimp only [List.cons_append, List.nil_append] at N6
      rw [← eT₆] at N6
      have hO₆ := OffAll.cons (a := d₆) (o := o₆) hO₃ (List.forall_mem_cons.mpr ⟨⟨_, by k_mem⟩, List.forall_mem_cons.mpr ⟨⟨_, by k_mem⟩, List.forall_mem_cons.mpr ⟨⟨_, by k_mem⟩, List.forall_mem_cons.mpr ⟨⟨_, by k_mem⟩, List.forall_mem_cons.mpr ⟨⟨_, by k_mem⟩, List.forall_mem_cons.mpr ⟨⟨_, by k_mem⟩, fun _ hx => nomatch hx⟩⟩⟩⟩⟩⟩) lt₆
      rw [← eT₆] at hO₆
      have hTP₆ := hO₆ _ (.head _)
      have hC1₆ := hO₆ _ (.tail _ (.head _))
      have hC2₆ := hO₆ _ (.tail _ (.tail _ (.head _)))
      have hC3₆ := hO₆ _ (.tail _ (.tail _ (.tail _ (.head _))))
      have hC4₆ := hO₆ _ (.tail _ (.tail _ (.tail _ (.tail _ (.head _)))))
      have hC5₆ := hO₆ _ (.tail _ (.tail _ (.tail _ (.tail _ (.tail _ (.head _))))))
      have V₆ := V₃.mono (noK_up (U := T₆) fun p hp => by rw [eT₆]; exact .tail _ hp)
      have To₆ := To₃.mono (noK_up (U := T₆) fun p hp => by rw [eT₆]; exact .tail _ hp)
      have M₆ : (d₆, o₆) ∈ T₆ := by rw [eT₆]; exact .head _
      clear N₆ N₅ V₃ To₃ hTP₃ hC1₃ hC2₃ hC3₃ hC4₃ hC5₃ hO₃ lt₆ hys hPl off₅
      k_steps
      rename_i hX oC FC NC dC
      unfold Hold
      refine dict_copyN (by k_asm) NC hbig (by (repeat apply List.Mem.tail); exact M₆) hd₆ lo₆ (by rw [hCl, sizeLine_eq]; omega) ?_
      intro d₇ o₇ h₇ F₇ N₇ lt₇ lo₇ hd₇
      k_steps
      unfold Hold
      refine new_cm (by k_asm) (by k_asm) N₇ (by k_asm) (by k_asm) rfl (by ktr_room) (by ktr_units) (.head _) hd₇ lo₇ hC0 (by rw [hCl]; decide) ?_
      intro x₈ dx₈ D₈ oD₈ kv₈ h₈ tk₈ p₈ q₈ F₈ N₈ hoD₈ hR₈ lo₈
      refine byC fun hG9 => ?_
      obtain ⟨T₈, eT₈⟩ : ∃ T, T = (x₈, instObj 96 dx₈) :: (dx₈, two wd (Str.ofString "codes") (Str.ofString "variations") p₈ q₈ (.ref D₈) (.ref v₂) 2) :: (D₈, oD₈) :: T₆ := ⟨_, rfl⟩
      refine hG9 ?_
      clear hG9
      have N8 := News.tidy0 (A := [_, _, _, _, _, _, _, _]) (X := [_, _, _, _]) (Y := [(x₈, instObj 96 dx₈), (dx₈, two wd (Str.ofString "codes") (Str.ofString "variations") p₈ q₈ (.ref D₈) (.ref v₂) 2), (D₈, oD₈)]) N₈ (List.forall_mem_cons.mpr ⟨.head _, List.forall_mem_cons.mpr ⟨.tail _ (.head _), List.forall_mem_cons.mpr ⟨.tail _ (.tail _ (.head _)), fun _ hx => nomatch hx⟩⟩⟩)
      dsimp only [List.cons_append, List.nil_append] at N8
      rw [← eT₈] at N8
      have hO₈ := ((hO₆.kind N₈ (List.forall_mem_cons.mpr ⟨⟨_, by k_mem, rfl⟩, List.forall_mem_cons.mpr ⟨⟨_, by k_mem, by rw [kd, dPen]⟩, List.forall_mem_cons.mpr ⟨⟨_, by k_mem, by rw [kd, dC]⟩, List.forall_mem_cons.mpr ⟨⟨_, by k_mem, by rw [kd, cW]⟩, List.forall_mem_cons.mpr ⟨⟨_, by k_mem, by rw [kd, cN]⟩, List.forall_mem_cons.mpr ⟨⟨_, by k_mem, by rw [kd, cL]⟩, fun _ hx => nomatch hx⟩⟩⟩⟩⟩⟩) (a := D₈) (o := oD₈) (by k_mem) (kd_dict hoD₈)).kind N₈ (List.forall_mem_cons.mpr ⟨⟨_, by k_mem, rfl⟩, List.forall_mem_cons.mpr ⟨⟨_, by k_mem, by rw [kd, dPen]⟩, List.forall_mem_cons.mpr ⟨⟨_, by k_mem, by rw [kd, dC]⟩, List.forall_mem_cons.mpr ⟨⟨_, by k_mem, by rw [kd, cW]⟩, List.forall_mem_cons.mpr ⟨⟨_, by k_mem, by rw [kd, cN]⟩, List.forall_mem_cons.mpr ⟨⟨_, by k_mem, by rw [kd, cL]⟩, fun _ hx => nomatch hx⟩⟩⟩⟩⟩⟩) (.tail _ (.head _)) rfl).kind N₈ (List.forall_mem_cons.mpr ⟨⟨_, by k_mem, rfl⟩, List.forall_mem_cons.mpr ⟨⟨_, by k_mem, by rw [kd, dPen]⟩, List.forall_mem_cons.mpr ⟨⟨_, by k_mem, by rw [kd, dC]⟩, List.forall_mem_cons.mpr ⟨⟨_, by k_mem, by rw [kd, cW]⟩, List.forall_mem_cons.mpr ⟨⟨_, by k_mem, by rw [kd, cN]⟩, List.forall_mem_cons.mpr ⟨⟨_, by k_mem, by rw [kd, cL]⟩, fun _ hx => nomatch hx⟩⟩⟩⟩⟩⟩) (.head _) rfl
      rw [← eT₈] at hO₈
      clear hTP₆ hC1₆ hC2₆ hC3₆ hC4₆ hC5₆
      have hTP₈ := hO₈ _ (.head _)
      have hC1₈ := hO₈ _ (.tail _ (.head _))
      have hC2₈ := hO₈ _ (.tail _ (.tail _ (.head _)))
      have hC3₈ := hO₈ _ (.tail _ (.tail _ (.tail _ (.head _))))
      have hC4₈ := hO₈ _ (.tail _ (.tail _ (.tail _ (.tail _ (.head _)))))
      have hC5₈ := hO₈ _ (.tail _ (.tail _ (.tail _ (.tail _ (.tail _ (.head _))))))
      have V₈ := V₆.mono (noK_up (U := T₈) fun p hp => by rw [eT₈]; exact .tail _ (.tail _ (.tail _ hp)))
      have To₈ := To₆.mono (noK_up (U := T₈) fun p hp => by rw [eT₈]; exact .tail _ (.tail _ (.tail _ hp)))
      have M₈ : (d₆, o₆) ∈ T₈ := by rw [eT₈]; exact .tail _ (.tail _ (.tail _ M₆))
      have VC₈ : CmK PySem.Challenge.rw_pb0155_01.row.prog wd (noK.add T₈) x₈ (C0.filter fun x => x.2 != 0) (.ref v₂) := by
        rw [eT₈]
        exact ⟨D₈, dx₈, p₈, q₈, 2, .inr (.head _), .inr (.tail _ (.head _)), lo₈, kv₈, ⟨oD₈, .inr (.tail _ (.tail _ (.head _))), hoD₈⟩, hR₈⟩
      clear NC N₇ N₈ lt₇ hd₇ lo₇ V₆ To₆ M₆ hO₆ eT₆
      iterate 29 (first | (k_unfold; (try dsimp only)) | walk1 | (dsimp only; walk1) | (leave1; try dsimp only))
      rename_i Dw hw FW NW lW
      have NW' : News s1.heap s1.heap.objs.size hw ((Dw, W.listOf wantV.toArray 0) :: (l₀, penO Dc seat₄ t1₄ great₄ t2₄ k₄) :: (Dc, W.listOf ys.toArray ys.length) :: (D1, W.listOf ws.toArray 0) :: (s1.heap.objs.size + 1 + 1 + 1 + 1 + 1, wL) :: (s1.heap.objs.size + 1 + 1 + 1 + 1, wN) :: (s1.heap.objs.size + 1 + 1 + 1, wW) :: (s1.heap.objs.size + 1 + 1, oC) :: (s1.heap.objs.size + 1, oPen) :: (T₈)) := News.sub NW (List.forall_mem_cons.mpr ⟨.head _, fun p hp => .tail _ (.tail _ (.tail _ (.tail _ hp)))⟩)
      refine byC fun hG9 => ?_
      obtain ⟨-, -, -, lWP, -⟩ := lW
      refine hG9 ?_
      clear hG9
      clear NW
      refine pyIter_ledW (vs := wantV) (c := 0) rfl (by k_asm) NW' (.head _) (Nat.le_of_ble_eq_true rfl) ?_
      intro g₉
      refine compT_inv (n := wantV.length) (fun j ys₁ nx => ∃ (tls : List (Addr × Obj)) (Wk : List (Int × Value)) (seat₄ : Int) (t1₄ : Tok) (great₄ : Int) (t2₄ : Tok) (k₄ : Nat), nx = (Dw, W.listOf wantV.toArray 0) :: (l₀, penO Dc seat₄ t1₄ great₄ t2₄ k₄) :: (Dc, W.listOf ys.toArray ys.length) :: (D1, W.listOf ws.toArray 0) :: (s1.heap.objs.size + 1 + 1 + 1 + 1 + 1, wL) :: (s1.heap.objs.size + 1 + 1 + 1 + 1, wN) :: (s1.heap.objs.size + 1 + 1 + 1, wW) :: (s1.heap.objs.size + 1 + 1, oC) :: (s1.heap.objs.size + 1, oPen) :: (tls ++ T₈) ∧
        R2 (PrV tls) ys₁ Wk ∧ (Wk.map (fun x => x.1)).Sublist (wantN.take j) ∧ (∀ p ∈ tls, p.1 ≠ l₀) ∧ 0 ≤ seat₄ ∧ seat₄ ≤ 50 + (j : Int) ∧ 0 ≤ great₄) ?_ ?_ _ 0 [] _ (Nat.zero_add _) ⟨[], [], _, _, _, _, _, rfl, .nil, List.Sublist.refl _, (fun _ hx => nomatch hx), hsa, ?_, hga⟩
      · rintro j v₅ ys₁ nx I₅ oI₅ C₅ oC₅ D₅ m₅ h₅ tk₅ hj hv₅ hJ914 hNs hm5 F₅ N₅ off ne
        refine byC fun hG9 => ?_
        obtain ⟨tls, Wk, seat₄, t1₄, great₄, t2₄, k₄, rfl, hys, hkeysW, hPl, hsa, hsb, hga⟩ := hJ914
        obtain ⟨cc, t₅, rfl, hc1⟩ := intsGet wantI hv₅
        obtain ⟨ne1, ne2, ne3⟩ := ne
        refine hG9 ?_
        clear hG9
        have off9 := off
        refine byC fun hG9 => ?_
        obtain ⟨o0', o1', o2', o3', o4', o5', o6', o7', o8', o9'⟩ := off
        refine hG9 ?_
        clear hG9
        dsimp only at o0' o1' o2' o3' o4' o5' o6' o7' o8'
        refine byC fun hG9 => ?_
        obtain ⟨oa, ob, oc⟩ := o1'
        refine hG9 ?_
        clear hG9
        replace oa := neN oa
        replace ob := neN ob
        replace oc := neN oc
        have hj5 : j < 7 := hj
        have hsq : wantN.take (j + 1) = wantN.take j ++ [cc] := by rw [List.take_add_one, hc1]; rfl
        (try (show wpAny _ _ _ _ _ _; k_fold))
        k_steps
        · (try k_unfold)
          refine' CompEnd.intro ?ca ?cb _ (fun q hq => hq) ?cc ?cs ⟨(t₀, ({ cls := .type "tuple", data := .seq #[.int cc t₅, .bool true] } : Obj)) :: tls, Wk ++ [(cc, .bool true)], _, _, _, _, _, rfl, ?cd, ?ce, ?ch, ?ci, ?cj, ?ck⟩
          case ca => k_asm
          case cb =>
            have q9 := News.absorb (tl := [_]) (A := [_, _, _, _, _, _, _, _, _, _, _, _]) Nt₀
            exact q9
          case cc => exact ⟨o0', ⟨oa, ob, oc⟩, o2', o3', o4', o5', o6', o7', o8', ⟨Nat.ne_of_gt lt₀.1, Nat.ne_of_gt lt₀.2.1, Nat.ne_of_gt lt₀.2.2.1⟩, o9'⟩
          case cs => exact .head _
          case cd => exact (hys.imp fun _ _ h => h.up fun _ x => .tail _ x).append (.cons ⟨t₀, t₅, 0, rfl, .head _⟩ .nil)
          case ce => rw [hsq, List.map_append]; exact hkeysW.append (List.Sublist.refl _)
          case ch => exact List.forall_mem_cons.mpr ⟨Nat.ne_of_gt lt₀.2.2.2.2.1, hPl⟩
          case ci => ((repeat (rename @Ne _ _ _ => hne9; clear hne9)); omega)
          case cj => ((repeat (rename @Ne _ _ _ => hne9; clear hne9)); omega)
          case ck => exact ga₂
        · (try k_unfold)
          refine' CompEnd.intro ?ca ?cb _ (fun q hq => hq) ?cc ?cs ⟨tls, Wk, _, _, _, _, _, rfl, hys, ?ce, hPl, ?ci, ?cj, ?ck⟩
          case ca => k_asm
          case cb => k_asm
          case cc => exact off9
          case cs => exact .head _
          case ce => rw [hsq]; exact hkeysW.trans (List.sublist_append_left _ _)
          case ci => ((repeat (rename @Ne _ _ _ => hne9; clear hne9)); omega)
          case cj => ((repeat (rename @Ne _ _ _ => hne9; clear hne9)); omega)
          case ck => exact ga₂
      rotate_left
      · exact Int.le_trans hsb (by decide)
      rintro ys₁ nx hJ92
      refine byC fun hG9 => ?_
      obtain ⟨tls, Wk, seat₄, t1₄, great₄, t2₄, k₄, rfl, hys, hkeysW, hPl, hsa, hsb, hga⟩ := hJ92
      refine hG9 ?_
      clear hG9
      intro D₅ h₅ tk₅ F₅ N₅ off₅
      k_steps
      unfold Hold
      have hWn : (Wk.map (fun x => x.1)).Nodup := List.Sublist.nodup hkeysW (by decide)
      have hWl : Wk.length ≤ 7 := by have := hkeysW.length_le; simpa using this
      refine dict_pairsN (ps := Wk) rfl (by k_asm) N₅ hbig (.head _) (hys.imp fun _ _ h => h.up fun q hq => by (repeat apply List.Mem.tail); exact List.mem_append_left _ hq) (by rw [sizeLine_eq]; omega) hWn ?_
      intro d₉ o₉ h₉ tk₉ F₉ N₉ lt₉ lo₉ hd₉
      refine byC fun hG9 => ?_
      obtain ⟨T₉, eT₉⟩ : ∃ T, T = (d₉, o₉) :: T₈ := ⟨_, rfl⟩
      refine hG9 ?_
      clear hG9
      have N9 := News.tidy (A := [_, _, _, _, _, _, _, _]) (X := [_, _, _]) (Y := [(d₉, o₉)]) N₉ (List.forall_mem_cons.mpr ⟨.head _, fun _ hx => nomatch hx⟩)
      dsimp only [List.cons_append, List.nil_append] at N9
      rw [← eT₉] at N9
      have hO₉ := OffAll.cons (a := d₉) (o := o₉) hO₈ (List.forall_mem_cons.mpr ⟨⟨_, by k_mem⟩, List.forall_mem_cons.mpr ⟨⟨_, by k_mem⟩, List.forall_mem_cons.mpr ⟨⟨_, by k_mem⟩, List.forall_mem_cons.mpr ⟨⟨_, by k_mem⟩, List.forall_mem_cons.mpr ⟨⟨_, by k_mem⟩, List.forall_mem_cons.mpr ⟨⟨_, by k_mem⟩, fun _ hx => nomatch hx⟩⟩⟩⟩⟩⟩) lt₉
      rw [← eT₉] at hO₉
      clear hTP₈ hC1₈ hC2₈ hC3₈ hC4₈ hC5₈
      have hTP₉ := hO₉ _ (.head _)
      have hC1₉ := hO₉ _ (.tail _ (.head _))
      have hC2₉ := hO₉ _ (.tail _ (.tail _ (.head _)))
      have hC3₉ := hO₉ _ (.tail _ (.tail _ (.tail _ (.head _))))
      have hC4₉ := hO₉ _ (.tail _ (.tail _ (.tail _ (.tail _ (.head _)))))
      have hC5₉ := hO₉ _ (.tail _ (.tail _ (.tail _ (.tail _ (.tail _ (.head _))))))
      have V₉ := V₈.mono (noK_up (U := T₉) fun p hp => by rw [eT₉]; exact .tail _ hp)
      have To₉ := To₈.mono (noK_up (U := T₉) fun p hp => by rw [eT₉]; exact .tail _ hp)
      have VC₉ := VC₈.mono (noK_up (U := T₉) fun p hp => by rw [eT₉]; exact .tail _ hp)
      have M₉ : (d₆, o₆) ∈ T₉ := by rw [eT₉]; exact .tail _ M₈
      have MW₉ : (d₉, o₉) ∈ T₉ := by rw [eT₉]; exact .head _
      clear N₉ N₅ V₈ To₈ VC₈ M₈ hO₈ lt₉ hys hPl off₅ eT₉ lWP hI8 hIw
      k_steps
      rename_i hX oW FX NX dW hY tkR tA uA vA hrg FR NR _
      unfold Hold
      refine pyIter_rangeWU (n := 9) rfl (by k_asm) NR hrg rfl (by decide) ?_
      intro g₁₀
      refine compU_inv (n := 9) (fun j ys₁ nx => ∃ (tls : List (Addr × Obj)) (Nk : List (Int × Value)), nx = (l₀, penO Dc seat₄ t1₄ great₄ t2₄ k₄) :: (Dc, W.listOf ys.toArray ys.length) :: (D1, W.listOf ws.toArray 0) :: (s1.heap.objs.size + 1 + 1 + 1 + 1 + 1, wL) :: (s1.heap.objs.size + 1 + 1 + 1 + 1, wN) :: (s1.heap.objs.size + 1 + 1 + 1, oW) :: (s1.heap.objs.size + 1 + 1, oC) :: (s1.heap.objs.size + 1, oPen) :: (tls ++ T₉) ∧ R2 (PrV tls) ys₁ Nk ∧ R2 (fun a b => a.1 = b.1 ∧ IntV a.2 b.2) Nk ((List.range j).map numAt)) ?_ ?_ _ 0 [] _ (Nat.zero_add _) ⟨[], [], rfl, .nil, .nil⟩
      · rintro j v₅ ys₁ nx I₅ oI₅ C₅ oC₅ D₅ m₅ h₅ tk₅ hj hJ913 hJ914 hNs hm5 F₅ N₅ off ne
        refine byC fun hG9 => ?_
        obtain ⟨t₅, rfl⟩ := hJ913
        obtain ⟨tls, Nk, rfl, hys, hNk⟩ := hJ914
        obtain ⟨ne1, ne2, ne3⟩ := ne
        refine hG9 ?_
        clear hG9
        have off9 := off
        refine byC fun hG9 => ?_
        obtain ⟨o1', o2', o3', o4', o5', o6', o7', o8', o9'⟩ := off
        refine hG9 ?_
        clear hG9
        dsimp only at o1' o2' o3' o4' o5' o6' o7' o8'
        have hsq : (List.range (j + 1)).map numAt = (List.range j).map numAt ++ [numAt j] := by rw [List.range_succ, List.map_append]; rfl
        (try (show wpAny _ _ _ _ _ _; k_fold))
        k_steps
        · (try k_unfold)
          refine' CompEnd.intro ?caa ?cba _ (fun q hq => hq) ?cca trivial ⟨(t₀, ({ cls := .type "tuple", data := .seq #[.int (j : Int) t₅, ?vala] } : Obj)) :: tls, Nk ++ [((j : Int), ?vala)], rfl, ?cda, ?cea⟩
          case caa => k_asm
          case cba =>
            have q9 := News.absorb (tl := [_]) (A := [_, _, _, _, _, _, _, _, _, _, _]) Nt₀
            exact q9
          case cca => exact ⟨o1', o2', o3', o4', o5', o6', o7', o8', ⟨Nat.ne_of_gt lt₀.1, Nat.ne_of_gt lt₀.2.1, Nat.ne_of_gt lt₀.2.2.1⟩, o9'⟩
          case cda => exact (hys.imp fun _ _ h => h.up fun _ x => .tail _ x).append (.cons ⟨t₀, t₅, 0, rfl, .head _⟩ .nil)
          case cea =>
            rw [hsq]
            refine' hNk.append (.cons ⟨rfl, ?wa, ?hha⟩ .nil)
            case hha =>
             show Value.int _ _ = Value.int (if _ then _ else _) _
             first | rw [if_pos (by assumption)] | rw [if_neg (by assumption)]
        · (try k_unfold)
          refine' CompEnd.intro ?cab ?cbb _ (fun q hq => hq) ?ccb trivial ⟨(t₀, ({ cls := .type "tuple", data := .seq #[.int (j : Int) t₅, ?valb] } : Obj)) :: tls, Nk ++ [((j : Int), ?valb)], rfl, ?cdb, ?ceb⟩
          case cab => k_asm
          case cbb =>
            have q9 := News.absorb (tl := [_]) (A := [_, _, _, _, _, _, _, _, _, _, _]) Nt₀
            exact q9
          case ccb => exact ⟨o1', o2', o3', o4', o5', o6', o7', o8', ⟨Nat.ne_of_gt lt₀.1, Nat.ne_of_gt lt₀.2.1, Nat.ne_of_gt lt₀.2.2.1⟩, o9'⟩
          case cdb => exact (hys.imp fun _ _ h => h.up fun _ x => .tail _ x).append (.cons ⟨t₀, t₅, 0, rfl, .head _⟩ .nil)
          case ceb =>
            rw [hsq]
            refine' hNk.append (.cons ⟨rfl, ?wb, ?hhb⟩ .nil)
            case hhb =>
             show Value.int _ _ = Value.int (if _ then _ else _) _
             first | rw [if_pos (by assumption)] | rw [if_neg (by assumption)]
      rintro ys₁ nx hJ92
      refine byC fun hG9 => ?_
      obtain ⟨tls, Nk, rfl, hys, hNk⟩ := hJ92
      refine hG9 ?_
      clear hG9
      intro D₅ h₅ tk₅ F₅ N₅ off₅
      k_steps
      unfold Hold
      have hNl : Nk.length = 9 := by have := hNk.length; simpa using this
      refine dict_pairsN (ps := Nk) rfl (by k_asm) N₅ hbig (.head _) (hys.imp fun _ _ h => h.up fun q hq => by (repeat apply List.Mem.tail); exact List.mem_append_left _ hq) (by rw [hNl, sizeLine_eq]; omega) (by rw [hNk.keys]; decide) ?_
      intro d₁₀ o₁₀ h₁₀ tk₁₀ F₁₀ N₁₀ lt₁₀ lo₁₀ hd₁₀
      refine byC fun hG9 => ?_
      obtain ⟨T₁₀, eT₁₀⟩ : ∃ T, T = (d₁₀, o₁₀) :: T₉ := ⟨_, rfl⟩
      refine hG9 ?_
      clear hG9
      have N10 := News.tidy (A := [_, _, _, _, _, _, _, _]) (X := [_, _]) (Y := [(d₁₀, o₁₀)]) N₁₀ (List.forall_mem_cons.mpr ⟨.head _, fun _ hx => nomatch hx⟩)
      dsimp only [List.cons_append, List.nil_append] at N10
      rw [← eT₁₀] at N10
      have hO₁₀ := OffAll.cons (a := d₁₀) (o := o₁₀) hO₉ (List.forall_mem_cons.mpr ⟨⟨_, by k_mem⟩, List.forall_mem_cons.mpr ⟨⟨_, by k_mem⟩, List.forall_mem_cons.mpr ⟨⟨_, by k_mem⟩, List.forall_mem_cons.mpr ⟨⟨_, by k_mem⟩, List.forall_mem_cons.mpr ⟨⟨_, by k_mem⟩, List.forall_mem_cons.mpr ⟨⟨_, by k_mem⟩, fun _ hx => nomatch hx⟩⟩⟩⟩⟩⟩) lt₁₀
      rw [← eT₁₀] at hO₁₀
      clear hTP₉ hC1₉ hC2₉ hC3₉ hC4₉ hC5₉
      have hTP₁₀ := hO₁₀ _ (.head _)
      have hC1₁₀ := hO₁₀ _ (.tail _ (.head _))
      have hC2₁₀ := hO₁₀ _ (.tail _ (.tail _ (.head _)))
      have hC3₁₀ := hO₁₀ _ (.tail _ (.tail _ (.tail _ (.head _))))
      have hC4₁₀ := hO₁₀ _ (.tail _ (.tail _ (.tail _ (.tail _ (.head _)))))
      have hC5₁₀ := hO₁₀ _ (.tail _ (.tail _ (.tail _ (.tail _ (.tail _ (.head _))))))
      have u₁₀ : ∀ p ∈ T₉, p ∈ T₁₀ := fun p hp => by rw [eT₁₀]; exact .tail _ hp
      have LK : LawK PySem.Challenge.rw_pb0155_01.row.prog wd T₁₀ v₂ D₂ O₂ x₈ (C0.filter fun x => x.2 != 0) r₃ (rowsOf D₂ ks₃) (pairsOfQ O₂ ps₃) d₉ o₉ Wk d₁₀ o₁₀ Nk numL d₆ o₆ :=
        ⟨V₉.mono (noK_up u₁₀), VC₉.mono (noK_up u₁₀), To₉.mono (noK_up u₁₀), u₁₀ _ MW₉, hd₉, lo₉, by rw [eT₁₀]; exact .head _, hd₁₀, lo₁₀, hNk, u₁₀ _ M₉⟩
      clear N₁₀ N₅ V₉ To₉ VC₉ M₉ MW₉ hO₉ lt₁₀ hys off₅ eT₁₀ hrg NR FR NX FX u₁₀
      k_steps
      rename_i hX3 oN FX3 NX3 dN
      unfold Hold
      refine' use_pure ?zqF ?zqN (cut_vars_T ?zqB ?zqF2 ?zqX ?zqT rfl ?zqd ?zqu ?zqK LK.V LK.DW LK.lW hO6 hD3 hD8) ?_
      case zqF => k_asm
      case zqN => k_asm
      case zqB => k_asm
      case zqF2 => k_asm
      case zqX => k_asm
      case zqT => k_asm
      case zqd => ktr_room
      case zqu => ktr_units
      case zqK => exact noK_at (by k_asm) (fun p hp => by (repeat apply List.Mem.tail); exact hp)
      intro r₁₁ h₁₁ tk₁₁ F₁₁ N₁₁ G₁₁ P₁₁
      (try dsimp only)
      refine byC fun hG9 => ?_
      obtain ⟨vL, tlL, nsL, qsL, rfl, hTL, VL, hpL, hwL, hqL, hqwL⟩ := P₁₁
      refine hG9 ?_
      clear hG9
      have hzL := fresh_all hTL (by k_asm)
      have NL := News.absorb (A := [_, _, _, _, _, _, _, _]) (News.grewL (by k_asm) N₁₁ hTL)
      dsimp only [List.cons_append, List.nil_append] at NL
      refine byC fun hG9 => ?_
      obtain ⟨T₁₁, eT₁₁⟩ : ∃ T, T = tlL ++ T₁₀ := ⟨_, rfl⟩
      refine hG9 ?_
      clear hG9
      have hO₁₁ := hO₁₀.app (List.forall_mem_cons.mpr ⟨⟨_, by k_mem⟩, List.forall_mem_cons.mpr ⟨⟨_, by k_mem⟩, List.forall_mem_cons.mpr ⟨⟨_, by k_mem⟩, List.forall_mem_cons.mpr ⟨⟨_, by k_mem⟩, List.forall_mem_cons.mpr ⟨⟨_, by k_mem⟩, List.forall_mem_cons.mpr ⟨⟨_, by k_mem⟩, fun _ hx => nomatch hx⟩⟩⟩⟩⟩⟩) hzL
      replace LK := LK.up (U := T₁₁) fun p hp => by rw [eT₁₁]; exact List.mem_append_right _ hp
      replace VL := VL.mono (κ' := noK.add T₁₁) (by rw [eT₁₁]; exact noK_two)
      rw [← eT₁₁] at hO₁₁ NL
      clear hTP₁₀ hC1₁₀ hC2₁₀ hC3₁₀ hC4₁₀ hC5₁₀
      have hTP₁₁ := hO₁₁ _ (.head _)
      have hC1₁₁ := hO₁₁ _ (.tail _ (.head _))
      have hC2₁₁ := hO₁₁ _ (.tail _ (.tail _ (.head _)))
      have hC3₁₁ := hO₁₁ _ (.tail _ (.tail _ (.tail _ (.head _))))
      have hC4₁₁ := hO₁₁ _ (.tail _ (.tail _ (.tail _ (.tail _ (.head _)))))
      have hC5₁₁ := hO₁₁ _ (.tail _ (.tail _ (.tail _ (.tail _ (.tail _ (.head _))))))
      clear hTL hzL eT₁₁ hO₁₀
      k_steps
      rename_i hX4 oL FX4 NX4 dL
      unfold Hold
      have hC1v : ∀ x ∈ (C0.filter fun x => x.2 != 0), 0 ≤ x.2 ∧ x.2 < 9 := fun x hx => hvals x (List.mem_filter.mp hx).1
      refine' use_pure ?zqF ?zqN (cut_charmap_spec ?zqB ?zqF2 ?zqX ?zqT rfl ?zqd ?zqu ?zqK LK.VC LK.V LK.DW LK.lW LK.VN hO6 hD3 hD8 (by omega) (fun k _ => num_ok _ (gl_in hC1v k)) (fun q g hq => num_ok _ (hO9 _ (lk_some_mem hq)))) ?_
      case zqF => k_asm
      case zqN => k_asm
      case zqB => k_asm
      case zqF2 => k_asm
      case zqX => k_asm
      case zqT => k_asm
      case zqd => ktr_room
      case zqu => ktr_units
      case zqK => exact noK_at (by k_asm) (fun p hp => by (repeat apply List.Mem.tail); exact hp)
      intro r₁₂ h₁₂ tk₁₂ F₁₂ N₁₂ G₁₂ P₁₂
      (try dsimp only)
      refine byC fun hG9 => ?_
      obtain ⟨cK, vK, tlK, nsK3, nsK, qsK, qsK2, rfl, hTK, CK, VK, hpK3, hpK, hwK, hqK, hqwK, hq2K, hqw2K⟩ := P₁₂
      refine hG9 ?_
      clear hG9
      have NK := News.absorb (A := [_, _, _, _, _, _, _, _]) (News.grewL (by k_asm) N₁₂ hTK)
      dsimp only [List.cons_append, List.nil_append] at NK
      refine byC fun hG9 => ?_
      obtain ⟨T₁₂, eT₁₂⟩ : ∃ T, T = tlK ++ T₁₁ := ⟨_, rfl⟩
      refine hG9 ?_
      clear hG9
      have u₁₂ : ∀ p ∈ T₁₁, p ∈ T₁₂ := fun p hp => by rw [eT₁₂]; exact List.mem_append_right _ hp
      replace LK := LK.up u₁₂
      replace VL := VL.mono (noK_up u₁₂)
      replace VK := VK.mono (κ' := noK.add T₁₂) (by rw [eT₁₂]; exact noK_two)
      replace CK := CK.mono (κ' := noK.add T₁₂) (by rw [eT₁₂]; exact noK_two)
      rw [← eT₁₂] at NK
      clear hTP₁₁ hC1₁₁ hC2₁₁ hC3₁₁ hC4₁₁ hC5₁₁
      clear hTK eT₁₂ hO₁₁ u₁₂
      have LV := LK.V
      have LVC := LK.VC
      have LDW := LK.DW
      have LlW := LK.lW
      have LVN := LK.VN
      clear cL cN cW cC cP X0 hCs hLw l1s hk1 hk2 hL8 o1 hne1 hs hlay0 hL1 hr1 hl2 w1 r0 hrs
      have D6 : DictK PySem.Challenge.rw_pb0155_01.row.prog wd (noK.add T₁₂) d₆ C := ⟨o₆, .inr LK.m6, hd₆⟩
      refine byC fun hG9 => ?_
      obtain ⟨ccx, dxx, tx1, tx2, nx9, kx1, kx2, -⟩ := id LVC
      obtain ⟨cck, dxk, tk1', tk2', nk9, kk1, kk2, -⟩ := id CK
      obtain ⟨ddv, oov, dxv, tv1, tv2, nv9, kv1, kv2, krv, -⟩ := id LV
      refine hG9 ?_
      clear hG9
      have hnD : (D₂.map (fun x => x.1)).Nodup := by
        refine byC fun hG9 => ?_
        obtain ⟨_, kvD, ⟨oD9, _, _, _, _, _, _, _, hnd⟩, hRD⟩ := id krv
        refine hG9 ?_
        clear hG9
        rw [← hRD.keys]; exact hnd
      clear krv
      refine byC fun hG9 => ?_
      obtain ⟨ddl, ool, dxl, tl1, tl2, nl9, kl1, kl2, krl, -⟩ := id VL
      refine hG9 ?_
      clear hG9
      have hC1g := gl_in hC1v
      have hOg := lk_in hO9
      have hC0n : (C0.map (fun x => x.1)).Nodup := by rw [hkeys5]; decide
      have hCod : ∀ k, ∃ n, lk numL (gl C0 k) = some n := fun k => num_ok _ (gl_in hvals k)
      k_steps
      rename_i Dq hq1 FQ NQ lQ
      have NQ' : News s1.heap s1.heap.objs.size hq1 ((Dq, W.listOf ([.int 65024 324, .int 65025 325, .int 917760 326, .int 7 tk] : List Value).toArray 0) :: (s1.heap.objs.size + 1 + 1 + 1 + 1 + 1, oL) :: (s1.heap.objs.size + 1 + 1 + 1 + 1, oN) :: (s1.heap.objs.size + 1 + 1 + 1, oW) :: (s1.heap.objs.size + 1 + 1, oC) :: (s1.heap.objs.size + 1, oPen) :: T₁₂) := by
        exact News.sub NQ (List.forall_mem_cons.mpr ⟨.head _, fun p hp => .tail _ (.tail _ (.tail _ (.tail _ (.tail _ hp))))⟩)
      clear NQ lQ
      refine byC fun hG9 => ?_
      obtain ⟨tq, rfl⟩ : ∃ x, x = tk := ⟨_, rfl⟩
      refine hG9 ?_
      clear hG9
      refine ⟨_, Dq, [.int 65024 324, .int 65025 325, .int 917760 326, .int 7 tq], (Dq, W.listOf ([.int 65024 324, .int 65025 325, .int 917760 326, .int 7 tq] : List Value).toArray 0) :: (s1.heap.objs.size + 1 + 1 + 1 + 1 + 1, oL) :: (s1.heap.objs.size + 1 + 1 + 1 + 1, oN) :: (s1.heap.objs.size + 1 + 1 + 1, oW) :: (s1.heap.objs.size + 1 + 1, oC) :: (s1.heap.objs.size + 1, oPen) :: T₁₂, [], ?m₀, LJ6 ?m₀, rfl, rfl, by k_asm, (by rw [List.append_nil]; exact NQ'), (fun h _ hk => ⟨_, hk _ (.head _), rfl, _, rfl⟩), ⟨rfl, _, _, _, _, _, _, upd6_self _ (Str.ofString "heard") (Str.ofString "is_known") (Str.ofString "glyph") (Str.ofString "is_wanted") (Str.ofString "code") (Str.ofString "selector")⟩, ?_, ?_⟩
      · rintro i v I oI m₁ nx h tk hv hJ99 hI1 - - F₂ N₂
        refine byC fun hG9 => ?_
        obtain ⟨rfl, u1, u2, u3, u4, u5, u6, rfl⟩ := hJ99
        obtain ⟨sel, ts, rfl, -⟩ := intsGet (.cons 65024 324 (.cons 65025 325 (.cons 917760 326 (.cons 7 tq .nil)))) hv
        refine hG9 ?_
        clear hG9
        simp only [List.append_nil] at N₂
        have hIq : ∀ p ∈ (Dq, W.listOf ([.int 65024 324, .int 65025 325, .int 917760 326, .int 7 tq] : List Value).toArray 0) :: (s1.heap.objs.size + 1 + 1 + 1 + 1 + 1, oL) :: (s1.heap.objs.size + 1 + 1 + 1 + 1, oN) :: (s1.heap.objs.size + 1 + 1 + 1, oW) :: (s1.heap.objs.size + 1 + 1, oC) :: (s1.heap.objs.size + 1, oPen) :: T₁₂, p.1 < I := hI1
        (try (show wpAny _ _ _ _ _ _; k_fold))
        k_steps
        rename_i Dr hr1 FR NR lR
        have NR' : News s1.heap s1.heap.objs.size hr1 ((Dr, W.listOf ([.int 65 328, .int 66 329, .int 67 330, .int 65024 331, .int 19968 332, .int 90 tk] : List Value).toArray 0) :: (I, oI) :: (Dq, W.listOf ([.int 65024 324, .int 65025 325, .int 917760 326, .int 7 tq] : List Value).toArray 0) :: (s1.heap.objs.size + 1 + 1 + 1 + 1 + 1, oL) :: (s1.heap.objs.size + 1 + 1 + 1 + 1, oN) :: (s1.heap.objs.size + 1 + 1 + 1, oW) :: (s1.heap.objs.size + 1 + 1, oC) :: (s1.heap.objs.size + 1, oPen) :: T₁₂) := by
          exact News.sub NR (List.forall_mem_cons.mpr ⟨.head _, fun p hp => .tail _ (.tail _ hp)⟩)
        clear NR lR
        refine byC fun hG9 => ?_
        obtain ⟨tr, rfl⟩ : ∃ x, x = tk := ⟨_, rfl⟩
        refine hG9 ?_
        clear hG9
        refine ⟨_, Dr, [.int 65 328, .int 66 329, .int 67 330, .int 65024 331, .int 19968 332, .int 90 tr], (Dr, W.listOf ([.int 65 328, .int 66 329, .int 67 330, .int 65024 331, .int 19968 332, .int 90 tr] : List Value).toArray 0) :: (I, oI) :: (Dq, W.listOf ([.int 65024 324, .int 65025 325, .int 917760 326, .int 7 tq] : List Value).toArray 0) :: (s1.heap.objs.size + 1 + 1 + 1 + 1 + 1, oL) :: (s1.heap.objs.size + 1 + 1 + 1 + 1, oN) :: (s1.heap.objs.size + 1 + 1 + 1, oW) :: (s1.heap.objs.size + 1 + 1, oC) :: (s1.heap.objs.size + 1, oPen) :: T₁₂, [], ?m₁₀, LJ5 ?m₁₀, rfl, rfl, by k_asm, (by rw [List.append_nil]; exact NR'), (fun h _ hk => ⟨_, hk _ (.head _), rfl, _, rfl⟩), ⟨rfl, _, _, _, _, _, upd5_self _ (Str.ofString "heard") (Str.ofString "is_known") (Str.ofString "glyph") (Str.ofString "is_wanted") (Str.ofString "code")⟩, ?_, ?_⟩
        · rintro j v I₅ oI₅ m₅ nx h₅ tk₅ hv₅ hJ99 hI5 - - F₅ N₅
          refine byC fun hG9 => ?_
          obtain ⟨rfl, w1, w2, w3, w4, w5, rfl⟩ := hJ99
          obtain ⟨code, tc, rfl, -⟩ := intsGet (.cons 65 328 (.cons 66 329 (.cons 67 330 (.cons 65024 331 (.cons 19968 332 (.cons 90 tr .nil)))))) hv₅
          refine hG9 ?_
          clear hG9
          simp only [List.append_nil] at N₅
          (try (show wpAny _ _ _ _ _ _; k_fold))
          k_steps
          · rename FdV _ (fnd (cutD _ _ _) _ _ _) => PfL
            have hwS : Wn Wk sel = true := by assumption
            have hwC : Wn Wk code = true := by assumption
            have hww : (Wn Wk sel && Wn Wk code) = true := by rw [hwS, hwC]; rfl
            rw [fnd_cut hpL hqL, if_pos hww] at PfL
            refine ne_fd PfL Pf (by ktr_units) ?_
            k_steps
            unfold Hold
            refine' use_pure ?zqF ?zqN (glyph_of_spec ?zqB ?zqF2 ?zqX ?zqT rfl ?zqd ?zqu (LVC.mono ?zqK) (LV.mono ?zqK)) ?_
            case zqF => k_asm
            case zqN => k_asm
            case zqB => k_asm
            case zqF2 => k_asm
            case zqX => k_asm
            case zqT => k_asm
            case zqd => ktr_room
            case zqu => ktr_units
            case zqK => exact noK_at (by k_asm) (fun p hp => by (repeat apply List.Mem.tail); exact hp)
            intro r1 h1 tk1 F1 N1 G1 P1
            (try dsimp only)
            refine byC fun hG9 => ?_
            obtain ⟨a1, t1, g1, b1, rfl, f1, f1', e1⟩ := P1
            refine hG9 ?_
            clear hG9
            have N1' := News.grew (by k_asm) N1 f1 f1'
            k_steps
            unfold Hold
            refine' use_pure ?zqF ?zqN (glyph_of_spec ?zqB ?zqF2 ?zqX ?zqT rfl ?zqd ?zqu (CK.mono ?zqK) (VK.mono ?zqK)) ?_
            case zqF => k_asm
            case zqN => k_asm
            case zqB => k_asm
            case zqF2 => k_asm
            case zqX => k_asm
            case zqT => k_asm
            case zqd => ktr_room
            case zqu => ktr_units
            case zqK => exact noK_at (by k_asm) (fun p hp => by (repeat apply List.Mem.tail); exact hp)
            intro r2 h2 tk2 F2 N2 G2 P2
            (try dsimp only)
            refine byC fun hG9 => ?_
            obtain ⟨a2, t2, g2, b2, rfl, f2, f2', e2⟩ := P2
            refine hG9 ?_
            clear hG9
            have N2' := News.grew (by k_asm) N2 f2 f2'
            have e3 := glOf_cut (wn_keys hpK3) hpK hqK hq2K num_ne hC1g hOg code sel
            rw [e2, if_pos hww, e1] at e3
            refine byC fun hG9 => ?_
            obtain ⟨eg, eb⟩ := Prod.mk.inj e3
            refine hG9 ?_
            clear hG9
            have hG : ∃ n, lk numL g1 = some n := num_ok _ (by have := glOf_range (D := D₂) hC1g hOg code sel; rw [e1] at this; exact this)
            k_steps
            unfold Hold
            refine ne_gb (News.get (by k_asm) (by k_mem)) (News.get (by k_asm) (by k_mem)) (by ktr_units) eg eb ?_
            k_steps
            refine TurnEnd.next (nx := []) (by k_asm) (by k_asm) (fun p hp => ?_) (fun _ hx => nomatch hx) ⟨rfl, _, _, _, _, _, funext fun _ => mm5⟩
            rw [List.append_nil] at hp
            (repeat (first | exact hp | apply List.Mem.tail))
          · rename FdV _ (fnd (cutD _ _ _) _ _ _) => PfL
            have hwC : Wn Wk code = false := by assumption
            have hww : ¬ (Wn Wk sel && Wn Wk code) = true := by rw [hwC]; simp
            rw [fnd_cut hpL hqL, if_neg hww] at PfL
            have eN : rf = .none := PfL
            subst eN
            k_steps
            unfold Hold
            refine' use_pure ?zqF ?zqN (glyph_of_spec ?zqB ?zqF2 ?zqX ?zqT rfl ?zqd ?zqu (LVC.mono ?zqK) (LV.mono ?zqK)) ?_
            case zqF => k_asm
            case zqN => k_asm
            case zqB => k_asm
            case zqF2 => k_asm
            case zqX => k_asm
            case zqT => k_asm
            case zqd => ktr_room
            case zqu => ktr_units
            case zqK => exact noK_at (by k_asm) (fun p hp => by (repeat apply List.Mem.tail); exact hp)
            intro r1 h1 tk1 F1 N1 G1 P1
            (try dsimp only)
            refine byC fun hG9 => ?_
            obtain ⟨a1, t1, g1, b1, rfl, f1, f1', e1⟩ := P1
            refine hG9 ?_
            clear hG9
            have N1' := News.grew (by k_asm) N1 f1 f1'
            k_steps
            unfold Hold
            refine' use_pure ?zqF ?zqN (glyph_of_spec ?zqB ?zqF2 ?zqX ?zqT rfl ?zqd ?zqu (CK.mono ?zqK) (VK.mono ?zqK)) ?_
            case zqF => k_asm
            case zqN => k_asm
            case zqB => k_asm
            case zqF2 => k_asm
            case zqX => k_asm
            case zqT => k_asm
            case zqd => ktr_room
            case zqu => ktr_units
            case zqK => exact noK_at (by k_asm) (fun p hp => by (repeat apply List.Mem.tail); exact hp)
            intro r2 h2 tk2 F2 N2 G2 P2
            (try dsimp only)
            refine byC fun hG9 => ?_
            obtain ⟨a2, t2, g2, b2, rfl, f2, f2', e2⟩ := P2
            refine hG9 ?_
            clear hG9
            have N2' := News.grew (by k_asm) N2 f2 f2'
            have e3 := glOf_cut (wn_keys hpK3) hpK hqK hq2K num_ne hC1g hOg code sel
            rw [e2, if_neg hww, gl_filter hC0n] at e3
            refine byC fun hG9 => ?_
            obtain ⟨eg, eb⟩ := Prod.mk.inj e3
            refine hG9 ?_
            clear hG9
            k_steps
            all_goals
              first
                | (have hwC : Wn Wk code = true := by assumption
                   rw [if_pos hwC] at eg)
                | (have hwC : Wn Wk code = false := by assumption
                   rw [if_neg (by rw [hwC]; simp)] at eg)
              unfold Hold
              refine ne_gb (News.get (by k_asm) (by k_mem)) (News.get (by k_asm) (by k_mem)) (by ktr_units) eg eb ?_
              k_steps
              refine TurnEnd.next (nx := []) (by k_asm) (by k_asm) (fun p hp => ?_) (fun _ hx => nomatch hx) ⟨rfl, _, _, _, _, _, funext fun _ => mm5⟩
              rw [List.append_nil] at hp
              (repeat (first | exact hp | apply List.Mem.tail))
          · rename FdV _ (fnd (cutD _ _ _) _ _ _) => PfL
            have hwS : Wn Wk sel = false := by assumption
            have hww : ¬ (Wn Wk sel && Wn Wk code) = true := by rw [hwS]; simp
            rw [fnd_cut hpL hqL, if_neg hww] at PfL
            have eN : rf = .none := PfL
            subst eN
            k_steps
            unfold Hold
            refine' use_pure ?zqF ?zqN (glyph_of_spec ?zqB ?zqF2 ?zqX ?zqT rfl ?zqd ?zqu (LVC.mono ?zqK) (LV.mono ?zqK)) ?_
            case zqF => k_asm
            case zqN => k_asm
            case zqB => k_asm
            case zqF2 => k_asm
            case zqX => k_asm
            case zqT => k_asm
            case zqd => ktr_room
            case zqu => ktr_units
            case zqK => exact noK_at (by k_asm) (fun p hp => by (repeat apply List.Mem.tail); exact hp)
            intro r1 h1 tk1 F1 N1 G1 P1
            (try dsimp only)
            refine byC fun hG9 => ?_
            obtain ⟨a1, t1, g1, b1, rfl, f1, f1', e1⟩ := P1
            refine hG9 ?_
            clear hG9
            have N1' := News.grew (by k_asm) N1 f1 f1'
            k_steps
            unfold Hold
            refine' use_pure ?zqF ?zqN (glyph_of_spec ?zqB ?zqF2 ?zqX ?zqT rfl ?zqd ?zqu (CK.mono ?zqK) (VK.mono ?zqK)) ?_
            case zqF => k_asm
            case zqN => k_asm
            case zqB => k_asm
            case zqF2 => k_asm
            case zqX => k_asm
            case zqT => k_asm
            case zqd => ktr_room
            case zqu => ktr_units
            case zqK => exact noK_at (by k_asm) (fun p hp => by (repeat apply List.Mem.tail); exact hp)
            intro r2 h2 tk2 F2 N2 G2 P2
            (try dsimp only)
            refine byC fun hG9 => ?_
            obtain ⟨a2, t2, g2, b2, rfl, f2, f2', e2⟩ := P2
            refine hG9 ?_
            clear hG9
            have N2' := News.grew (by k_asm) N2 f2 f2'
            have e3 := glOf_cut (wn_keys hpK3) hpK hqK hq2K num_ne hC1g hOg code sel
            rw [e2, if_neg hww, gl_filter hC0n] at e3
            refine byC fun hG9 => ?_
            obtain ⟨eg, eb⟩ := Prod.mk.inj e3
            refine hG9 ?_
            clear hG9
            k_steps
            all_goals
              first
                | (have hwC : Wn Wk code = true := by assumption
                   rw [if_pos hwC] at eg)
                | (have hwC : Wn Wk code = false := by assumption
                   rw [if_neg (by rw [hwC]; simp)] at eg)
              unfold Hold
              refine ne_gb (News.get (by k_asm) (by k_mem)) (News.get (by k_asm) (by k_mem)) (by ktr_units) eg eb ?_
              k_steps
              refine TurnEnd.next (nx := []) (by k_asm) (by k_asm) (fun p hp => ?_) (fun _ hx => nomatch hx) ⟨rfl, _, _, _, _, _, funext fun _ => mm5⟩
              rw [List.append_nil] at hp
              (repeat (first | exact hp | apply List.Mem.tail))
        · rintro m₅ nx h₅ tk₅ hJ94 F₅ N₅
          refine byC fun hG9 => ?_
          obtain ⟨rfl, w1, w2, w3, w4, w5, rfl⟩ := hJ94
          refine hG9 ?_
          clear hG9
          simp only [List.append_nil] at N₅
          (try (show wpAny _ _ _ _ _ _; k_fold))
          k_steps
          refine TurnEnd.next (nx := []) (by k_asm) N₅ (fun p hp => ?_) (fun _ hx => nomatch hx) ⟨rfl, w1, w2, w3, w4, w5, some (.int sel ts), funext fun _ => mm6⟩
          rw [List.append_nil] at hp
          exact .tail _ hp
      · rintro m₅ nx h₅ tk₅ hJ94 F₅ N₅
        refine byC fun hG9 => ?_
        obtain ⟨rfl, w1, w2, w3, w4, w5, w6, rfl⟩ := hJ94
        refine hG9 ?_
        clear hG9
        simp only [List.append_nil] at N₅
        refine byC fun hG9 => ?_
        obtain ⟨loL, kvL, ⟨oDL, hmL0, hdL⟩, hRL⟩ := id krl
        refine hG9 ?_
        clear hG9
        have hmL : (ddl, oDL) ∈ T₁₂ := hmL0.elim (fun x => x.elim) id
        have DL6 : DictK PySem.Challenge.rw_pb0155_01.row.prog wd (noK.add T₁₂) ddl kvL := ⟨oDL, .inr hmL, hdL⟩
        have hndL : (kvL.map (fun x => x.1)).Nodup := by
          obtain ⟨_, _, _, _, _, _, hnd⟩ := hdL; exact hnd
        (try (show wpAny _ _ _ _ _ _; k_fold))
        k_steps
        unfold Hold
        have hDLl : kvL.length ≤ 3 := by
          rw [hRL.length]
          have q1 := (cutD_sub (W := Wn Wk) (D := D₂) (ns := nsL)).length_le
          have q2 := hpL.length_eq
          rw [List.length_map] at q1 q2
          omega
        refine pyIter_dictW rfl (by k_asm) (by k_asm) hdL loL (fun nx => (ddl, oDL) ∈ nx) (fun h' nw _ hN hm => (hN _ hm).1) (by (repeat apply List.Mem.tail); exact hmL) (by rw [sizeLine_eq]; omega) ?_
        intro g₁₃
        refine compT_inv (n := kvL.length) (fun j ys₁ nx => nx = (Dq, W.listOf ([.int 65024 324, .int 65025 325, .int 917760 326, .int 7 tq] : List Value).toArray 0) :: (s1.heap.objs.size + 1 + 1 + 1 + 1 + 1, oL) :: (s1.heap.objs.size + 1 + 1 + 1 + 1, oN) :: (s1.heap.objs.size + 1 + 1 + 1, oW) :: (s1.heap.objs.size + 1 + 1, oC) :: (s1.heap.objs.size + 1, oPen) :: T₁₂ ∧ ys₁ = []) ?_ ?_ _ 0 [] _ (Nat.zero_add _) ⟨rfl, rfl⟩
        · rintro j v₅ ys₁ nx I₅ oI₅ C₅ oC₅ D₅ m₅ h₅ tk₅ hj hJ913 hJ914 hNs hm5 F₅ N₅ off ne
          refine byC fun hG9 => ?_
          obtain ⟨kk, yy, t₅, hk1, rfl⟩ := hJ913
          obtain ⟨rfl, rfl⟩ := hJ914
          obtain ⟨⟨kk', row⟩, hb, e0, r, ey, hrow⟩ := hRL.get hk1
          refine hG9 ?_
          clear hG9
          dsimp only at e0 ey hrow
          subst e0
          subst ey
          have ev := valueAt_get hndL hk1
          refine byC fun hG9 => ?_
          obtain ⟨hWk, -, hrne⟩ := cutD_mem (List.mem_of_getElem? hb)
          refine hG9 ?_
          clear hG9
          have hWk' : (valueAt Wk kk).isSome = true := hWk
          have off9 := off
          (try (show wpAny _ _ _ _ _ _; k_fold))
          k_steps
          unfold Hold
          refine eq_nil (κ := noK.add T₁₂) (κ' := kn _) hrow (RowK.empty Nt₀ rfl rfl) ?_ (fun _ _ x => x) (by ktr_units) ?_
          · exact noK_at (by k_asm) (fun p hp => by (repeat apply List.Mem.tail); exact hp)
          rw [decide_eq_false hrne]
          k_steps
          refine' CompEnd.intro ?ca ?cb _ (fun q hq => hq) ?cc ?cs ⟨rfl, by first | rfl | trivial⟩
          case ca => k_asm
          case cb => exact News.sub Nt₀ (fun p hp => .tail _ hp)
          case cc => exact off9
          case cs => (repeat apply List.Mem.tail); exact hmL
        · rintro ys₁ nx hJ92
          refine byC fun hG9 => ?_
          obtain ⟨rfl, rfl⟩ := hJ92
          refine hG9 ?_
          clear hG9
          intro D₅ h₅ tk₅ F₅ N₅ off₅
          (try (show wpAny _ _ _ _ _ _; k_fold))
          k_steps
          unfold Hold
          refine ne_lists (News.get (by k_asm) (by k_mem)) (News.get (by k_asm) (by k_mem)) (by ktr_units) ?_
          k_steps
          unfold Hold
          have hnL : nsL.Nodup := by rw [hpL.nodup_iff]; exact hnD
          have hL6 : (cutO (Wn Wk) O₂ qsL).length ≤ 6 := by
            have q1 := (cutO_sub (W := Wn Wk) (O := O₂) (qs := qsL)).length_le
            have q2 := hqL.length_eq
            rw [List.length_map] at q1 q2
            omega
          have hL3 : (cutD (Wn Wk) D₂ nsL).length ≤ 3 := by
            have q1 := (cutD_sub (W := Wn Wk) (D := D₂) (ns := nsL)).length_le
            have q2 := hpL.length_eq
            rw [List.length_map] at q1 q2
            omega
          have hL8 : ∀ d ∈ cutD (Wn Wk) D₂ nsL, d.2.length ≤ 8 := fun d hd => cutD_row hd hD8
          refine' use_pure ?zqF ?zqN (cut_vars_T ?zqB ?zqF2 ?zqX ?zqT rfl ?zqd ?zqu ?zqK VL LDW LlW hL6 hL3 hL8) ?_
          case zqF => k_asm
          case zqN => k_asm
          case zqB => k_asm
          case zqF2 => k_asm
          case zqX => k_asm
          case zqT => k_asm
          case zqd => ktr_room
          case zqu => ktr_units
          case zqK => exact noK_at (by k_asm) (fun p hp => by (repeat apply List.Mem.tail); exact hp)
          intro r₁₃ h₁₃ tk₁₃ F₁₃ N₁₃ G₁₃ P₁₃
          (try dsimp only)
          refine byC fun hG9 => ?_
          obtain ⟨vM, tlM, nsM, qsM, rfl, hTM, VM, hpM, hwM, hqM, hqwM⟩ := P₁₃
          refine hG9 ?_
          clear hG9
          have NM := News.absorb (A := [_, _, _, _, _, _, _, _]) (News.grewL (by k_asm) N₁₃ hTM)
          dsimp only [List.cons_append, List.nil_append] at NM
          refine byC fun hG9 => ?_
          obtain ⟨T₁₃, eT₁₃⟩ : ∃ T, T = tlM ++ T₁₂ := ⟨_, rfl⟩
          refine hG9 ?_
          clear hG9
          have u₁₃ : ∀ p ∈ T₁₂, p ∈ T₁₃ := fun p hp => by rw [eT₁₃]; exact List.mem_append_right _ hp
          replace VM := VM.mono (κ' := noK.add T₁₃) (by rw [eT₁₃]; exact noK_two)
          rw [cutD_twice hwL hnL hpM hwM, cutO_twice hqwL hqM hqwM] at VM
          rw [← eT₁₃] at NM
          clear hTM eT₁₃ LV LVC LDW LVN D6 DL6 kx1 kx2 kk1 kk2 kv1 kv2 kl1 kl2 krl hmL hmL0 hdL hRL
          replace LK := LK.up u₁₃
          replace VL := VL.mono (noK_up u₁₃)
          replace VK := VK.mono (noK_up u₁₃)
          replace CK := CK.mono (noK_up u₁₃)
          refine byC fun hG9 => ?_
          obtain ⟨ddm, oom, dxm, tm1, tm2, nm9, km1, km2, -, -⟩ := id VM
          refine hG9 ?_
          clear hG9
          k_steps
          unfold Hold
          refine' use_pure ?zqF ?zqN (told_spec ?zqB ?zqF2 ?zqX ?zqT rfl ?zqd ?zqu ?zqK VM hL6 hL3 hL8) ?_
          case zqF => k_asm
          case zqN => k_asm
          case zqB => k_asm
          case zqF2 => k_asm
          case zqX => k_asm
          case zqT => k_asm
          case zqd => ktr_room
          case zqu => ktr_units
          case zqK => exact noK_at (by k_asm) (fun p hp => by (repeat apply List.Mem.tail); exact hp)
          intro r₁₄ h₁₄ tk₁₄ F₁₄ N₁₄ G₁₄ P₁₄
          (try dsimp only)
          refine byC fun hG9 => ?_
          obtain ⟨tlT, ksT, psT, hTT, hToT, hkT, hkwT, hpT, hpwT⟩ := P₁₄
          refine hG9 ?_
          clear hG9
          have NT' := News.absorb (A := [_, _, _, _, _, _, _, _]) (News.grewL (by k_asm) N₁₄ hTT)
          dsimp only [List.cons_append, List.nil_append] at NT'
          refine byC fun hG9 => ?_
          obtain ⟨T₁₄, eT₁₄⟩ : ∃ T, T = tlT ++ T₁₃ := ⟨_, rfl⟩
          refine hG9 ?_
          clear hG9
          have u₁₄ : ∀ p ∈ T₁₃, p ∈ T₁₄ := fun p hp => by rw [eT₁₄]; exact List.mem_append_right _ hp
          replace hToT := hToT.mono (κ' := noK.add T₁₄) (by rw [eT₁₄]; exact noK_two)
          rw [← eT₁₄] at NT'
          clear hTT eT₁₄ km1 km2 VM
          replace LK := LK.up u₁₄
          replace VL := VL.mono (noK_up u₁₄)
          replace VK := VK.mono (noK_up u₁₄)
          replace CK := CK.mono (noK_up u₁₄)
          refine byC fun hG9 => ?_
          obtain ⟨ddl, ool, dxl, tl1, tl2, nl9, kl1, kl2, -, -⟩ := id VL
          refine hG9 ?_
          clear hG9
          k_steps
          unfold Hold
          refine' use_pure ?zqF ?zqN (told_spec ?zqB ?zqF2 ?zqX ?zqT rfl ?zqd ?zqu ?zqK VL hL6 hL3 hL8) ?_
          case zqF => k_asm
          case zqN => k_asm
          case zqB => k_asm
          case zqF2 => k_asm
          case zqX => k_asm
          case zqT => k_asm
          case zqd => ktr_room
          case zqu => ktr_units
          case zqK => exact noK_at (by k_asm) (fun p hp => by (repeat apply List.Mem.tail); exact hp)
          intro r₁₅ h₁₅ tk₁₅ F₁₅ N₁₅ G₁₅ P₁₅
          (try dsimp only)
          refine byC fun hG9 => ?_
          obtain ⟨tlU, ksU, psU, hTU, hToU, hkU, hkwU, hpU, hpwU⟩ := P₁₅
          refine hG9 ?_
          clear hG9
          have NU' := News.absorb (A := [_, _, _, _, _, _, _, _]) (News.grewL (by k_asm) N₁₅ hTU)
          dsimp only [List.cons_append, List.nil_append] at NU'
          refine byC fun hG9 => ?_
          obtain ⟨T₁₅, eT₁₅⟩ : ∃ T, T = tlU ++ T₁₄ := ⟨_, rfl⟩
          refine hG9 ?_
          clear hG9
          have u₁₅ : ∀ p ∈ T₁₄, p ∈ T₁₅ := fun p hp => by rw [eT₁₅]; exact List.mem_append_right _ hp
          replace hToU := hToU.mono (κ' := noK.add T₁₅) (by rw [eT₁₅]; exact noK_two)
          replace hToT := hToT.mono (noK_up u₁₅)
          rw [← eT₁₅] at NU'
          clear hTU eT₁₅ kl1 kl2
          replace LK := LK.up u₁₅
          replace VL := VL.mono (noK_up u₁₅)
          replace VK := VK.mono (noK_up u₁₅)
          replace CK := CK.mono (noK_up u₁₅)
          have ekT : ksT = ksU := ints_sorted (hkT.trans hkU.symm) hkwT hkwU
          have epT : psT = psU := pairs_sorted (hpT.trans hpU.symm) hpwT hpwU
          rw [ekT, epT] at hToT
          refine ne_at hToT.at_ hToU.at_ (noK_at NU' (fun p hp => by (repeat apply List.Mem.tail); exact hp)) (noK_at NU' (fun p hp => by (repeat apply List.Mem.tail); exact hp)) (lays_told _ _) (by decide) (by ktr_units) ?_
          (try dsimp only [A9])
          k_steps
          rename_i kF kN Gc9 kX9
          unfold Hold
          have N16 : News s1.heap s1.heap.objs.size _ ((s1.heap.objs.size + 1 + 1 + 1 + 1 + 1, oL) :: (s1.heap.objs.size + 1 + 1 + 1 + 1, oN) :: (s1.heap.objs.size + 1 + 1 + 1, oW) :: (s1.heap.objs.size + 1 + 1, oC) :: (s1.heap.objs.size + 1, oPen) :: T₁₅) := News.sub kN (fun p hp => .tail _ (.tail _ (.tail _ (.tail _ hp))))
          clear kN NU' NT' NM hToU hToT ekT epT VL
          have LVN := LK.VN
          refine pyIter_dictWU rfl (by k_asm) N16 LK.hN LK.lN (by (repeat apply List.Mem.tail); exact LK.mN) (by rw [hNl, sizeLine_eq]; omega) ?_
          intro g₁₆
          refine compU_inv (n := Nk.length) (fun j ys₁ nx => ∃ (tls : List (Addr × Obj)) (Sk : List (Int × Value)), nx = (s1.heap.objs.size + 1 + 1 + 1 + 1 + 1, oL) :: (s1.heap.objs.size + 1 + 1 + 1 + 1, oN) :: (s1.heap.objs.size + 1 + 1 + 1, oW) :: (s1.heap.objs.size + 1 + 1, oC) :: (s1.heap.objs.size + 1, oPen) :: (tls ++ T₁₅) ∧ R2 (PrV tls) ys₁ Sk ∧ R2 (fun a b => a.1 = b.1 ∧ IntV a.2 b.2) Sk ((numL.take j).map samAt)) ?_ ?_ _ 0 [] _ (Nat.zero_add _) ⟨[], [], rfl, .nil, .nil⟩
          · rintro j v₅ ys₁ nx I₅ oI₅ C₅ oC₅ D₅ m₅ h₅ tk₅ hj hJ913 hJ914 hNs hm5 F₅ N₅ off ne
            refine byC fun hG9 => ?_
            obtain ⟨kk, yy, t₅, hk1, rfl⟩ := hJ913
            obtain ⟨tls, Sk, rfl, hys, hSk⟩ := hJ914
            obtain ⟨⟨kk', n⟩, hb, e0, tn, ey⟩ := LK.RN.get hk1
            refine hG9 ?_
            clear hG9
            dsimp only at e0 ey
            subst e0
            subst ey
            have hln : ∃ n, lk numL kk = some n := ⟨n, lk_of_mem (by decide +kernel) (List.mem_of_getElem? hb)⟩
            have en : nmOf numL kk = n := by rw [nmOf, lk_of_mem (by decide +kernel) (List.mem_of_getElem? hb)]; rfl
            refine byC fun hG9 => ?_
            obtain ⟨ne1, ne2, ne3⟩ := ne
            refine hG9 ?_
            clear hG9
            have off9 := off
            refine byC fun hG9 => ?_
            obtain ⟨o1', o2', o3', o4', o5', o9'⟩ := off
            refine hG9 ?_
            clear hG9
            dsimp only at o1' o2' o3' o4' o5'
            (try (show wpAny _ _ _ _ _ _; k_fold))
            k_steps
            (try k_unfold)
            refine' CompEnd.intro ?ca ?cb _ (fun q hq => hq) ?cc ?cs ⟨(t₀, ({ cls := .type "tuple", data := .seq #[.int (nmOf numL kk) _, .int (nmOf numL kk) tni] } : Obj)) :: tls, Sk ++ [(nmOf numL kk, .int (nmOf numL kk) tni)], rfl, ?cd, ?ce⟩
            case ca => k_asm
            case cb =>
              have q9 := News.absorb (tl := [_]) (A := [_, _, _, _, _, _, _, _]) Nt₀
              exact q9
            case cc => exact ⟨o1', o2', o3', o4', o5', ⟨Nat.ne_of_gt lt₀.1, Nat.ne_of_gt lt₀.2.1, Nat.ne_of_gt lt₀.2.2.1⟩, o9'⟩
            case cs => (repeat apply List.Mem.tail); exact List.mem_append_right _ LK.mN
            case cd => exact (hys.imp fun _ _ h => h.up fun _ x => .tail _ x).append (.cons ⟨t₀, _, 0, rfl, .head _⟩ .nil)
            case ce =>
              rw [List.take_add_one, hb, List.map_append]
              exact hSk.append (.cons ⟨en, tni, by rw [en]; rfl⟩ .nil)
          rintro ys₁ nx hJ92
          refine byC fun hG9 => ?_
          obtain ⟨tls, Sk, rfl, hys, hSk⟩ := hJ92
          refine hG9 ?_
          clear hG9
          intro D₁₆ h₁₆ tk₁₆ F₁₆ N₁₆ off₁₆
          k_steps
          unfold Hold
          rw [List.take_of_length_le (by rw [hNl]; decide +kernel)] at hSk
          replace hSk : R2 (fun a b => a.1 = b.1 ∧ IntV a.2 b.2) Sk samL := hSk
          have hSl : Sk.length = 9 := by have := hSk.length; rw [this]; decide +kernel
          refine dict_pairsN (ps := Sk) rfl (by k_asm) N₁₆ hbig (.head _) (hys.imp fun _ _ h => h.up fun q hq => by (repeat apply List.Mem.tail); exact List.mem_append_left _ hq) (by rw [hSl, sizeLine_eq]; omega) (by rw [hSk.keys]; exact sam_nodup) ?_
          intro d₁₇ o₁₇ h₁₇ tk₁₇ F₁₇ N₁₇ lt₁₇ lo₁₇ hd₁₇
          refine byC fun hG9 => ?_
          obtain ⟨T₁₇, eT₁₇⟩ : ∃ T, T = (d₁₇, o₁₇) :: T₁₅ := ⟨_, rfl⟩
          refine hG9 ?_
          clear hG9
          have N17 := News.tidy (A := [_, _, _, _, _]) (X := [_, _]) (Y := [(d₁₇, o₁₇)]) N₁₇ (List.forall_mem_cons.mpr ⟨.head _, fun _ hx => nomatch hx⟩)
          dsimp only [List.cons_append, List.nil_append] at N17
          rw [← eT₁₇] at N17
          have u₁₇ : ∀ p ∈ T₁₅, p ∈ T₁₇ := fun p hp => by rw [eT₁₇]; exact .tail _ hp
          have SAM : IntsK PySem.Challenge.rw_pb0155_01.row.prog wd (noK.add T₁₇) d₁₇ samL := ⟨lo₁₇, Sk, ⟨o₁₇, .inr (by rw [eT₁₇]; exact .head _), hd₁₇⟩, hSk⟩
          clear N₁₇ N₁₆ N16 hys off₁₆ lt₁₇ eT₁₇ LVN
          replace LK := LK.up u₁₇
          replace VK := VK.mono (noK_up u₁₇)
          replace CK := CK.mono (noK_up u₁₇)
          k_steps
          unfold Hold
          have hnK : nsK.Nodup := by rw [hpK.nodup_iff]; exact hnD
          have hK6 : (renum (cutO (Wn Wk) O₂ qsK) numL qsK2).length ≤ 6 := by
            have q1 := (cutO_sub (W := Wn Wk) (O := O₂) (qs := qsK)).length_le
            have q2 := hqK.length_eq
            have q3 := hq2K.length_eq
            rw [List.length_map] at q1 q2 q3
            rw [renum_len]
            omega
          have hK3 : (cutD (Wn Wk) D₂ nsK).length ≤ 3 := by
            have q1 := (cutD_sub (W := Wn Wk) (D := D₂) (ns := nsK)).length_le
            have q2 := hpK.length_eq
            rw [List.length_map] at q1 q2
            omega
          have hK8 : ∀ d ∈ cutD (Wn Wk) D₂ nsK, d.2.length ≤ 8 := fun d hd => cutD_row hd hD8
          have hsR := sam_ren (W := Wn Wk) (qs2 := qsK2) hqK hOg
          refine' use_pure ?zqF ?zqN (cut_charmap_spec ?zqB ?zqF2 ?zqX ?zqT rfl ?zqd ?zqu ?zqK CK VK LK.DW LK.lW SAM hK6 hK3 hK8 (Nat.lt_of_le_of_lt hWl (by decide)) (fun k _ => ⟨_, sam_gl (wn_keys hpK3) hC1g k⟩) (fun q g hq => ⟨g, hsR (q, g) (lk_some_mem hq)⟩)) ?_
          case zqF => k_asm
          case zqN => k_asm
          case zqB => k_asm
          case zqF2 => k_asm
          case zqX => k_asm
          case zqT => k_asm
          case zqd => ktr_room
          case zqu => ktr_units
          case zqK => exact noK_at (by k_asm) (fun p hp => by (repeat apply List.Mem.tail); exact hp)
          intro r₁₈ h₁₈ tk₁₈ F₁₈ N₁₈ G₁₈ P₁₈
          (try dsimp only)
          refine byC fun hG9 => ?_
          obtain ⟨cX, vX, tlX, nsX3, nsX, qsX, qsX2, rfl, hTX, CX, VX, hpX3, hpX, hwX, hqX, hqwX, hq2X, hqw2X⟩ := P₁₈
          refine hG9 ?_
          clear hG9
          have NX := News.absorb (A := [_, _, _, _, _]) (News.grewL (by k_asm) N₁₈ hTX)
          dsimp only [List.cons_append, List.nil_append] at NX
          refine byC fun hG9 => ?_
          obtain ⟨T₁₈, eT₁₈⟩ : ∃ T, T = tlX ++ T₁₇ := ⟨_, rfl⟩
          refine hG9 ?_
          clear hG9
          have u₁₈ : ∀ p ∈ T₁₇, p ∈ T₁₈ := fun p hp => by rw [eT₁₈]; exact List.mem_append_right _ hp
          replace CX := CX.mono (κ' := noK.add T₁₈) (by rw [eT₁₈]; exact noK_two)
          replace VX := VX.mono (κ' := noK.add T₁₈) (by rw [eT₁₈]; exact noK_two)
          have hWq : ∀ q ∈ qsK2, (Wn Wk q.1 && Wn Wk q.2) = true := fun q hq => by
            refine byC fun hG9 => ?_
            obtain ⟨x, hx, rfl⟩ := List.mem_map.mp (hq2K.mem_iff.mp hq)
            refine hG9 ?_
            clear hG9
            exact cutO_W hx
          rw [cutD_twice hwK hnK hpX hwX, renum_twice hqw2K hWq hqX hqwX hq2X hqw2X (fun x hx => by rw [hsR x hx]; rfl)] at VX
          rw [← eT₁₈] at NX
          clear hTX eT₁₈ SAM N₁₈ G₁₈
          replace LK := LK.up u₁₈
          replace VK := VK.mono (noK_up u₁₈)
          replace CK := CK.mono (noK_up u₁₈)
          have hXl : ((keptOf ((keptOf (C0.filter fun x => x.2 != 0) numL nsK3).filter fun x => x.2 != 0) samL nsX3).filter fun x => x.2 != 0).length ≤ 8 := kept_len (by rw [hpX3.length_eq, List.length_map]; omega)
          have hKl : ((keptOf (C0.filter fun x => x.2 != 0) numL nsK3).filter fun x => x.2 != 0).length ≤ 8 := kept_len (by rw [hpK3.length_eq, List.length_map]; omega)
          refine byC fun hG9 => ?_
          obtain ⟨ccX, dxX, tX1, tX2, nX9, kX1, kX2, -⟩ := id CX
          refine hG9 ?_
          clear hG9
          k_steps
          unfold Hold
          refine' use_pure ?zqF ?zqN (cmtold_spec ?zqB ?zqF2 ?zqX ?zqT rfl ?zqd ?zqu ?zqK CX VX hK6 hK3 hK8 hXl) ?_
          case zqF => k_asm
          case zqN => k_asm
          case zqB => k_asm
          case zqF2 => k_asm
          case zqX => k_asm
          case zqT => k_asm
          case zqd => ktr_room
          case zqu => ktr_units
          case zqK => exact noK_at (by k_asm) (fun p hp => by (repeat apply List.Mem.tail); exact hp)
          intro r₁₉ h₁₉ tk₁₉ F₁₉ N₁₉ G₁₉ P₁₉
          (try dsimp only)
          refine byC fun hG9 => ?_
          obtain ⟨tlV, nsV, ksV, psV, hTV, hToV, hnV, hnwV, hkV, hkwV, hpV, hpwV⟩ := P₁₉
          refine hG9 ?_
          clear hG9
          have NV' := News.absorb (A := [_, _, _, _, _]) (News.grewL (by k_asm) N₁₉ hTV)
          dsimp only [List.cons_append, List.nil_append] at NV'
          refine byC fun hG9 => ?_
          obtain ⟨T₁₉, eT₁₉⟩ : ∃ T, T = tlV ++ T₁₈ := ⟨_, rfl⟩
          refine hG9 ?_
          clear hG9
          have u₁₉ : ∀ p ∈ T₁₈, p ∈ T₁₉ := fun p hp => by rw [eT₁₉]; exact List.mem_append_right _ hp
          replace hToV := hToV.mono (κ' := noK.add T₁₉) (by rw [eT₁₉]; exact noK_two)
          rw [← eT₁₉] at NV'
          clear hTV eT₁₉ kX1 kX2 CX VX N₁₉ G₁₉ NX
          replace LK := LK.up u₁₉
          replace VK := VK.mono (noK_up u₁₉)
          replace CK := CK.mono (noK_up u₁₉)
          refine byC fun hG9 => ?_
          obtain ⟨ccY, dxY, tY1, tY2, nY9, kY1, kY2, -⟩ := id CK
          refine hG9 ?_
          clear hG9
          k_steps
          unfold Hold
          refine' use_pure ?zqF ?zqN (cmtold_spec ?zqB ?zqF2 ?zqX ?zqT rfl ?zqd ?zqu ?zqK CK VK hK6 hK3 hK8 hKl) ?_
          case zqF => k_asm
          case zqN => k_asm
          case zqB => k_asm
          case zqF2 => k_asm
          case zqX => k_asm
          case zqT => k_asm
          case zqd => ktr_room
          case zqu => ktr_units
          case zqK => exact noK_at (by k_asm) (fun p hp => by (repeat apply List.Mem.tail); exact hp)
          intro r₂₀ h₂₀ tk₂₀ F₂₀ N₂₀ G₂₀ P₂₀
          (try dsimp only)
          refine byC fun hG9 => ?_
          obtain ⟨tlY, nsY, ksY, psY, hTY, hToY, hnY, hnwY, hkY, hkwY, hpY, hpwY⟩ := P₂₀
          refine hG9 ?_
          clear hG9
          have NY' := News.absorb (A := [_, _, _, _, _]) (News.grewL (by k_asm) N₂₀ hTY)
          dsimp only [List.cons_append, List.nil_append] at NY'
          refine byC fun hG9 => ?_
          obtain ⟨T₂₀, eT₂₀⟩ : ∃ T, T = tlY ++ T₁₉ := ⟨_, rfl⟩
          refine hG9 ?_
          clear hG9
          have u₂₀ : ∀ p ∈ T₁₉, p ∈ T₂₀ := fun p hp => by rw [eT₂₀]; exact List.mem_append_right _ hp
          replace hToY := hToY.mono (κ' := noK.add T₂₀) (by rw [eT₂₀]; exact noK_two)
          replace hToV := hToV.mono (noK_up u₂₀)
          rw [← eT₂₀] at NY'
          clear hTY eT₂₀ kY1 kY2 CK VK N₂₀ G₂₀ NV'
          replace LK := LK.up u₂₀
          have ekV : ksV = ksY := ints_sorted (hkV.trans hkY.symm) hkwV hkwY
          have epV : psV = psY := pairs_sorted (hpV.trans hpY.symm) hpwV hpwY
          have hnK3 : nsK3.Nodup := by rw [hpK3.nodup_iff]; exact hWn
          have hnX3 : nsX3.Nodup := by rw [hpX3.nodup_iff]; exact hWn
          rw [ekV, epV, codes_twice hnK3 hnX3 (wn_keys hpK3) (wn_keys hpX3) num_zero (by rw [sam_zero]; rfl) (sam_gl (wn_keys hpK3) hC1g) hnV hnwV hnY hnwY] at hToV
          refine eq_at hToV.at_ hToY.at_ (noK_at NY' (fun p hp => by (repeat apply List.Mem.tail); exact hp)) (noK_at NY' (fun p hp => by (repeat apply List.Mem.tail); exact hp)) (lays_ctold _ _ _) (by decide) (by ktr_units) ?_
          clear hToV hToY
          refine byC fun hG9 => ?_
          obtain ⟨ddz, ooz, dxz, tz1, tz2, nz9, kz1, kz2, -⟩ := id LK.V
          refine hG9 ?_
          clear hG9
          k_steps
          unfold Hold
          refine' use_pure ?zqF ?zqN (told_spec ?zqB ?zqF2 ?zqX ?zqT rfl ?zqd ?zqu ?zqK LK.V hO6 hD3 hD8) ?_
          case zqF => k_asm
          case zqN => k_asm
          case zqB => k_asm
          case zqF2 => k_asm
          case zqX => k_asm
          case zqT => k_asm
          case zqd => ktr_room
          case zqu => ktr_units
          case zqK => exact noK_at (by k_asm) (fun p hp => by (repeat apply List.Mem.tail); exact hp)
          intro r₂₁ h₂₁ tk₂₁ F₂₁ N₂₁ G₂₁ P₂₁
          (try dsimp only)
          refine byC fun hG9 => ?_
          obtain ⟨tlZ, ksZ, psZ, hTZ, hToZ, hkZ, hkwZ, hpZ, hpwZ⟩ := P₂₁
          refine hG9 ?_
          clear hG9
          have NZ' := News.absorb (A := [_, _, _, _, _]) (News.grewL (by k_asm) N₂₁ hTZ)
          dsimp only [List.cons_append, List.nil_append] at NZ'
          refine byC fun hG9 => ?_
          obtain ⟨T₂₁, eT₂₁⟩ : ∃ T, T = tlZ ++ T₂₀ := ⟨_, rfl⟩
          refine hG9 ?_
          clear hG9
          have u₂₁ : ∀ p ∈ T₂₀, p ∈ T₂₁ := fun p hp => by rw [eT₂₁]; exact List.mem_append_right _ hp
          replace hToZ := hToZ.mono (κ' := noK.add T₂₁) (by rw [eT₂₁]; exact noK_two)
          rw [← eT₂₁] at NZ'
          clear hTZ eT₂₁ kz1 kz2 N₂₁ G₂₁ NY'
          replace LK := LK.up u₂₁
          rw [ints_sorted (hkZ.trans hk₃.symm) hkwZ hkw₃, pairs_sorted (hpZ.trans hp₃.symm) hpwZ hpw₃] at hToZ
          k_steps
          refine eq_at hToZ.at_ LK.To.at_ (noK_at NZ' (fun p hp => by (repeat apply List.Mem.tail); exact hp)) (noK_at NZ' (fun p hp => by (repeat apply List.Mem.tail); exact hp)) (lays_told _ _) (by decide) (by ktr_units) ?_
          clear hToZ
          refine byC fun hG9 => ?_
          obtain ⟨ccx, dxx, tx1, tx2, nx9, kx1, kx2, lox, kvx, dkx, rkx⟩ := id LK.VC
          refine hG9 ?_
          clear hG9
          k_steps
          unfold Hold
          have I6 : IntsK PySem.Challenge.rw_pb0155_01.row.prog wd (noK.add T₂₁) d₆ C0 := ⟨lo₆, C, ⟨o₆, .inr LK.m6, hd₆⟩, hC0⟩
          refine pyIter_dictW rfl (by k_asm) NZ' hd₆ lo₆ (fun nx => (d₆, o₆) ∈ nx) (fun h' nw _ hN hm => (hN _ hm).1) (by (repeat apply List.Mem.tail); exact LK.m6) (by rw [hCl, sizeLine_eq]; omega) ?_
          intro g₂₂
          refine compT_inv (n := C.length) (fun j ys₁ nx => ∃ (tls : List (Addr × Obj)) (Xk : List (Int × Value)), nx = (s1.heap.objs.size + 1 + 1 + 1 + 1 + 1, oL) :: (s1.heap.objs.size + 1 + 1 + 1 + 1, oN) :: (s1.heap.objs.size + 1 + 1 + 1, oW) :: (s1.heap.objs.size + 1 + 1, oC) :: (s1.heap.objs.size + 1, oPen) :: (tls ++ T₂₁) ∧ R2 (PrV tls) ys₁ Xk ∧ R2 (fun a b => a.1 = b.1 ∧ IntV a.2 b.2) Xk ((C0.take j).filter fun x => x.2 != 0)) ?_ ?_ _ 0 [] _ (Nat.zero_add _) ⟨[], [], rfl, .nil, .nil⟩
          · rintro j v₅ ys₁ nx I₅ oI₅ C₅ oC₅ D₅ m₅ h₅ tk₅ hj hJ913 hJ914 hNs hm5 F₅ N₅ off ne
            refine byC fun hG9 => ?_
            obtain ⟨kk, yy, t₅, hk1, rfl⟩ := hJ913
            obtain ⟨tls, Xk, rfl, hys, hXk⟩ := hJ914
            obtain ⟨⟨kk', n⟩, hb, e0, tn, ey⟩ := hC0.get hk1
            refine hG9 ?_
            clear hG9
            dsimp only at e0 ey
            subst e0
            subst ey
            have hln : ∃ n, lk C0 kk = some n := ⟨n, lk_of_mem hC0n (List.mem_of_getElem? hb)⟩
            have en : nmOf C0 kk = n := by rw [nmOf, lk_of_mem hC0n (List.mem_of_getElem? hb)]; rfl
            refine byC fun hG9 => ?_
            obtain ⟨ne1, ne2, ne3⟩ := ne
            refine hG9 ?_
            clear hG9
            have off9 := off
            refine byC fun hG9 => ?_
            obtain ⟨o1', o2', o3', o4', o5', o9'⟩ := off
            refine hG9 ?_
            clear hG9
            dsimp only at o1' o2' o3' o4' o5'
            (try (show wpAny _ _ _ _ _ _; k_fold))
            k_steps
            · have hn0 : n ≠ 0 := by rw [← en]; assumption
              refine' CompEnd.intro ?cax ?cbx _ (fun q hq => hq) ?ccx ?csx ⟨(t₀, ({ cls := .type "tuple", data := .seq #[.int kk t₅, .int (nmOf C0 kk) tni] } : Obj)) :: tls, Xk ++ [(kk, .int (nmOf C0 kk) tni)], rfl, ?cdx, ?cex⟩
              case cax => k_asm
              case cbx =>
                have q9 := News.absorb (tl := [_]) (A := [_, _, _, _, _, _, _, _]) Nt₀
                exact q9
              case ccx => exact ⟨o1', o2', o3', o4', o5', ⟨Nat.ne_of_gt lt₀.1, Nat.ne_of_gt lt₀.2.1, Nat.ne_of_gt lt₀.2.2.1⟩, o9'⟩
              case csx => (repeat apply List.Mem.tail); exact List.mem_append_right _ LK.m6
              case cdx => exact (hys.imp fun _ _ h => h.up fun _ x => .tail _ x).append (.cons ⟨t₀, _, 0, rfl, .head _⟩ .nil)
              case cex =>
                rw [List.take_add_one, hb, List.filter_append]
                refine hXk.append ?_
                have e1 : ((some (kk, n)).toList.filter fun x => x.2 != 0) = [(kk, n)] := by simp [hn0]
                rw [e1]
                exact .cons ⟨rfl, tni, by rw [en]⟩ .nil
            · have hn0 : n = 0 := by rw [← en]; assumption
              refine' CompEnd.intro ?cay ?cby _ (fun q hq => hq) ?ccy ?csy ⟨tls, Xk, rfl, hys, ?cey⟩
              case cay => k_asm
              case cby => k_asm
              case ccy => exact off9
              case csy => (repeat apply List.Mem.tail); exact List.mem_append_right _ LK.m6
              case cey =>
                rw [List.take_add_one, hb, List.filter_append]
                have e1 : ((some (kk, n)).toList.filter fun x => x.2 != 0) = [] := by simp [hn0]
                rw [e1, List.append_nil]
                exact hXk
          rintro ys₁ nx hJ92
          refine byC fun hG9 => ?_
          obtain ⟨tls, Xk, rfl, hys, hXk⟩ := hJ92
          refine hG9 ?_
          clear hG9
          intro D₂₂ h₂₂ tk₂₂ F₂₂ N₂₂ off₂₂
          k_steps
          unfold Hold
          rw [List.take_of_length_le (by rw [hC0.length]; exact Nat.le_refl _)] at hXk
          have hXl5 : Xk.length ≤ 5 := by
            rw [hXk.length]
            have q1 := List.length_filter_le (fun x : Int × Int => x.2 != 0) C0
            have q2 := hC0.length
            omega
          have hXn : ((C0.filter fun x => x.2 != 0).map (fun x => x.1)).Nodup := hC0n.sublist (List.filter_sublist.map _)
          refine dict_pairsN (ps := Xk) rfl (by k_asm) N₂₂ hbig (.head _) (hys.imp fun _ _ h => h.up fun q hq => by (repeat apply List.Mem.tail); exact List.mem_append_left _ hq) (by rw [sizeLine_eq]; omega) (by rw [hXk.keys]; exact hXn) ?_
          intro d₂₃ o₂₃ h₂₃ tk₂₃ F₂₃ N₂₃ lt₂₃ lo₂₃ hd₂₃
          refine eq_dints lox lo₂₃ dkx (κ' := kn h₂₃) ⟨o₂₃, (N₂₃ _ (.head _)).1, hd₂₃⟩ (noK_at N₂₃ (fun p hp => by (repeat apply List.Mem.tail); exact List.mem_append_right _ hp)) (fun _ _ x => x) rkx hXk hXn (by ktr_units) ?_
          k_steps))


end
end Mine
theorem PySem.Challenge.cw_pb0155_01_holds : PySem.Challenge.rw_pb0155_01.Holds := by
  exact Mine.law_walk ()
