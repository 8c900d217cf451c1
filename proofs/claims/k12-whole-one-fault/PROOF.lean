import PyProof.Rows.All
import Wide.All
import OpenK.AllK
import Wide.FinOn
import HandS.ForMost
import HandS.Walk
import HandS.IsInst
import HandS.TupAny
import HandS.Deep
import HandS.Conv
import HandS.TupSets
import HandS.DictTup
import HandS.Strs
import PySem.Challenge.RW_warnloop_k12_whole_one_fault
import KE.KDictPairs
set_option Elab.async false
set_option linter.all false
set_option maxRecDepth 100000
set_option maxHeartbeats 4000000
/-! K1: the text by places, immutable data in the heap, names of the module. -/
namespace K12
open PySem L2
def top (i : Nat) : Stmt := PySem.Challenge.pw_warnloop_k12_whole_one_fault.main.body.getD i (.Pass ⟨0, 0, 0, 0⟩)

/-! ### heaps: what never changes -/
/-- every tuple stands -/
def TS (H H' : Hp) : Prop := ∀ a xs, H a = some (.tup xs) → H' a = some (.tup xs)
theorem TS.refl (H : Hp) : TS H H := fun _ _ h => h
theorem TS.trans {H H1 H2 : Hp} (a : TS H H1) (b : TS H1 H2) : TS H H2 := fun x xs h => b x xs (a x xs h)
theorem ts_of {H H' : Hp} (s : Same H H') : TS H H' := fun a xs h => s a _ h
theorem same_new {H : Hp} {p : Addr} {o : HO} (h : H p = none) : Same H (upd H p o) := fun b x e => (upd_ne (ne_of_none e h)).trans e
/-- an object that H does not know may change -/
theorem same_mut {H H' : Hp} {p : Addr} {o : HO} (s : Same H H') (h : H p = none) : Same H (upd H' p o) := fun b x e => (upd_ne (ne_of_none e h)).trans (s b x e)
theorem ts_new {H : Hp} {p : Addr} {o : HO} (h : H p = none) : TS H (upd H p o) := ts_of (same_new h)
theorem ts_upd {H : Hp} {p : Addr} {u o : HO} (h : H p = some u) (n : ∀ xs, u ≠ .tup xs) : TS H (upd H p o) := fun a xs e => by
  refine (upd_ne (ne_of e h fun z => n xs z.symm)).trans e
theorem ts_lst {H : Hp} {p : Addr} {ys : List V} {o : HO} (h : H p = some (.lst ys)) : TS H (upd H p o) := ts_upd h fun _ z => nomatch z
theorem ts_dT {H : Hp} {p : Addr} {ys : List (List Key × V)} {o : HO} (h : H p = some (.dT ys)) : TS H (upd H p o) := ts_upd h fun _ z => nomatch z
theorem ts_dK {H : Hp} {p : Addr} {ys : List (Key × V)} {o : HO} (h : H p = some (.dK ys)) : TS H (upd H p o) := ts_upd h fun _ z => nomatch z
theorem ts_ins {H : Hp} {p C dx : Addr} {fs : List (Str × V)} {o : HO} (h : H p = some (.ins C dx fs)) : TS H (upd H p o) := ts_upd h fun _ z => nomatch z

/-! ### immutable data -/
mutual
def Tp (H : Hp) : PyData → V → Prop
  | .none, v => v = .non
  | .bool b, v => v = .bl b
  | .int i, v => v = .int i
  | .str s, v => v = .str s
  | .tuple ds, v => ∃ (a : Addr) (xs : List V), v = .ref a ∧ H a = some (.tup xs) ∧ TpAll H ds xs
  | .list _, _ => False
  | .dict _, _ => False
def TpAll (H : Hp) : List PyData → List V → Prop
  | [], xs => xs = []
  | d :: ds, xs => ∃ (v : V) (vs : List V), xs = v :: vs ∧ Tp H d v ∧ TpAll H ds vs
end
mutual
theorem Tp.mono {H H' : Hp} (s : TS H H') : ∀ {d : PyData} {v : V}, Tp H d v → Tp H' d v
  | .none, _, h => h
  | .bool _, _, h => h
  | .int _, _, h => h
  | .str _, _, h => h
  | .tuple ds, v, h => by
    unfold Tp at h ⊢
    obtain ⟨a, xs, e, ha, r⟩ := h
    exact ⟨a, xs, e, s _ _ ha, TpAll.mono s r⟩
  | .list _, _, h => by unfold Tp at h; exact h.elim
  | .dict _, _, h => by unfold Tp at h; exact h.elim
theorem TpAll.mono {H H' : Hp} (s : TS H H') : ∀ {ds : List PyData} {xs : List V}, TpAll H ds xs → TpAll H' ds xs
  | [], _, h => h
  | d :: ds, xs, h => by
    unfold TpAll at h ⊢
    obtain ⟨v, vs, e, h1, h2⟩ := h
    exact ⟨v, vs, e, Tp.mono s h1, TpAll.mono s h2⟩
end
section
variable {H H' : Hp} {K : PySem.W.Frag}
mutual
theorem Tp.dp : ∀ {d : PyData} {v : V}, Tp H d v → Dp K H v d
  | .none, _, h => by unfold Tp at h; subst h; exact .non
  | .bool _, _, h => by unfold Tp at h; subst h; exact .bl _
  | .int _, _, h => by unfold Tp at h; subst h; exact .int _
  | .str _, _, h => by unfold Tp at h; subst h; exact .str _
  | .tuple ds, v, h => by
    unfold Tp at h
    obtain ⟨a, xs, e, ha, r⟩ := h
    subst e
    exact .tup (SqT.of ha) (TpAll.dp r)
  | .list _, _, h => by unfold Tp at h; exact h.elim
  | .dict _, _, h => by unfold Tp at h; exact h.elim
theorem TpAll.dp : ∀ {ds : List PyData} {xs : List V}, TpAll H ds xs → DpAll K H xs ds
  | [], _, h => by unfold TpAll at h; subst h; exact .nil
  | d :: ds, xs, h => by
    unfold TpAll at h
    obtain ⟨v, vs, e, h1, h2⟩ := h
    subst e
    exact .cons (Tp.dp h1) (TpAll.dp h2)
end
theorem tp_int {i : Int} : Tp H (.int i) (.int i) := rfl
theorem tp_str {s : Str} : Tp H (.str s) (.str s) := rfl
theorem tp_tup {a : Addr} {xs : List V} {ds : List PyData} (h : H a = some (.tup xs)) (r : TpAll H ds xs) : Tp H (.tuple ds) (.ref a) := ⟨a, xs, rfl, h, r⟩
theorem ta_nil : TpAll H [] [] := rfl
theorem ta_cons {d : PyData} {ds : List PyData} {v : V} {vs : List V} (h : Tp H d v) (r : TpAll H ds vs) : TpAll H (d :: ds) (v :: vs) := ⟨v, vs, rfl, h, r⟩
theorem TpAll.length : ∀ {ds : List PyData} {xs : List V}, TpAll H ds xs → xs.length = ds.length
  | [], _, h => by unfold TpAll at h; subst h; rfl
  | d :: ds, xs, h => by
    unfold TpAll at h
    obtain ⟨v, vs, e, _, h2⟩ := h
    subst e
    rw [List.length_cons, List.length_cons, TpAll.length h2]
theorem TpAll.get : ∀ {ds : List PyData} {xs : List V} {i : Nat} {d : PyData}, TpAll H ds xs → ds[i]? = some d → ∃ v, xs[i]? = some v ∧ Tp H d v
  | [], _, i, d, _, e => by simp at e
  | d0 :: ds, xs, 0, d, h, e => by
    unfold TpAll at h
    obtain ⟨v, vs, ex, h1, _⟩ := h
    subst ex
    have q : d0 = d := by simpa using e
    subst q
    exact ⟨v, rfl, h1⟩
  | d0 :: ds, xs, i + 1, d, h, e => by
    unfold TpAll at h
    obtain ⟨v, vs, ex, _, h2⟩ := h
    subst ex
    obtain ⟨w, e1, e2⟩ := TpAll.get (i := i) (d := d) h2 (by simpa using e)
    exact ⟨w, by simpa using e1, e2⟩
theorem TpAll.back {ds : List PyData} {xs : List V} {i : Nat} {v : V} (h : TpAll H ds xs) (e : xs[i]? = some v) : ∃ d, ds[i]? = some d ∧ Tp H d v := by
  have hl := h.length
  have hi := (List.getElem?_eq_some_iff.mp e).1
  obtain ⟨w, e1, e2⟩ := h.get (List.getElem?_eq_getElem (show i < ds.length by omega))
  rw [e] at e1
  cases e1
  exact ⟨_, List.getElem?_eq_getElem (show i < ds.length by omega), e2⟩
theorem TpAll.append : ∀ {ds es : List PyData} {xs ys : List V}, TpAll H ds xs → TpAll H es ys → TpAll H (ds ++ es) (xs ++ ys)
  | [], _, xs, _, h, q => by unfold TpAll at h; subst h; exact q
  | d :: ds, es, xs, ys, h, q => by
    unfold TpAll at h
    obtain ⟨v, vs, ex, h1, h2⟩ := h
    subst ex
    exact ta_cons h1 (TpAll.append h2 q)
theorem TpAll.snoc {ds : List PyData} {xs : List V} {d : PyData} {v : V} (h : TpAll H ds xs) (q : Tp H d v) : TpAll H (ds ++ [d]) (xs ++ [v]) := h.append (ta_cons q ta_nil)
theorem TpAll.take : ∀ {ds : List PyData} {xs : List V} (n : Nat), TpAll H ds xs → TpAll H (ds.take n) (xs.take n)
  | _, _, 0, _ => ta_nil
  | [], xs, n + 1, h => by unfold TpAll at h; subst h; exact ta_nil
  | d :: ds, xs, n + 1, h => by
    unfold TpAll at h
    obtain ⟨v, vs, ex, h1, h2⟩ := h
    subst ex
    exact ta_cons h1 (TpAll.take n h2)
theorem TpAll.drop : ∀ {ds : List PyData} {xs : List V} (n : Nat), TpAll H ds xs → TpAll H (ds.drop n) (xs.drop n)
  | _, _, 0, h => h
  | [], xs, n + 1, h => by unfold TpAll at h; subst h; exact ta_nil
  | d :: ds, xs, n + 1, h => by
    unfold TpAll at h
    obtain ⟨v, vs, ex, h1, h2⟩ := h
    subst ex
    exact TpAll.drop n h2
/-- an item of a tuple, by its place -/
theorem tp_ix {ds : List PyData} {v : V} {i : Nat} {d : PyData} (h : Tp H (.tuple ds) v) (e : ds[i]? = some d) : ∃ (a : Addr) (xs : List V) (w : V), v = .ref a ∧ SqT K H a xs ∧ atI xs (i : Int) = some w ∧ Tp H d w := by
  unfold Tp at h
  obtain ⟨a, xs, ev, ha, r⟩ := h
  obtain ⟨w, e1, e2⟩ := r.get e
  exact ⟨a, xs, w, ev, SqT.of ha, atI_nat e1, e2⟩
theorem tp_len {ds : List PyData} {v : V} (h : Tp H (.tuple ds) v) : ∃ (a : Addr) (xs : List V), v = .ref a ∧ H a = some (.tup xs) ∧ TpAll H ds xs ∧ xs.length = ds.length := by
  unfold Tp at h
  obtain ⟨a, xs, ev, ha, r⟩ := h
  exact ⟨a, xs, ev, ha, r, r.length⟩
end

/-! ### names of the module -/
section
variable {X : Cx}
theorem pe_gstr {x : Str} {z : Str} {pos : Pos} (hg : Gl X x) (hm : ∃ t, X.mg x = some (.str z t)) (hd : (x == ("__debug__" : Str)) = false := by decide) : PE X (.Name x pos) (tC (.str z)) :=
  let ⟨t, h⟩ := hm
  pe_glob hg h ⟨t, rfl⟩ hd
theorem pe_gint {x : Str} {z : Int} {pos : Pos} (hg : Gl X x) (hm : ∃ t, X.mg x = some (.int z t)) (hd : (x == ("__debug__" : Str)) = false := by decide) : PE X (.Name x pos) (tC (.int z)) :=
  let ⟨t, h⟩ := hm
  pe_glob hg h ⟨t, rfl⟩ hd
theorem pe_gref {x : Str} {a : Addr} {pos : Pos} (hg : Gl X x) (hm : X.mg x = some (.ref a)) (hd : (x == ("__debug__" : Str)) = false := by decide) : PE X (.Name x pos) (tC (.ref a)) :=
  pe_glob (u := .ref a) hg hm (show RelV (.ref a) (.ref a) from rfl) hd
end
theorem pe_fldK {X : Cx} {K : PySem.W.Frag} {e : Expr} {ta : TE} {f : Str} {pos : Pos} (hK : X.K = K) (he : PE X e ta) (hb : attributeBase e f X.env (eval e X.env) = eval e X.env) : PE X (.Attribute e f pos) (tFld K ta f) := by
  subst hK
  exact pe_fld he hb
/-- the built-ins are the built-ins -/
structure Blt (mg : Str → Option Value) : Prop where
  _len : mg "len" = none
  _isinstance : mg "isinstance" = none
  _all : mg "all" = none
  _any : mg "any" = none
  _max : mg "max" = none
  _min : mg "min" = none
  _abs : mg "abs" = none
  _int : mg "int" = none
  _bool : mg "bool" = none
  _str : mg "str" = none
  _tuple : mg "tuple" = none
  _list : mg "list" = none
  _dict : mg "dict" = none
  _set : mg "set" = none
  _sorted : mg "sorted" = none
  _range : mg "range" = none
  _enumerate : mg "enumerate" = none
/-- the constants of the program -/
structure Con (K : PySem.W.Frag) (mg : Str → Option Value) (aK aT : Addr) : Prop where
  _LETTERS : ∃ t, mg "LETTERS" = some (.str "abcdefghijklmnopqrstuvwxyz" t)
  _MOST_LETTERS : ∃ t, mg "MOST_LETTERS" = some (.int 8 t)
  _KINDS : mg "KINDS" = some (.ref aK)
  _TOLD_BY : mg "TOLD_BY" = some (.ref aT)
  _OPENER : ∃ t, mg "OPENER" = some (.str "opener" t)
  _MOST_ADDRESS : ∃ t, mg "MOST_ADDRESS" = some (.int 99 t)
  _MOST_DEVICES : ∃ t, mg "MOST_DEVICES" = some (.int 30 t)
  _MOST_LOOPS : ∃ t, mg "MOST_LOOPS" = some (.int 3 t)
  _MOST_PLACES : ∃ t, mg "MOST_PLACES" = some (.int 12 t)
  _MOST_SPUR : ∃ t, mg "MOST_SPUR" = some (.int 3 t)
  _MOST_ZONES : ∃ t, mg "MOST_ZONES" = some (.int 8 t)
  _MOST_NUMBER : ∃ t, mg "MOST_NUMBER" = some (.int 99 t)
  kinds : ∀ H : Hp, SqT K H aK [.str "seeker", .str "knob", .str "bell", .str "door"]
  told : ∀ H : Hp, SqT K H aT [.str "seeker", .str "knob"]

/-- a def of the program that is called by its name and keeps a promise -/
structure Cal (P : Program) (w : World) (K : PySem.W.Frag) (mg : Str → Option Value) (base : Heap) (k : Nat) (x : Str) (ps : List Str) (sp : Sp) (f : Addr) (fd : FuncData) : Prop where
  F : FnOk P w K mg base CX0 k f fd ps sp
  g : mg x = some (.ref f)
  kp : PySem.W.keepIn K (.ref f) = true
  b : Binds K fd ps []
end K12
namespace K12
open PySem PySem.Spec PyProof.Rows L2
section
variable {P : Program} {w : World} {K : PySem.W.Frag} {mg : Str → Option Value} {base : Heap} {aK aT : Addr}
abbrev s_is_whole : Stmt := top 9
abbrev n_is_whole : List Str := ["thing", "least", "most"]
theorem sc_is_whole : FnScope n_is_whole ["thing", "least", "most"] (defScope s_is_whole) := ⟨rfl, rfl, rfl, by decide +kernel, rfl, by decide +kernel, by decide +kernel⟩
abbrev s_is_name : Stmt := top 10
abbrev n_is_name : List Str := ["thing", "sign"]
theorem sc_is_name : FnScope n_is_name ["thing"] (defScope s_is_name) := ⟨rfl, rfl, rfl, by decide +kernel, rfl, by decide +kernel, by decide +kernel⟩
abbrev s_rises : Stmt := top 11
abbrev n_rises : List Str := ["things", "k"]
theorem sc_rises : FnScope n_rises ["things"] (defScope s_rises) := ⟨rfl, rfl, rfl, by decide +kernel, rfl, by decide +kernel, by decide +kernel⟩
abbrev s_are_rising : Stmt := top 12
abbrev n_are_rising : List Str := ["thing", "many", "least", "most", "one"]
theorem sc_are_rising : FnScope n_are_rising ["thing", "many", "least", "most"] (defScope s_are_rising) := ⟨rfl, rfl, rfl, by decide +kernel, rfl, by decide +kernel, by decide +kernel⟩
abbrev s_are_whole : Stmt := top 13
abbrev n_are_whole : List Str := ["thing", "many", "least", "most", "one"]
theorem sc_are_whole : FnScope n_are_whole ["thing", "many", "least", "most"] (defScope s_are_whole) := ⟨rfl, rfl, rfl, by decide +kernel, rfl, by decide +kernel, by decide +kernel⟩
/-! ### is_whole -/
def sp_is_whole : Sp := fun vs H Q _ => ∃ i lo hi : Int, vs = [.int i, .int lo, .int hi] ∧ Q (.bl (decide (lo ≤ i) && decide (i ≤ hi))) H
theorem ok_is_whole {f : Addr} {fd : FuncData} (F : Fun K "is_whole" "is_whole" s_is_whole f fd) (B : Blt mg) : FnOk P w K mg base CX0 1 f fd ["thing", "least", "most"] sp_is_whole := by
  refine F.ok sc_is_whole (fun vs H Q E h => ?_) (fun cdv A outer s H vs Q E hr h => ?_)
  · obtain ⟨_, _, _, rfl, _⟩ := h
    rfl
  · obtain ⟨i, lo, hi, rfl, q⟩ := h
    have nd := sc_is_whole.nd
    refine ⟨_, (pss_one (ps_ret (pe_and (pe_callB call_isi (by rfl) B._isinstance boot_isinstance (pa_cons (pv 0) (pa_cons (pe_bltn (v := .ty "int") (by rfl) B._int boot_int rfl) pa_nil))) (pe_and (pe_not (pe_callB call_isi (by rfl) B._isinstance boot_isinstance (pa_cons (pv 0) (pa_cons (pe_bltn (v := .ty "bool") (by rfl) B._bool boot_bool rfl) pa_nil)))) (pe_one (pe_chain op_le op_le (pv 1) (pv 0) (pv 2))))))), ?_⟩
    refine ⟨_, rfl, _, _, _, _, true, rfl, .ty _, .base (.int i), kit_ty (by decide +kernel), true, rfl, iteT ?_⟩
    refine ⟨_, rfl, _, _, _, _, false, rfl, .ty _, .base (.int i), kit_ty (by decide +kernel), false, rfl, true, rfl, iteT ?_⟩
    refine ⟨_, rfl, _, rfl, lo, i, rfl, rfl, _, rfl, ?_⟩
    by_cases h1 : lo ≤ i
    · rw [decide_eq_true h1] at q ⊢
      refine iteT ⟨_, rfl, i, hi, rfl, rfl, ?_⟩
      exact q
    · rw [decide_eq_false h1] at q ⊢
      exact iteF q

/-! ### is_name -/
def NameOk (z : Str) : Prop := 1 ≤ z.length ∧ z.length ≤ 8 ∧ ∀ c ∈ z.cps.toList, 97 ≤ c ∧ c ≤ 122
theorem letters_cps : ("abcdefghijklmnopqrstuvwxyz" : Str).cps.toList = [97, 98, 99, 100, 101, 102, 103, 104, 105, 106, 107, 108, 109, 110, 111, 112, 113, 114, 115, 116, 117, 118, 119, 120, 121, 122] := by decide +kernel
theorem letters_mem {c : Nat} (h1 : 97 ≤ c) (h2 : c ≤ 122) : c ∈ ("abcdefghijklmnopqrstuvwxyz" : Str).cps.toList := by
  rw [letters_cps]
  simp only [List.mem_cons, List.not_mem_nil, or_false]
  omega
theorem all_rep (n : Nat) : (List.replicate n true).all id = true := by
  induction n with
  | zero => rfl
  | succ n ih => rw [List.replicate_succ, List.all_cons, ih]; rfl
theorem rep_snoc (n : Nat) : List.replicate n (V.bl true) ++ [V.bl true] = List.replicate (n + 1) (V.bl true) := by
  rw [List.replicate_succ']
theorem rep_map (n : Nat) : (List.replicate n true).map V.bl = List.replicate n (V.bl true) := by
  rw [List.map_replicate]
/-- one more True in a list of them -/
theorem rep_step {H H2 : Hp} {D : Addr} {i : Nat} {y : V} (nD : H D = none) (s1 : Same H H2) (e1 : H2 D = some (.lst (List.replicate i (V.bl true)))) (hi : i < 1000) (hy : y = .bl true) :
    ∃ acc, H2 D = some (.lst acc) ∧ acc.length < sizeLine ∧ Same H (upd H2 D (.lst (acc ++ [y]))) ∧ upd H2 D (.lst (acc ++ [y])) D = some (.lst (List.replicate (i + 1) (V.bl true))) := by
  subst hy
  refine ⟨_, e1, by rw [List.length_replicate]; exact Nat.lt_trans hi (by decide), same_mut s1 nD, ?_⟩
  rw [upd_same, rep_snoc]
def sp_is_name : Sp := fun vs H Q _ => ∃ z : Str, vs = [.str z] ∧ NameOk z ∧ ∀ H', Same H H' → Q (.bl true) H'
theorem ok_is_name {f : Addr} {fd : FuncData} (F : Fun K "is_name" "is_name" s_is_name f fd) (B : Blt mg) (G : Con K mg aK aT) : FnOk P w K mg base CX0 1 f fd ["thing"] sp_is_name := by
  refine F.ok sc_is_name (fun vs H Q E h => ?_) (fun cdv A outer s H vs Q E hr h => ?_)
  · obtain ⟨_, rfl, _⟩ := h
    rfl
  · obtain ⟨z, rfl, ⟨h1, h2, h3⟩, q⟩ := h
    have nd := sc_is_name.nd
    refine ⟨_, (pss_cons (ps_if (PW.pt (pw_or (pt_not (pt_val (pe_callB call_isi (by rfl) B._isinstance boot_isinstance (pa_cons (pv 0) (pa_cons (pe_bltn (v := .ty "str") (by rfl) B._str boot_str rfl) pa_nil))))) (pw_or1 (pt_not (pt_chain op_le op_le pe_int (pe_callB call_len_str (by rfl) B._len boot_len (pa_cons (pv 0) pa_nil)) (pe_gint (by rfl) G._MOST_LETTERS))))))
        (pss_one (ps_ret pe_bl))
        pss_nil)
      (pss_one (ps_ret (pe_callB (cr_all rfl) (by rfl) B._all boot_all (pa_cons (pe_lc (own := [("sign", 1)]) rfl nd (pi_str (pv 0)) (blkOk_by (own := [("sign", 1)]) (N := n_is_name) (sc := defScope s_is_name) (by decide +kernel)) (fun _ _ _ _ _ => (pg_name (i := 1) nd rfl (Or.inl rfl))) (fun _ _ _ _ _ => pts_nil) (fun _ _ _ _ _ => (pe_cmpR op_in_sign (pv 1) (pe_gstr (by rfl) G._LETTERS) (by rfl)))) pa_nil))))), ?_⟩
    refine ⟨_, rfl, _, _, _, _, true, rfl, .ty _, .base (.str z), kit_ty (by decide +kernel), true, rfl, iteF ?_⟩
    refine ⟨_, rfl, z, rfl, Nat.le_trans h2 (by decide), 1, z.length, rfl, rfl, true, ?_, iteT ⟨_, _, rfl, rfl, true, ?_, iteF ?_⟩⟩
    · exact congrArg V.bl (decide_eq_true (by omega))
    · exact congrArg V.bl (decide_eq_true (by omega))
    refine ⟨_, rfl, z, rfl, fun D nD => ?_⟩
    refine lc_it walk_str (fun i H' => Same H H' ∧ H' D = some (.lst (List.replicate i (V.bl true)))) ⟨same_new nD, upd_same⟩ (fun _ _ _ _ => trivial) ?_ ?_
    · rintro i x _ H1 hi ⟨s1, e1⟩ ⟨rfl, c, hc, rfl⟩
      refine ⟨rfl, ?_⟩
      refine ⟨_, rfl, c, _, rfl, rfl, ?_⟩
      have hm : c ∈ z.cps.toList := List.mem_of_getElem? (by rw [Array.getElem?_toList]; exact hc)
      have hl := letters_mem (h3 c hm).1 (h3 c hm).2
      exact rep_step nD s1 e1 (Nat.lt_of_lt_of_le hi (Nat.le_trans h2 (by decide))) (congrArg V.bl (decide_eq_true hl))
    · rintro H1 ⟨s1, e1⟩
      refine ⟨D, List.replicate z.cps.size true, rfl, SqL.of (by rw [rep_map]; exact e1), ?_⟩
      rw [all_rep]
      exact q _ s1

/-! ### rises, are_rising, are_whole -/
/-- a tuple of ints -/
def IntsT (H : Hp) (v : V) (ns : List Int) : Prop := ∃ a, v = .ref a ∧ H a = some (.tup (ns.map V.int))
theorem atI_map {ns : List Int} {i : Nat} {n : Int} (h : ns[i]? = some n) : atI (ns.map V.int) (i : Int) = some (.int n) := atI_nat (by rw [List.getElem?_map, h]; rfl)
def sp_rises : Sp := fun vs H Q _ => ∃ (v : V) (ns : List Int), vs = [v] ∧ IntsT H v ns ∧ ns.Pairwise (· < ·) ∧ ns.length ≤ 1000 ∧ ∀ H', Same H H' → Q (.bl true) H'
theorem ok_rises {f : Addr} {fd : FuncData} (F : Fun K "rises" "rises" s_rises f fd) (B : Blt mg) : FnOk P w K mg base CX0 1 f fd ["things"] sp_rises := by
  refine F.ok sc_rises (fun vs H Q E h => ?_) (fun cdv A outer s H vs Q E hr h => ?_)
  · obtain ⟨_, _, rfl, _⟩ := h
    rfl
  · obtain ⟨v, ns, rfl, ⟨a, rfl, ha⟩, hp, hl, q⟩ := h
    have nd := sc_rises.nd
    refine ⟨_, (pss_one (ps_ret (pe_callB (cr_all rfl) (by rfl) B._all boot_all (pa_cons (pe_lc (own := [("k", 1)]) rfl nd (pi_range1 (by rfl) B._range (pa_cons (pe_op op_sub (pe_callB call_len_seq (by rfl) B._len boot_len (pa_cons (pv 0) pa_nil)) pe_int) pa_nil)) (blkOk_by (own := [("k", 1)]) (N := n_rises) (sc := defScope s_rises) (by decide +kernel)) (fun _ _ _ _ _ => (pg_name (i := 1) nd rfl (Or.inl rfl))) (fun _ _ _ _ _ => pts_nil) (fun _ _ _ _ _ => (pe_cmpR op_lt (pe_ix (r := rIxT K) ix_tup (pv 0) (pv 1) (fun _ _ => rfl)) (pe_ix (r := rIxT K) ix_tup (pv 0) (pe_op op_add (pv 1) pe_int) (fun _ _ => rfl)) (nomark _)))) pa_nil)))), ?_⟩
    refine ⟨_, rfl, a, _, rfl, .inr (SqT.of ha), _, _, rfl, rfl, _, rfl, ?_, ?_, fun D nD => ?_⟩
    · rw [List.length_map]; omega
    · rw [List.length_map]; omega
    refine lc_it walk_range (fun i H' => Same H H' ∧ H' D = some (.lst (List.replicate i (V.bl true)))) ⟨same_new nD, upd_same⟩ (fun _ _ _ _ => trivial) ?_ ?_
    · rintro i x _ H1 hi ⟨s1, e1⟩ ⟨rfl, rfl⟩
      rw [List.length_map] at hi
      have g1 : ns[i]? = some ns[i] := List.getElem?_eq_getElem (by omega)
      have g2 : ns[i + 1]? = some ns[i + 1] := List.getElem?_eq_getElem (by omega)
      have lt : ns[i] < ns[i + 1] := List.pairwise_iff_getElem.mp hp i (i + 1) (by omega) (by omega) (by omega)
      refine ⟨rfl, ?_⟩
      have sa : SqT K H1 a (ns.map V.int) := SqT.of (s1 _ _ ha)
      refine ⟨_, rfl, _, rfl, a, _, _, _, rfl, rfl, sa, (by rw [Int.zero_add]; exact atI_map g1), ?_⟩
      refine ⟨_, rfl, _, rfl, _, _, rfl, rfl, a, _, _, _, rfl, rfl, sa, (by rw [Int.zero_add]; exact atI_map (i := i + 1) g2), _, _, rfl, rfl, ?_⟩
      exact rep_step nD s1 e1 (by omega) (congrArg V.bl (decide_eq_true lt))
    · rintro H1 ⟨s1, e1⟩
      refine ⟨D, List.replicate _ true, rfl, SqL.of (by rw [rep_map]; exact e1), ?_⟩
      rw [all_rep]
      exact q _ s1
def sp_are_rising : Sp := fun vs H Q _ => ∃ (v : V) (ns : List Int) (m lo hi : Int), vs = [v, .int m, .int lo, .int hi] ∧ IntsT H v ns ∧ ns.Pairwise (· < ·) ∧ (ns.length : Int) ≤ m ∧ m ≤ 1000 ∧ (∀ n ∈ ns, lo ≤ n ∧ n ≤ hi) ∧ ∀ H', Same H H' → Q (.bl true) H'
theorem ok_are_rising {f f1 f2 : Addr} {fd fd1 fd2 : FuncData} (F : Fun K "are_rising" "are_rising" s_are_rising f fd) (B : Blt mg) (c_is_whole : Cal P w K mg base 1 "is_whole" ["thing", "least", "most"] sp_is_whole f1 fd1) (c_rises : Cal P w K mg base 1 "rises" ["things"] sp_rises f2 fd2) :
    FnOk P w K mg base CX0 2 f fd ["thing", "many", "least", "most"] sp_are_rising := by
  refine F.ok sc_are_rising (fun vs H Q E h => ?_) (fun cdv A outer s H vs Q E hr h => ?_)
  · obtain ⟨_, _, _, _, _, rfl, _⟩ := h
    rfl
  · obtain ⟨v, ns, m, lo, hi, rfl, ⟨a, rfl, ha⟩, hp, hl, hm, hb, q⟩ := h
    have nd := sc_are_rising.nd
    refine ⟨_, (pss_cons (ps_if (PW.pt (pw_or (pt_not (pt_val (pe_callB call_isi (by rfl) B._isinstance boot_isinstance (pa_cons (pv 0) (pa_cons (pe_bltn (v := .ty "tuple") (by rfl) B._tuple boot_tuple rfl) pa_nil))))) (pw_or1 (pt_cmpR op_gt (pe_callB call_len_seq (by rfl) B._len boot_len (pa_cons (pv 0) pa_nil)) (pv 1) (nomark _)))))
        (pss_one (ps_ret pe_bl))
        pss_nil)
      (pss_one (ps_ret (pe_and (pe_callB (cr_all rfl) (by rfl) B._all boot_all (pa_cons (pe_lc (own := [("one", 4)]) rfl nd (pi_tup (pv 0)) (blkOk_by (own := [("one", 4)]) (N := n_are_rising) (sc := defScope s_are_rising) (by decide +kernel)) (fun _ _ _ _ _ => (pg_name (i := 4) nd rfl (Or.inl rfl))) (fun _ _ _ _ _ => pts_nil) (fun _ _ _ _ _ => (pe_call c_is_whole.F (hr.mono (by decide)) (by rfl) c_is_whole.g c_is_whole.kp c_is_whole.b .nil pass0 (pa_cons (pv 4) (pa_cons (pv 2) (pa_cons (pv 3) pa_nil)))))) pa_nil)) (pe_one (pe_call c_rises.F (hr.mono (by decide)) (by rfl) c_rises.g c_rises.kp c_rises.b .nil pass0 (pa_cons (pv 0) pa_nil))))))), ?_⟩
    refine ⟨_, rfl, _, _, _, _, true, rfl, .ty _, .base (.tup ha), kit_ty (by decide +kernel), true, rfl, iteF ?_⟩
    refine ⟨_, rfl, a, _, rfl, .inr (SqT.of ha), _, rfl, _, _, rfl, rfl, false, ?_, iteF ?_⟩
    · refine congrArg V.bl (decide_eq_false ?_)
      rw [List.length_map]; omega
    refine ⟨_, rfl, a, rfl, ⟨_, SqT.of ha⟩, fun D nD => ?_⟩
    refine lc_it walk_tup (fun i H' => Same H H' ∧ H' D = some (.lst (List.replicate i (V.bl true)))) ⟨same_new nD, upd_same⟩ (fun i H' _ p => SqT.of (p.1 _ _ ha)) ?_ ?_
    · rintro i x _ H1 hi ⟨s1, e1⟩ ⟨rfl, hx⟩
      rw [List.length_map] at hi
      have g1 : ns[i]? = some ns[i] := List.getElem?_eq_getElem (by omega)
      rw [List.getElem?_map, g1] at hx
      cases hx
      refine ⟨rfl, _, rfl, _, rfl, _, rfl, _, _, _, rfl, ?_⟩
      have b1 := hb ns[i] (List.getElem_mem _)
      exact rep_step nD s1 e1 (by omega) (by rw [decide_eq_true b1.1, decide_eq_true b1.2]; rfl)
    · rintro H1 ⟨s1, e1⟩
      refine ⟨D, List.replicate _ true, rfl, SqL.of (by rw [rep_map]; exact e1), ?_⟩
      rw [all_rep]
      refine ⟨true, rfl, iteT ?_⟩
      exact ⟨_, rfl, _, ns, rfl, ⟨a, rfl, s1 _ _ ha⟩, hp, by omega, fun H' s2 => q _ (s1.trans s2)⟩
def sp_are_whole : Sp := fun vs H Q _ => ∃ (v : V) (ns : List Int) (m lo hi : Int), vs = [v, .int m, .int lo, .int hi] ∧ IntsT H v ns ∧ (ns.length : Int) = m ∧ m ≤ 1000 ∧ (∀ n ∈ ns, lo ≤ n ∧ n ≤ hi) ∧ ∀ H', Same H H' → Q (.bl true) H'
theorem ok_are_whole {f f1 : Addr} {fd fd1 : FuncData} (F : Fun K "are_whole" "are_whole" s_are_whole f fd) (B : Blt mg) (c_is_whole : Cal P w K mg base 1 "is_whole" ["thing", "least", "most"] sp_is_whole f1 fd1) :
    FnOk P w K mg base CX0 2 f fd ["thing", "many", "least", "most"] sp_are_whole := by
  refine F.ok sc_are_whole (fun vs H Q E h => ?_) (fun cdv A outer s H vs Q E hr h => ?_)
  · obtain ⟨_, _, _, _, _, rfl, _⟩ := h
    rfl
  · obtain ⟨v, ns, m, lo, hi, rfl, ⟨a, rfl, ha⟩, hl, hm, hb, q⟩ := h
    have nd := sc_are_whole.nd
    refine ⟨_, (pss_cons (ps_if (PW.pt (pw_or (pt_not (pt_val (pe_callB call_isi (by rfl) B._isinstance boot_isinstance (pa_cons (pv 0) (pa_cons (pe_bltn (v := .ty "tuple") (by rfl) B._tuple boot_tuple rfl) pa_nil))))) (pw_or1 (pt_cmpR op_ne (pe_callB call_len_seq (by rfl) B._len boot_len (pa_cons (pv 0) pa_nil)) (pv 1) (nomark _)))))
        (pss_one (ps_ret pe_bl))
        pss_nil)
      (pss_one (ps_ret (pe_callB (cr_all rfl) (by rfl) B._all boot_all (pa_cons (pe_lc (own := [("one", 4)]) rfl nd (pi_tup (pv 0)) (blkOk_by (own := [("one", 4)]) (N := n_are_whole) (sc := defScope s_are_whole) (by decide +kernel)) (fun _ _ _ _ _ => (pg_name (i := 4) nd rfl (Or.inl rfl))) (fun _ _ _ _ _ => pts_nil) (fun _ _ _ _ _ => (pe_call c_is_whole.F (hr.mono (by decide)) (by rfl) c_is_whole.g c_is_whole.kp c_is_whole.b .nil pass0 (pa_cons (pv 4) (pa_cons (pv 2) (pa_cons (pv 3) pa_nil)))))) pa_nil))))), ?_⟩
    refine ⟨_, rfl, _, _, _, _, true, rfl, .ty _, .base (.tup ha), kit_ty (by decide +kernel), true, rfl, iteF ?_⟩
    refine ⟨_, rfl, a, _, rfl, .inr (SqT.of ha), _, rfl, rfl, false, ?_, iteF ?_⟩
    · rw [List.length_map, hl]
      exact congrArg V.bl (show (!decide (V.int m = V.int m)) = false by rw [decide_eq_true rfl]; rfl)
    refine ⟨_, rfl, a, rfl, ⟨_, SqT.of ha⟩, fun D nD => ?_⟩
    refine lc_it walk_tup (fun i H' => Same H H' ∧ H' D = some (.lst (List.replicate i (V.bl true)))) ⟨same_new nD, upd_same⟩ (fun i H' _ p => SqT.of (p.1 _ _ ha)) ?_ ?_
    · rintro i x _ H1 hi ⟨s1, e1⟩ ⟨rfl, hx⟩
      rw [List.length_map] at hi
      have g1 : ns[i]? = some ns[i] := List.getElem?_eq_getElem (by omega)
      rw [List.getElem?_map, g1] at hx
      cases hx
      refine ⟨rfl, _, rfl, _, rfl, _, rfl, _, _, _, rfl, ?_⟩
      have b1 := hb ns[i] (List.getElem_mem _)
      exact rep_step nD s1 e1 (by omega) (by rw [decide_eq_true b1.1, decide_eq_true b1.2]; rfl)
    · rintro H1 ⟨s1, e1⟩
      refine ⟨D, List.replicate _ true, rfl, SqL.of (by rw [rep_map]; exact e1), ?_⟩
      rw [all_rep]
      exact q _ s1
end
end K12
/-! KR: rules that the layer lacks: enumerate(tuple), dict(pairs) with tuple keys, d.pop(k) with a tuple key, len(set(texts)). -/
namespace K12
open PySem PySem.Spec PyProof.Rows L2
open AutoSeq1 (wpAny_loadPart')
section
variable {prog : Program} {w : World} {A : Around} {E : Value → Shared → Prop} {s : Shared}
/-! ### enumerate(t), t a tuple -/
theorem nextOf_tup {it t : Addr} {i : Nat} {its : Array Value} {x : Value} {R : Value → Shared → Prop} (hI : s.heap.IsTupleIter it t i) (hT : s.heap.IsTuple t its) (hx : its[i]? = some x)
    (k : ∀ h1, h1.IsTupleIter it t (i + 1) → Heap.SameBut it s.heap h1 → R x { s with heap := h1 }) : wpAny (model prog w) A (Builtin.SmallTypes.nextOf (.ref it)) R E s := by
  have ty := hI.typeIs
  obtain ⟨oi, e1, c1, d1⟩ := hI
  obtain ⟨ot, e2, _, nt, d2⟩ := hT
  unfold Builtin.SmallTypes.nextOf
  refine wpAny_bind (wpAny_callSpecial?_slot (name := Str.ofString "__next__") ty PySem.F.slot_tuple_iterator_next (wpAny_call_entry PySem.F.slot_tuple_iterator_next ty PySem.F.entry_tuple_iterator_next ?_ (PySem.F.args_tuple_iterator_next_1 _)))
  show wpAny _ _ (field (.ref it) 0 >>= _) _ _ s
  refine wpAny_bind (wpAny_field e1 d1 (x := .ref t) rfl ?_)
  show wpAny _ _ (if (Value.ref t == Value.none) = true then _ else _) _ _ s
  rw [if_neg (fun z => Bool.false_ne_true z : ¬ ((Value.ref t == Value.none) = true))]
  show wpAny _ _ (field (.ref it) 1 >>= _) _ _ s
  refine wpAny_bind (wpAny_field e1 d1 (x := .int i 0) rfl ?_)
  show wpAny _ _ (seqItems? (.ref t) >>= _) _ _ s
  refine wpAny_bind (wpAny_seqItems e2 d2 ?_)
  simp only [Int.toNat_natCast, hx]
  refine wpAny_bind (wpAny_setField e1 d1 (by simp) (wpAny_pure ⟨x, rfl, wpAny_pure (k _ ⟨_, Heap.get?_update_self _ e1 (Obj.isFreed_of_fields (Obj.data_mapFields d1 _)), (Obj.cls_mapFields ..).trans c1, ?_⟩ (Heap.SameBut.update ..))⟩))
  rw [Obj.data_mapFields d1]
  simp [rawInt]
theorem nextOf_tup_end {it t : Addr} {i : Nat} {its : Array Value} {R : Value → Shared → Prop} (hh : A.handled = none) (hI : s.heap.IsTupleIter it t i) (hT : s.heap.IsTuple t its) (hx : its[i]? = none)
    (k : ∀ h1 e, Heap.ExtBut it s.heap h1 → (∃ o, h1.get? e = some o ∧ o.cls = .type "StopIteration") → E (.ref e) { s with heap := h1 }) : wpAny (model prog w) A (Builtin.SmallTypes.nextOf (.ref it)) R E s := by
  have ty := hI.typeIs
  obtain ⟨oi, e1, c1, d1⟩ := hI
  obtain ⟨ot, e2, _, nt, d2⟩ := hT
  unfold Builtin.SmallTypes.nextOf
  refine wpAny_bind (wpAny_callSpecial?_slot (name := Str.ofString "__next__") ty PySem.F.slot_tuple_iterator_next (wpAny_call_entry PySem.F.slot_tuple_iterator_next ty PySem.F.entry_tuple_iterator_next ?_ (PySem.F.args_tuple_iterator_next_1 _)))
  show wpAny _ _ (field (.ref it) 0 >>= _) _ _ s
  refine wpAny_bind (wpAny_field e1 d1 (x := .ref t) rfl ?_)
  show wpAny _ _ (if (Value.ref t == Value.none) = true then _ else _) _ _ s
  rw [if_neg (fun z => Bool.false_ne_true z : ¬ ((Value.ref t == Value.none) = true))]
  show wpAny _ _ (field (.ref it) 1 >>= _) _ _ s
  refine wpAny_bind (wpAny_field e1 d1 (x := .int i 0) rfl ?_)
  show wpAny _ _ (seqItems? (.ref t) >>= _) _ _ s
  refine wpAny_bind (wpAny_seqItems e2 d2 ?_)
  simp only [Int.toNat_natCast, hx]
  refine wpAny_bind (wpAny_rule (wpAny_bind (wpAny_setField e1 d1 (by simp) ?_)))
  show wpAny _ _ (newExc (.type "StopIteration") [] >>= _) _ _ _
  refine wpAny_bind ?_
  simp only [newExc, newTuple]
  refine wpAny_bind (wpAny_newObj_type (wpAny_bind (m := firstArgMember _ _) (wpAny_of_eq (a := Value.none) (by first | rfl | (simp only [firstArgMember]; rfl)) (wpAny_newObj_type ?_ (by size_fits)))) (by size_fits))
  simp only [raiseNew]
  refine wpAny_bind (wpAny_handled ?_)
  first | rw [show A.in1.handled = none from hh] | rw [hh]
  exact wpAny_bind (wpAny_pure (wpAny_throw (k _ _ (((Heap.SameBut.update ..).extBut.push _).push _) ⟨_, Heap.get?_push_size _ rfl, rfl⟩)))
theorem draws_tup (hh : A.handled = none) (it t : Addr) (ne : t ≠ it) (its : Array Value) : Draws prog w A it [it, t] its.size (fun i v => its[i]? = some v) (fun i h => h.IsTupleIter it t i ∧ h.IsTuple t its) where
  live := fun _ _ st => st.1.elim fun o p => ⟨o, p.1⟩
  frame := fun _ _ _ st kp => ⟨st.1.elim fun o p => ⟨o, kp it (List.mem_cons_self ..) o p.1, p.2⟩, st.2.elim fun o p => ⟨o, kp t (List.mem_cons_of_mem _ (List.mem_cons_self ..)) o p.1, p.2⟩⟩
  item := fun i s Q E hi st k => nextOf_tup st.1 st.2 (Array.getElem?_eq_getElem hi) fun h1 st1 sb => k _ h1 s.toks (Array.getElem?_eq_getElem hi) ⟨st1, st.2.extBut sb.extBut ne⟩ sb
  done := fun s Q E st k => nextOf_tup_end hh st.1 st.2 (Array.getElem?_eq_none (Nat.le_refl _)) k
theorem enum_new_tup (l : Addr) (its : Array Value) (n : Nat) (dd : Option Addr) (sl : Array (Option Value)) : Meets (Builtin.«enumerate.__new__» ⟨[.type "enumerate", .ref l], []⟩) (fun _ R s => s.heap.get? l = some { cls := .type "tuple", dict := dd, data := .seq its n, slots := sl } ∧
      R (.ok (.ret (.ref (s.heap.push { cls := .type "tuple_iterator", data := .fields #[.ref l, .int 0 0] }).objs.size))) { s with heap := (s.heap.push { cls := .type "tuple_iterator", data := .fields #[.ref l, .int 0 0] }).push { cls := .type "enumerate", data := .fields #[.none, .bool false, .ref s.heap.objs.size, rawInt 0, .none, .none] } }) :=
  .of_wp fun prog w A R s h => by
    obtain ⟨hp, g, d, tk, os⟩ := s
    obtain ⟨hl, h⟩ := h
    have hsub := sub_enumerate
    have hL : Heap.IsTuple (Shared.heap ⟨hp, g, d, tk, os⟩) l its := ⟨_, hl, rfl, n, rfl⟩
    wp_walk using wpAny_loadPart' hl
    refine wpAny_stack_any fun st => wpAny_pure ?_
    split
    · rename_i c _ _ _ _ _
      cases (c == Value.type "enumerate")
      all_goals
        wp_walk using wpAny_loadPart' hl, wpAny_pyIter_tuple hL
        exact ⟨_, rfl, h⟩
    · wp_walk using wpAny_loadPart' hl, wpAny_pyIter_tuple hL
      exact ⟨_, rfl, h⟩
theorem call_enum_tup {l : Addr} {its : Array Value} {R : Value → Shared → Prop} (hL : s.heap.IsTuple l its)
    (k : ∀ h1, IsEnum h1 (s.heap.objs.size + 1) s.heap.objs.size 0 .none → h1.IsTupleIter s.heap.objs.size l 0 → (∀ b o, s.heap.get? b = some o → h1.get? b = some o) → R (.ref (s.heap.objs.size + 1)) { s with heap := h1 }) :
    wpAny (model prog w) A (call (.type "enumerate") [.ref l]) R E s := by
  obtain ⟨⟨c, dd, dt, sl⟩, hl, hc, n, hd⟩ := hL
  simp only at hc hd
  subst hc hd
  refine callType_new PySem.F.called_enumerate (by decide) (PySem.F.typeCall_enumerate_1 _) (PySem.F.newCall_enumerate_1 _) (fun obj => PySem.F.args_object_init_2 obj _) PySem.F.entry_enumerate_new (enum_new_tup l its n dd sl) ⟨hl, ?_⟩
  have hz : (s.heap.push { cls := .type "tuple_iterator", data := .fields #[.ref l, .int 0 0] }).objs.size = s.heap.objs.size + 1 := by rw [Heap.size_push]
  have he : IsEnum ((s.heap.push { cls := .type "tuple_iterator", data := .fields #[.ref l, .int 0 0] }).push { cls := .type "enumerate", data := .fields #[.none, .bool false, .ref s.heap.objs.size, rawInt 0, .none, .none] }) (s.heap.objs.size + 1) s.heap.objs.size 0 .none := by
    have e := Heap.get?_push_size (s.heap.push { cls := .type "tuple_iterator", data := .fields #[.ref l, .int 0 0] }) (o := { cls := .type "enumerate", data := .fields #[.none, .bool false, .ref s.heap.objs.size, rawInt 0, .none, .none] }) rfl
    rw [hz] at e
    exact e
  show _ ∧ _
  rw [hz]
  exact ⟨⟨_, he, rfl⟩, k _ he ⟨_, Heap.get?_push_of_some _ (Heap.get?_push_size _ rfl), rfl, rfl⟩ fun b o x => Heap.get?_push_of_some _ (Heap.get?_push_of_some _ x)⟩
end
/-- the tuple at a as it stands at each turn, each item in a new pair -/
def IteT (K : PySem.W.Frag) (a : Addr) : It :=
  ⟨fun i H => ∃ (xs : List V) (x : V), SqT K H a xs ∧ xs[i]? = some x, fun i H v H1 => ∃ T x, v = .ref T ∧ H T = none ∧ H1 = upd H T (.tup [.int (i : Nat), x]) ∧ ∀ xs, SqT K H a xs → xs[i]? = some x, fun i H => ∃ xs : List V, SqT K H a xs ∧ xs.length ≤ i⟩
theorem turn_enumT {P : Program} {w : World} {K : PySem.W.Frag} {elts : List Expr} {kk : Nat} {tpos : Pos} (a e it : Addr) :
    Turn P w K (.Tuple elts kk tpos) (IteT K a) [e, it] e (fun i h => (∃ old, IsEnum h e it ((i : Nat) : Int) old) ∧ h.IsTupleIter it a i ∧ e ≠ it ∧ a ≠ it ∧ a ≠ e) where
  mem := List.mem_cons_self ..
  obj := fun i h st b hb => by
    obtain ⟨⟨old, he⟩, ⟨o, ho, hc, hd⟩, _⟩ := st
    have eb : b = e ∨ b = it := by simpa using hb
    rcases eb with rfl | rfl
    · exact ⟨_, he, fun v q => nomatch q⟩
    · exact ⟨o, ho, fun v q => by rw [hd] at q; cases q⟩
  keep := fun i h h1 st kp => by
    obtain ⟨⟨old, he⟩, ⟨o, ho, r⟩, ne⟩ := st
    exact ⟨⟨old, kp e (List.mem_cons_self ..) _ he⟩, ⟨o, kp it (by simp) o ho, r⟩, ne⟩
  item := by
    intro X hP hw hK hc i pins s σ H E I hf st hg
    subst hP hw hK
    obtain ⟨⟨old, he⟩, hit, hne, hai, hae⟩ := st
    obtain ⟨xs, x, hq, hx⟩ := hg
    obtain ⟨its, rv, p, hz⟩ := I.tuple hq
    obtain ⟨u, hu, ru⟩ := rv.get hx
    have hel : e < s.heap.objs.size := Heap.lt_size he
    have hil : it < s.heap.objs.size := hit.elim fun _ q => Heap.lt_size q.1
    have hiu : i < its.toArray.size := by
      have q := (List.getElem?_eq_some_iff.mp hu).1
      simpa using q
    have D := draws_tup (prog := X.prog) (w := X.w) (A := X.A.in1) (I.ok.hd hc) it a hai its.toArray
    refine wpAny_pyNext_enum_itemD D he ⟨hit, p⟩ hiu hne (by simp [hne, hae.symm]) fun x' h1 tk hx1 ho hit1 hT hsz hk => ?_
    have ex : x' = u := by
      have q : its.toArray[i]? = some u := by simpa using hu
      rw [q] at hx1
      exact (Option.some.inj hx1).symm
    subst ex
    refine ⟨_, rfl, wpAny_letOwnedTupleGo_enum (s := { s with heap := h1, toks := tk + 1 }) ho fun h2 he2 sb => ?_⟩
    have hT2 : h2.get? s.heap.objs.size = some { cls := .type "tuple", data := .seq #[.int i tk, x'] } := (sb.2 _ (Nat.ne_of_gt hel)).trans hT
    have new : ObjOk X.prog X.w (upd H s.heap.objs.size (.tup [.int (i : Nat), x])) h2 s.heap.objs.size (.tup [.int (i : Nat), x]) := ⟨by show 2 ≤ sizeLine; decide, [.int i tk, x'], .cons ⟨_, rfl⟩ (.cons ru .nil), ⟨_, hT2, rfl, _, rfl⟩⟩
    have I1 : Inv X pins σ (upd H s.heap.objs.size (.tup [.int (i : Nat), x])) { s with heap := h2, toks := tk + 1 } := I.turnedNew (ch := [e, it]) (fun b ob hb q => (sb.2 b (fun z => hb (by simp [z]))).trans (hk b ob (fun z => hb (by simp [z])) (fun z => hb (by simp [z])) q)) hf (Nat.le_refl _) new
    refine ⟨.ref s.heap.objs.size, _, I1, rfl, ⟨_, x, rfl, I.hok.fresh (Nat.le_refl _), rfl, fun ys hy => by rw [I.tuple_inj hy hq]; exact hx⟩, ⟨⟨x', ?_⟩, ?_, hne, hai, hae⟩, fun b hb => ?_⟩
    · rw [show ((i + 1 : Nat) : Int) = (i : Int) + 1 from rfl]
      exact he2
    · obtain ⟨o, q, r⟩ := hit1.1
      exact ⟨o, (sb.2 it (Ne.symm hne)).trans q, r⟩
    · have hb1 : b < s.heap.objs.size := by
        have eb : b = e ∨ b = it := by simpa using hb
        rcases eb with rfl | rfl
        · exact hel
        · exact hil
      rw [upd_ne (Nat.ne_of_lt hb1)]
      exact (hf b hb).1
  done := by
    intro X hP hw hK hc i pins s σ H E I hf st hg
    subst hP hw hK
    obtain ⟨⟨old, he⟩, hit, hne, hai, hae⟩ := st
    obtain ⟨xs, hq, hx⟩ := hg
    obtain ⟨its, rv, p, hz⟩ := I.tuple hq
    obtain ⟨f0, f1, f2, f3, f4, f5⟩ := hf it (by simp)
    have hl := rv.length
    have hT : s.TypeIs (.ref e) "enumerate" := ⟨_, he, rfl⟩
    unfold pyNext
    refine wpAny_bind (wpAny_attempt (wpAny_callSpecial?_slot (name := Str.ofString "__next__") hT PySem.F.slot_enumerate_next (wpAny_call_entry PySem.F.slot_enumerate_next hT PySem.F.entry_enumerate_next ?_ (PySem.F.args_enumerate_next_1 _))))
    show wpAny _ _ (field (.ref e) 2 >>= _) _ _ _
    refine wpAny_bind (wpAny_field he rfl (x := .ref it) rfl ?_)
    refine wpAny_bind (nextOf_tup_end (A := X.A.in1) (I.ok.hd hc) hit p (by simp; omega) fun h1 x eb hx1 => ?_)
    refine wpAny_bind (wpAny_isInstance (T := "StopIteration") (b := true) hx1 isSubtype_stop ?_)
    exact wpAny_pure ⟨rfl, I.turned (t' := s.toks) (fun b o hb q => eb b o hb q) f0 f1 f3 f4 f5⟩
  self := fun A i s Q E st h => st.1.elim fun _ he => wpAny_pyIter_enum he h
def iEnumT (K : PySem.W.Frag) (ta : TA) : TI := fun σ H R => ta σ H fun vs H1 => ∃ a xs, vs = [.ref a] ∧ SqT K H1 a xs ∧ R (IteT K a) H1
theorem pi_enumT {X : Cx} {e : Expr} {ta : TA} {p pos tpos : Pos} {elts : List Expr} {kk : Nat} (hg : Gl X "enumerate") (hm : X.mg "enumerate" = none) (ha : PA X [e] ta) (hs : starEach [e] X.env = [(false, eval e X.env)] := by rfl) :
    PI X (.Tuple elts kk tpos) (.Call (.Name "enumerate" p) [e] [] pos) (iEnumT X.K ta) := by
  refine ⟨fun pins s σ H R I h => Call_ (ld_blt I hg hm boot_enumerate (PyProof.Rows.callWith_type1 (thn (ha.run pos pins s σ H _ I h) fun us s1 ⟨vs, H1, I1, r1, q1⟩ => ?_) hs rfl))⟩
  obtain ⟨a, xs, rfl, hq, q⟩ := q1
  cases r1 with
  | cons r rr =>
    cases rr
    cases r
    obtain ⟨its, rv, pt, hz⟩ := I1.tuple hq
    have hal : a < s1.heap.objs.size := pt.elim fun _ z => Heap.lt_size z.1
    refine call_enum_tup (show s1.heap.IsTuple a its.toArray from pt) fun h1 he hit hk => wpAny_pyIter_enum he ?_
    have I2 : Inv X pins σ H1 { s1 with heap := h1 } := I1.kept (t' := s1.toks) hk
    refine ⟨s1.heap.objs.size + 1, [s1.heap.objs.size + 1, s1.heap.objs.size], _, _, H1, rfl, I2, turn_enumT a (s1.heap.objs.size + 1) s1.heap.objs.size, ⟨⟨.none, he⟩, hit, Nat.succ_ne_self _, Nat.ne_of_lt hal, Nat.ne_of_lt (Nat.lt_succ_of_lt hal)⟩, fun b hb => ?_, q⟩
    have eb : b = s1.heap.objs.size + 1 ∨ b = s1.heap.objs.size := by simpa using hb
    have hle : s1.heap.objs.size ≤ b := by
      rcases eb with rfl | rfl
      · exact Nat.le_succ _
      · exact Nat.le_refl _
    exact I1.fpOk hle (I1.hok.fresh hle)
theorem walk_enumT {K : PySem.W.Frag} {a : Addr} {xs : List V} : Walk (IteT K a) xs.length (fun H => SqT K H a xs) (YPair (fun i => some (.int (i : Nat))) (fun i => xs[i]?)) := by
  refine ⟨fun i _ hi q => ⟨xs, xs[i], q, List.getElem?_eq_getElem hi⟩, fun _ q => ⟨xs, q, Nat.le_refl _⟩, fun i H v H1 _ q y => ?_⟩
  obtain ⟨T, x, h1, h2, h3, h4⟩ := y
  exact ⟨T, .int (i : Nat), x, h1, h2, h3, rfl, h4 xs q⟩

/-! ### room -/
theorem hu64_of {A : Around} {k : Nat} (hr : Room k A) : A.units + 64 < cLine := by have := hr.un; omega
theorem hu65_of {A : Around} {k : Nat} (hr : Room k A) : A.units + 65 < cLine := by have := hr.un; omega
theorem hu1_of {A : Around} {k : Nat} (hr : Room k A) : A.units + 1 < cLine := by have := hr.un; omega
theorem hu2_of {A : Around} {k : Nat} (hr : Room k A) : A.units + 2 < cLine := by have := hr.un; omega

/-! ### d.pop(k), k a tuple that is there -/
section
variable {Kt : Type} [DecidableEq Kt] {prog : Program} {w : World} {knd : HeapKind prog w Kt}
theorem meets_pop1 {d b : Addr} {k : Kt} (hd : (d == sysModules) = false) :
    MeetsIn prog w (Builtin.«dict.pop» ⟨[.ref d, .ref b], []⟩) (fun A R s => ∃ xs, knd.room A.in1 ∧ knd.is s.heap k b ∧ s.heap.DictOfH knd d xs ∧ xs.length ≤ sizeLine ∧
      ∃ p, atKey xs k = some p ∧ ∀ h1 tk, h1.DictOfH knd d (DT.dropH xs k) → Heap.SameBut d s.heap h1 → R (.ok (.ret p.2)) { s with heap := h1, toks := tk }) :=
  .of_wp fun A R s ⟨xs, hu, hkey, hm, hsz, p, hp, done⟩ => by
    obtain ⟨o, es, ep, ho, hc, hdat, he, his, hn⟩ := id hm
    have hes : es.size = xs.length := size_of_entries he
    have nopart : (keyPart (Value.ref b)).isSome = false := rfl
    unfold Builtin.«dict.pop»
    refine wpAny_bind ?_
    unfold Builtin.Dict.keyAndDefault
    refine wpAny_bind (wpAny_notOrdered_dict hm.typeIs ?_)
    show wpAny _ _ (pure (d, Value.ref b, Option.none)) _ _ s
    refine wpAny_pure ?_
    simp only [nopart, Bool.false_eq_true, if_false]
    refine wpAny_bind (wpAny_dictEntries ho hdat (wpAny_bind (wpAny_pure ?_)))
    have hem : es.isEmpty = false := by
      cases q : es.isEmpty with
      | false => rfl
      | true =>
        have z : es.size = 0 := by simpa using q
        have z0 : xs = [] := List.length_eq_zero_iff.mp (by omega)
        rw [z0] at hp
        exact nomatch (show Option.none = some p from hp)
    rw [hem]
    simp only [Bool.false_eq_true, if_false]
    refine wpAny_bind (DT.takeH hu hkey hm hsz (fun z => by rw [hp] at z; cases z) fun q e hq hev h1 hm1 hs1 => ?_)
    rw [hp] at hq
    cases hq
    simp only [Option.isNone_some, Bool.false_eq_true, if_false]
    exact wpAny_bind (wpAny_letGo (wpAny_pure ⟨e.val, rfl, by rw [hev]; exact done h1 _ hm1 hs1⟩))
end
section
variable {X : Cx}
def rPop1 : V → List V → Hp → VK → Prop := fun x xs H Q => ∃ (a : Addr) (kvs : List (List L2.Key × V)) (k : List L2.Key) (b : Addr) (v : V), x = .ref a ∧ xs = [.ref b] ∧ H a = some (.dT kvs) ∧ H b = some (.tup (k.map kV)) ∧ valV kvs k = some v ∧ Q v (upd H a (.dT (dropK kvs k)))
theorem mt_popT1 (hu : X.A.units + 1 < cLine) : MtR X "dict.pop" rPop1 := by
  intro pins s σ H x xs v us Q I rx rxs h
  obtain ⟨a, kvs, k, b, v0, rfl, rfl, ha, hb, ev, q⟩ := h
  cases rx
  obtain ⟨u1, rfl, r1⟩ := rxs.one
  cases r1
  obtain ⟨z, hd, xs', rel, dd⟩ := dt_of I.hok ha
  have hz : xs'.length ≤ sizeLine := (Paired.length rel) ▸ z
  have r := rel.val k
  rw [ev] at r
  obtain ⟨p, hp, rv⟩ : ∃ p, atKey xs' k = some p ∧ RelV v0 p.2 := by
    cases c : atKey xs' k with
    | none =>
      rw [c] at r
      exact (show False from r).elim
    | some p =>
      rw [c] at r
      exact ⟨p, rfl, r⟩
  refine call_meetsIn PySem.F.slot_dict_pop dd.typeIs PySem.F.entry_dict_pop (PySem.F.args_dict_pop_2 _ _) (meets_pop1 (knd := tupleKind (mixKind X.prog X.w)) (k := k) hd) ⟨xs', tupleKind_room_in1 hu, key_of I.hok hb, dd, hz, p, hp, fun h1 tk dd1 hs => ?_⟩
  obtain ⟨o, es, ep, hq, h2, h3, h4, _, h5⟩ := dd1
  have I2 : Inv X pins σ (upd H a (.dT (dropK kvs k))) { s with heap := h1, toks := tk } :=
    d_write I (by rw [ha]; exact True.intro) hs ⟨o, hq⟩ ⟨Nat.le_trans (dropK_le kvs k) z, hd, _, (DX.KT_drop k rel).keeps (fun c ys ec => (upd_ne (ne_of ec ha (fun z => nomatch z))).trans ec), o, es, ep, hq, h2, h3, h4, h5⟩
  exact ⟨v0, _, I2, rv, q⟩

/-! ### dict(l), l a list of pairs (a tuple, a value), the keys unlike -/
def rDictT (K : PySem.W.Frag) : List V → Hp → VK → Prop := fun vs H Q => ∃ (a : Addr) (ts : List (Addr × Addr)) (kvs : List (List L2.Key × V)), vs = [.ref a] ∧ SqL K H a (ts.map fun t => V.ref t.1) ∧
  Paired (fun (t : Addr × Addr) (kv : List L2.Key × V) => H t.1 = some (.tup [.ref t.2, kv.2]) ∧ H t.2 = some (.tup (kv.1.map kV))) ts kvs ∧ (kvs.map (·.1)).Nodup ∧ ∀ p, H p = none → Q (.ref p) (upd H p (.dT kvs))
theorem dict_rows {pins : List (Addr × Obj)} {σ : L2.St} {H : Hp} {s : Shared} (I : L2.Inv X pins σ H s) : ∀ {ts : List (Addr × Addr)} {kvs : List (List L2.Key × V)},
    Paired (fun (t : Addr × Addr) (kv : List L2.Key × V) => H t.1 = some (.tup [.ref t.2, kv.2]) ∧ H t.2 = some (.tup (kv.1.map kV))) ts kvs →
    ∃ xs : List (List L2.Key × Addr × Value), KT H kvs xs ∧ xs.length = ts.length ∧ ∀ (j : Nat) (k : List L2.Key) (b : Addr) (u : Value), xs[j]? = some (k, b, u) → ∃ t, ts[j]? = some (t, b) ∧ IsTup s.heap t #[.ref b, u]
  | _, _, .nil => ⟨[], .nil, rfl, fun j k b u e => by simp at e⟩
  | _, _, .cons (a := t) (b := kv) h r => by
    obtain ⟨xs, h1, h2, h3⟩ := dict_rows I r
    obtain ⟨hz, its, rv, p⟩ := (show ObjOk X.prog X.w H s.heap t.1 (.tup [.ref t.2, kv.2]) from I.hok _ _ h.1)
    obtain ⟨u1, u2, rfl, r1, r2⟩ := vals2 rv
    cases r1
    refine ⟨(kv.1, t.2, u2) :: xs, .cons ⟨rfl, h.2, r2⟩ h1, by rw [List.length_cons, List.length_cons, h2], fun j k b u e => ?_⟩
    cases j with
    | zero =>
      simp only [List.getElem?_cons_zero, Option.some.injEq, Prod.mk.injEq] at e
      obtain ⟨rfl, rfl, rfl⟩ := e
      exact ⟨t.1, by simp, p⟩
    | succ j =>
      simp only [List.getElem?_cons_succ] at e
      obtain ⟨t', e1, e2⟩ := h3 j k b u e
      exact ⟨t', by simp only [List.getElem?_cons_succ]; exact e1, e2⟩
theorem stored_all {Kt : Type} [DecidableEq Kt] : ∀ (ps acc : List (Kt × Addr × Value)), ((acc ++ ps).map (·.1)).Nodup → storedAllH acc ps = acc ++ ps
  | [], acc, _ => (List.append_nil acc).symm
  | p :: ps, acc, h => by
    have no : atKey acc p.1 = Option.none := by
      cases c : atKey acc p.1 with
      | none => rfl
      | some q =>
        exfalso
        unfold atKey at c
        obtain ⟨y, hy, _⟩ := Option.map_eq_some_iff.mp c
        have hm := List.mem_of_find?_eq_some hy
        have hk : y.1 = p.1 := by
          have z := List.find?_some hy
          exact of_decide_eq_true z
        rw [List.map_append, List.nodup_append] at h
        exact h.2.2 y.1 (List.mem_map.mpr ⟨y, hm, rfl⟩) p.1 (by simp) hk
    show storedAllH (storedH acc p.1 p.2.1 p.2.2) ps = acc ++ p :: ps
    rw [storedH_new no, stored_all ps _ (by rw [List.append_assoc]; exact h), List.append_assoc]
    rfl
theorem KT.keys {H : Hp} : ∀ {kvs : List (List L2.Key × V)} {xs : List (List L2.Key × Addr × Value)}, KT H kvs xs → xs.map (·.1) = kvs.map (·.1)
  | _, _, .nil => rfl
  | _, _, .cons h t => by rw [List.map_cons, List.map_cons, KT.keys t, h.1]
theorem call_dictT (hc : X.calm = true) (hu : X.A.units + 2 < cLine) : CallR X (.type "dict") (rDictT X.K) := by
  intro pins s σ H vs us Q I r h
  obtain ⟨a, ts, kvs, rfl, hl, hp, hn, q⟩ := h
  obtain ⟨u, rfl, rx⟩ := r.one
  cases rx
  obtain ⟨xs, kt, hlen, rows⟩ := dict_rows I hp
  obtain ⟨its, rv, ⟨o, n, ho, hcl, hdd, hdt⟩, hz⟩ := I.list hl
  rw [List.length_map] at hz
  have hil : its.length = ts.length := by rw [← rv.length, List.length_map]
  have items : ∀ (j : Nat) (t : Addr × Addr), ts[j]? = some t → its.toArray[j]? = some (Value.ref t.1) := fun j t e => by
    obtain ⟨w', e1, e2⟩ := rv.get (i := j) (x := .ref t.1) (by rw [List.getElem?_map, e]; rfl)
    cases e2
    simpa using e1
  have ok : PlainSeq "list" s.heap a its.toArray ∧ PairItems s.heap its.toArray (fun j => (ts.getD j (0, 0)).1) (xs.map fun x => (Value.ref x.2.1, x.2.2)) := by
    refine ⟨⟨o, n, ho, hcl, hdd, hdt⟩, by simp [hil, hlen], fun j k v e => ?_⟩
    rw [List.getElem?_map] at e
    obtain ⟨x, ex, ex2⟩ := Option.map_eq_some_iff.mp e
    obtain ⟨k0, b0, u0⟩ := x
    cases ex2
    obtain ⟨t, e1, e2⟩ := rows j k0 b0 u0 ex
    have ed : (ts.getD j (0, 0)).1 = t := by rw [List.getD_eq_getElem?_getD, e1]; rfl
    show its.toArray[j]? = some (Value.ref (ts.getD j (0, 0)).1) ∧ PairAt s.heap (ts.getD j (0, 0)).1 _ _
    rw [ed]
    exact ⟨items j _ e1, .inl e2⟩
  have hm : (s.heap.objs.size == sysModules) = false := beq_eq_false_iff_ne.mpr (Nat.ne_of_gt I.big)
  refine call_dict_pairsH (knd := tupleKind (mixKind X.prog X.w)) (ps := xs) (PairArg.list a its.toArray (fun j => (ts.getD j (0, 0)).1) (xs.map fun x => (Value.ref x.2.1, x.2.2))) (I.ok.hd hc) (show X.A.in1.in1.units < cLine from hu) ok ⟨by rw [List.length_map], fun i key v e => ?_⟩ (fun h1 hk x hx => ?_) (by rw [List.length_map, hlen]; exact hz) fun h1 tk dd hk => ?_
  · have e' : (xs.map fun x => (Value.ref x.2.1, x.2.2))[i]? = some (key, v) := e
    rw [List.getElem?_map] at e'
    obtain ⟨x, ex, ex2⟩ := Option.map_eq_some_iff.mp e'
    obtain ⟨k0, b0, u0⟩ := x
    cases ex2
    exact ⟨k0, b0, ex, rfl⟩
  · obtain ⟨j, hj⟩ := List.mem_iff_getElem?.mp hx
    obtain ⟨kv, e1, e2⟩ := DX.pget kt hj
    obtain ⟨ok2, its2, n2, g1, g2, g3, g4⟩ := key_of (w := X.w) (P := X.prog) I.hok (show H x.2.1 = some (.tup (x.1.map kV)) by rw [← e2.1]; exact e2.2.1)
    exact ⟨ok2, its2, n2, hk _ _ (Nat.ne_of_lt (Heap.lt_size g1)) (fun z => nomatch z) g1, g2, g3, g4⟩
  · have hkeys : (xs.map (·.1)).Nodup := by rw [KT.keys kt]; exact hn
    rw [stored_all xs [] hkeys, List.nil_append] at dd
    obtain ⟨o2, es, ep, hq, h2, h3, h4, _, h5⟩ := dd
    have hf : H s.heap.objs.size = Option.none := I.hok.fresh (Nat.le_refl _)
    have hl2 : kvs.length ≤ sizeLine := by rw [Paired.length kt, hlen]; exact hz
    refine ⟨.ref s.heap.objs.size, upd H s.heap.objs.size (.dT kvs), I.laid (t' := tk) (fun b ob e => hk b ob (fun z => nomatch z) e) (Nat.le_refl _) ⟨hl2, hm, xs, kt.keeps (fun c ys ec => (upd_ne (ne_of_none ec hf)).trans ec), o2, es, ep, hq, h2, h3, h4, h5⟩, rfl, q _ hf⟩
end

/-! ### len(set(l)), l a list of unlike texts -/
section
variable {prog : Program} {w : World} {A : Around} {E : Value → Shared → Prop} {s : Shared}
abbrev SetS (prog : Program) (w : World) (h : Heap) (S : Addr) (zs : List Str) : Prop := h.SetOf (PySem.strKind prog w) S (fun k => zs.any (· == k)) zs.length
theorem fill_texts {R : Result → Shared → Prop} {I : Addr} {fp wr : List Addr} {G : Array GenState → Array GenState → Prop} {n : Nat} {Pr : Nat → Value → Prop} {St0 : Nat → Shared → Prop}
    (W : WalksS prog w A.in1 I fp wr G n Pr St0) (S : Addr) (hSf : S ∉ fp) (zs : List Str) (hn : zs.length = n) (nd : zs.Nodup) (few : n + 1 < scanBound)
    (val : ∀ (i : Nat) v, Pr i v → ∃ t z, zs[i]? = some z ∧ v = .str z t) : ∀ (m i : Nat) (s : Shared), n - i = m → i ≤ n → St0 i s → SetS prog w s.heap S (zs.take i) →
      (∀ s', Moved (S :: wr) G s s' → SetS prog w s'.heap S zs → R (.ok (.ret .none)) s') → codeAny (model prog w) A (.builtin "set.update.loop" ⟨[.ref S, .ref I], []⟩) R s := by
  have hSw : S ∉ wr := fun h => hSf (W.sub _ h)
  have hsub : ∀ b ∈ wr, b ∈ S :: wr := fun b hb => List.mem_cons_of_mem _ hb
  have keepS : ∀ {s1 s2 : Shared} {ys : List Str}, Moved wr G s1 s2 → SetS prog w s1.heap S ys → SetS prog w s2.heap S ys := fun hm ⟨o, es, ep, t, ho, r⟩ => ⟨o, es, ep, t, hm.heap S _ hSw ho, r⟩
  intro m
  induction m with
  | zero =>
    intro i s hk hi hst hS hR
    have e : zs.take i = zs := List.take_of_length_le (by omega)
    have hin : i = n := by omega
    subst hin
    rw [e] at hS
    refine codeAny_builtin PyProof.Rows.F.entry_set_update_loop ?_
    rw [Around.under_plainId PyProof.Rows.F.plain_set_update_loop _]
    show wpAny _ A.in1 (pyNext (.ref I) >>= _) _ _ s
    refine wpAny_bind (W.done s _ _ hst fun s1 hm => ?_)
    show wpAny _ A.in1 (ret Value.none) _ _ s1
    exact wpAny_pure (hR s1 (hm.mono hsub) (keepS hm hS))
  | succ m ih =>
    intro i s hk hi hst hS hR
    have hlt : i < n := by omega
    refine codeAny_builtin PyProof.Rows.F.entry_set_update_loop ?_
    rw [Around.under_plainId PyProof.Rows.F.plain_set_update_loop _]
    show wpAny _ A.in1 (pyNext (.ref I) >>= _) _ _ s
    refine wpAny_bind (W.item i s _ _ hlt hst fun v s1 hP hst1 hm => ?_)
    obtain ⟨t, z, hz, rfl⟩ := val i v hP
    have hS1 := keepS hm hS
    show wpAny _ A.in1 (holding [Value.str z t] (setAdd S (.str z t)) >>= _) _ _ s1
    refine wpAny_bind (wpAny_holding ?_)
    unfold setAdd
    refine wpAny_holding (wpAny_bind ((PySem.strKind prog w).pyHash (k := z) (strKind_is _ _ _ _) ?_))
    have hl : (zs.take i).length = i := by rw [List.length_take]; omega
    refine wpAny_setAddHashed_of (knd := PySem.strKind prog w) (s := { s1 with toks := s1.toks + 1 }) (strKind_is _ _ _ _) rfl hS1 (by rw [hl]; omega) fun h1 hsb hS2 => ?_
    have no : ((zs.take i).any (· == z)) = false := by
      cases c : (zs.take i).any (· == z) with
      | false => rfl
      | true =>
        obtain ⟨y, hy, ey⟩ := List.any_eq_true.mp c
        have ey2 : y = z := eq_of_beq ey
        subst ey2
        obtain ⟨j, hj⟩ := List.mem_iff_getElem?.mp hy
        rw [List.getElem?_take] at hj
        by_cases hji : j < i
        · rw [if_pos hji] at hj
          obtain ⟨l1, e1⟩ := List.getElem?_eq_some_iff.mp hj
          obtain ⟨l2, e2⟩ := List.getElem?_eq_some_iff.mp hz
          have := (List.getElem_inj nd).mp (e1.trans e2.symm)
          omega
        · rw [if_neg hji] at hj
          cases hj
    have hS3 : SetS prog w h1 S (zs.take (i + 1)) := by
      refine PyProof.Rows.SetOf_congr hS2 (fun k => ?_) ?_
      · rw [List.take_add_one, hz, List.any_append]
        show ((zs.take i).any (· == k) || decide (k = z)) = ((zs.take i).any (· == k) || ((z == k) || false))
        rw [Bool.or_false]
        by_cases e : k = z
        · subst e; simp
        · rw [decide_eq_false e, show (z == k) = false from beq_eq_false_iff_ne.mpr fun q => e q.symm]
      · rw [hl, no, List.length_take]
        simp
        omega
    refine wpAny_pure ⟨plainId_quiet PyProof.Rows.F.plain_set_update_loop _, ih (i + 1) _ (by omega) hlt (W.frame _ s1 _ _ hst1 (Nat.le_succ _) fun b hb o e => ?_) hS3 fun s2 hm2 hS4 => hR s2 (Moved.trans W.gtrans ((hm.mono hsub).then_heap (Nat.le_succ _) fun b o hb e => ?_) hm2) hS4⟩
    · rw [hsb.2 b fun q => hSf (q ▸ hb)]; exact e
    · rw [hsb.2 b fun q => hb (by rw [q]; exact List.mem_cons_self)]; exact e
theorem call_set_texts {l : Addr} {its : Array Value} {zs : List Str} {R : Value → Shared → Prop} (hh : A.handled = none) (hl : s.heap.IsList l its) (hz : Vals (zs.map V.str) its.toList) (nd : zs.Nodup) (few : zs.length + 1 < scanBound)
    (done : ∀ (h1 : Heap) (tk : Nat), SetS prog w h1 s.heap.objs.size zs → (∀ b o, s.heap.get? b = some o → h1.get? b = some o) → R (.ref s.heap.objs.size) { s with heap := h1, toks := tk }) : wpAny (model prog w) A (call (.type "set") [.ref l]) R E s := by
  have hsz : its.size = zs.length := by rw [← Array.length_toList, ← hz.length, List.length_map]
  obtain ⟨c, tl, hmro⟩ := PySem.F.called_set.mro
  have hmade := PySem.F.called_set.made
  have hsub := PySem.F.called_set.sub
  refine wpAny_call (codeAny_of_tree ?_)
  show wpAny _ _ (callAny (.type "set") _) _ _ _
  refine wpAny_pure ⟨Code.quiet_builtin _ (by decide +kernel), codeAny_builtin PySem.F.entry_type_call ?_⟩
  rw [Around.under_plain (weight_type_call_type "set" [.ref l] []) rfl]
  have h1 := PySem.F.called_set.notType
  have h2 := PySem.F.called_set.canCreate
  have hct := PySem.F.typeCall_set_1 (.ref l)
  repeat (any_goals (first | assumption | wp_step))
  refine codeAny_mono (code_set_new_1 (.ref l) (E := E) (Q₁ := fun obj s1 => ∃ led : Bool, obj = .ref s.heap.objs.size ∧ s1 = { s with heap := s.heap.push { cls := .type "set", dict := none, data := .set #[] 0 (.fresh 0 0 led) } }) fun led => ⟨led, rfl, rfl⟩) fun r s1 hr => ?_
  match r, hr with
  | .error e, hr => exact hr
  | .ok (.ret obj), hr =>
    obtain ⟨led, rfl, rfl⟩ := hr
    have hS : (s.heap.push { cls := .type "set", dict := none, data := .set #[] 0 (.fresh 0 0 led) }).get? s.heap.objs.size = some { cls := .type "set", dict := none, data := .set #[] 0 (.fresh 0 0 led) } := Heap.get?_push_size _ rfl
    have hT : Shared.TypeIs { s with heap := s.heap.push { cls := .type "set", dict := none, data := .set #[] 0 (.fresh 0 0 led) } } (.ref s.heap.objs.size) "set" := ⟨_, hS, rfl⟩
    have hli := PySem.F.called_set.init.lookup
    have hbi := PySem.F.called_set.init.bind (.ref s.heap.objs.size)
    repeat (any_goals (first | assumption | wp_step))
    refine codeAny_mono (codeAny_call_builtin (R := wants (fun r s2 => r = .none ∧ ∃ h1 tk, s2 = { s with heap := h1, toks := tk } ∧ SetS prog w h1 s.heap.objs.size zs ∧ (∀ b o, s.heap.get? b = some o → h1.get? b = some o)) E) PySem.F.called_set.init.plain PySem.F.entry_set_init (check_set_init_1 hT ?_)) fun r2 s2 hr2 => ?_
    · obtain ⟨ol, hol, hcl, nl, hdl⟩ := hl
      obtain ⟨ocls, odict, odata, oslots⟩ := ol
      simp only at hcl hdl
      subst hcl hdl
      have hol1 : (s.heap.push { cls := .type "set", dict := none, data := .set #[] 0 (.fresh 0 0 led) }).get? l = some { cls := .type "list", dict := odict, data := .seq its nl, slots := oslots } := Heap.get?_push_of_some _ hol
      have hsls := PySem.F.sub_list_set
      have hslf := PySem.F.sub_list_frozenset
      have hne : (Value.type "list" == Value.type "dict") = false := by decide
      have hl1 : (s.heap.push { cls := .type "set", dict := none, data := .set #[] 0 (.fresh 0 0 led) }).IsList l its := ⟨_, hol1, rfl, nl, rfl⟩
      unfold Builtin.«set.__init__» noKeywords Builtin.Frozenset.updateFrom
      generalize hPI : pyIter = PI
      wp_walk
      subst hPI
      refine wpAny_pyIter_list hl1 (wpAny_bind (wpAny_runValue ?_))
      have hlS : l < s.heap.objs.size := Heap.lt_size hol
      have hh3 : A.in1.in1.in1.handled = none := hh
      have esz : (s.heap.push { cls := .type "set", dict := none, data := .set #[] 0 (.fresh 0 0 led) }).objs.size = s.heap.objs.size + 1 := by rw [Heap.size_push]
      have hneI : l ≠ (s.heap.push { cls := .type "set", dict := none, data := .set #[] 0 (.fresh 0 0 led) }).objs.size := by rw [esz]; exact Nat.ne_of_lt (Nat.lt_succ_of_lt hlS)
      have hSf : s.heap.objs.size ∉ [(s.heap.push { cls := .type "set", dict := none, data := .set #[] 0 (.fresh 0 0 led) }).objs.size, l] := by
        rw [esz]
        simp only [List.mem_cons, List.not_mem_nil, or_false, not_or]
        exact ⟨Nat.ne_of_lt (Nat.lt_succ_self _), Nat.ne_of_gt hlS⟩
      refine fill_texts ((Walks.list hh3 _ l hneI its).toS) s.heap.objs.size hSf zs hsz.symm nd (by rw [hsz]; exact few) (fun i v hv => ?_) (its.size - 0) 0 _ (by omega) (Nat.zero_le _) ⟨⟨_, Heap.get?_push_size _ rfl, rfl, rfl⟩, (hl1.push _)⟩ ?_ ?_
      · have hv1 : its.toList[i]? = some v := by rw [Array.getElem?_toList]; exact hv
        have hi : i < zs.length := by
          have q := (List.getElem?_eq_some_iff.mp hv1).1
          rw [Array.length_toList, hsz] at q
          exact q
        obtain ⟨u, e1, e2⟩ := hz.get (i := i) (x := .str zs[i]) (by rw [List.getElem?_map, List.getElem?_eq_getElem hi]; rfl)
        rw [hv1] at e1
        cases e1
        obtain ⟨t, rfl⟩ := e2
        exact ⟨t, zs[i], List.getElem?_eq_getElem hi, rfl⟩
      · have hget : ((s.heap.push { cls := .type "set", dict := none, data := .set #[] 0 (.fresh 0 0 led) }).push { cls := .type "list_iterator", data := .fields #[.ref l, .int 0 0] }).get? s.heap.objs.size = some { cls := .type "set", dict := none, data := .set #[] 0 (.fresh 0 0 led) } := Heap.get?_push_of_some _ hS
        exact PyProof.Rows.SetOf_congr ((PyProof.Rows.setObjOf_fresh (knd := PySem.strKind prog w) led).setOf hget (by unfold scanBound; omega)) (fun _ => rfl) rfl
      · intro s3 hm hS3
        obtain ⟨h3, g3, d3, tk3, os3⟩ := s3
        have eg : g3 = s.gens := hm.gens
        have ed : d3 = s.drawn := hm.drawn
        have eo : os3 = s.os := hm.os
        subst eg ed eo
        show wpAny _ _ _ _ _ _
        refine wpAny_pure ?_
        show wpAny _ _ (ret Value.none) _ _ _
        refine wpAny_pure ⟨rfl, h3, tk3, rfl, hS3, fun b o e => hm.heap b o ?_ (Heap.get?_push_of_some _ (Heap.get?_push_of_some _ e))⟩
        have hb := Heap.lt_size e
        rw [esz]
        simp only [List.mem_cons, List.not_mem_nil, or_false, not_or]
        exact ⟨Nat.ne_of_lt hb, Nat.ne_of_lt (Nat.lt_succ_of_lt hb)⟩
    · match r2, hr2 with
      | .error e, hr2 => exact hr2
      | .ok (.ret r), hr2 =>
        obtain ⟨rfl, h3, tk, rfl, hS3, hk3⟩ := hr2
        repeat (any_goals (first | assumption | wp_step))
        exact done _ _ hS3 hk3
end
def tLenSetS (K : PySem.W.Frag) (ta : TE) : TE := fun σ H Q => ta σ H fun x H1 => ∃ (l : Addr) (zs : List Str), x = .ref l ∧ SqL K H1 l (zs.map V.str) ∧ zs.Nodup ∧ zs.length ≤ 1000 ∧ Q (.int zs.length) H1
theorem pe_lenSetS {X : Cx} {a : Expr} {ta : TE} {p p2 q pos : Pos} (hc : X.calm = true) (hg : Gl X "len") (hm : X.mg "len" = none) (hg2 : Gl X "set") (hm2 : X.mg "set" = none) (ha : PE X a ta)
    (na : starEach [a] X.env = (false, eval a X.env) :: starEach [] X.env := by rfl) : PE X (.Call (.Name "len" p) [.Call (.Name "set" p2) [a] [] q] [] pos) (tLenSetS X.K ta) := by
  refine ⟨fun pins s σ H Q I h => Call_ (ld_blt I hg hm boot_len (PyProof.Rows.callWith_builtin1 (PyProof.Rows.args_cons ?_ rfl) rfl rfl))⟩
  refine Call_ (ld_blt I hg2 hm2 boot_set (PyProof.Rows.callWith_type1 (PyProof.Rows.args_cons (thn (ha.run pins s σ H _ I h) fun v s1 ⟨x, H1, I1, r1, q1⟩ => PyProof.Rows.args_nil ?_) na) na rfl))
  obtain ⟨l, zs, rfl, hq, nd, hl, q1⟩ := q1
  cases r1
  obtain ⟨its, r, pl, hz⟩ := I1.list hq
  refine call_set_texts (I1.ok.hd hc) pl.isList (by simpa using r) nd (by unfold scanBound; omega) fun h1 tk hS hk => ?_
  refine PyProof.Rows.args_nil ?_
  obtain ⟨o, es, ep, t, ho, hex, hd, _, _, _, hf, hn⟩ := hS
  have I2 : L2.Inv X pins σ H1 { s1 with heap := h1, toks := tk } := I1.kept hk
  exact call_len_set ho hex hd hf (by rw [hn] <;> omega) ⟨.int zs.length, H1, I2.tok _, ⟨_, by rw [hn]⟩, q1⟩
end K12
/-! K3: what a plan is; is_device .. is_zone, are_zones. -/
namespace K12
open PySem PySem.Spec PyProof.Rows L2
/-! ### lists made item by item, with the item's number -/
def fmI {α β : Type} (f : Nat → α → List β) : Nat → List α → List β
  | _, [] => []
  | k, x :: r => f k x ++ fmI f (k + 1) r
theorem fmI_append {α β : Type} (f : Nat → α → List β) : ∀ (k : Nat) (xs ys : List α), fmI f k (xs ++ ys) = fmI f k xs ++ fmI f (k + xs.length) ys
  | k, [], ys => rfl
  | k, x :: xs, ys => by
    show f k x ++ fmI f (k + 1) (xs ++ ys) = (f k x ++ fmI f (k + 1) xs) ++ _
    rw [fmI_append f (k + 1) xs ys, List.append_assoc, List.length_cons, Nat.add_assoc, Nat.add_comm 1]
theorem fmI_take {α β : Type} (f : Nat → α → List β) {xs : List α} {i : Nat} {x : α} (h : xs[i]? = some x) : fmI f 0 (xs.take (i + 1)) = fmI f 0 (xs.take i) ++ f i x := by
  have hi := (List.getElem?_eq_some_iff.mp h).1
  rw [List.take_add_one, h, fmI_append, Nat.zero_add, List.length_take, Nat.min_eq_left (Nat.le_of_lt hi)]
  show _ ++ (f i x ++ []) = _
  rw [List.append_nil]
theorem fmI_mem {α β : Type} (f : Nat → α → List β) {y : β} : ∀ {k : Nat} {xs : List α}, y ∈ fmI f k xs ↔ ∃ (i : Nat) (x : α), xs[i]? = some x ∧ y ∈ f (k + i) x
  | k, [] => by
    constructor
    · intro h; cases h
    · rintro ⟨i, x, h, _⟩
      simp at h
  | k, x :: xs => by
    show y ∈ f k x ++ fmI f (k + 1) xs ↔ _
    rw [List.mem_append, fmI_mem f]
    constructor
    · rintro (h | ⟨i, z, h1, h2⟩)
      · exact ⟨0, x, rfl, h⟩
      · exact ⟨i + 1, z, by simpa using h1, by rw [Nat.add_comm i 1, ← Nat.add_assoc]; exact h2⟩
    · rintro ⟨i, z, h1, h2⟩
      cases i with
      | zero =>
        have e : x = z := by simpa using h1
        subst e
        exact .inl h2
      | succ i => exact .inr ⟨i, z, by simpa using h1, by rw [Nat.add_comm i 1, ← Nat.add_assoc] at h2; exact h2⟩
theorem fmI_pair {α β : Type} {R : β → β → Prop} (f : Nat → α → List β) : ∀ {k : Nat} {xs : List α}, (∀ (i : Nat) (x : α), xs[i]? = some x → (f (k + i) x).Pairwise R) →
    (∀ (i j : Nat) (x z : α) (a b : β), i < j → xs[i]? = some x → xs[j]? = some z → a ∈ f (k + i) x → b ∈ f (k + j) z → R a b) → (fmI f k xs).Pairwise R
  | k, [], _, _ => List.Pairwise.nil
  | k, x :: xs, h1, h2 => by
    show (f k x ++ fmI f (k + 1) xs).Pairwise R
    rw [List.pairwise_append]
    refine ⟨h1 0 x rfl, fmI_pair f (fun i z e => ?_) (fun i j z u a b hij e1 e2 m1 m2 => ?_), fun a ha b hb => ?_⟩
    · have := h1 (i + 1) z (by simpa using e)
      rw [Nat.add_comm i 1, ← Nat.add_assoc] at this
      exact this
    · refine h2 (i + 1) (j + 1) z u a b (by omega) (by simpa using e1) (by simpa using e2) ?_ ?_
      · rw [Nat.add_comm i 1, ← Nat.add_assoc]; exact m1
      · rw [Nat.add_comm j 1, ← Nat.add_assoc]; exact m2
    · obtain ⟨j, z, e, m⟩ := (fmI_mem f).mp hb
      refine h2 0 (j + 1) x z a b (by omega) rfl (by simpa using e) ha ?_
      rw [Nat.add_comm j 1, ← Nat.add_assoc]; exact m
theorem fmI_map {α β γ : Type} (g : β → γ) (f : Nat → α → List β) : ∀ (k : Nat) (xs : List α), (fmI f k xs).map g = fmI (fun i x => (f i x).map g) k xs
  | k, [] => rfl
  | k, x :: xs => by
    show (f k x ++ fmI f (k + 1) xs).map g = _
    rw [List.map_append, fmI_map g f (k + 1) xs]
    rfl

/-! ### plans -/
structure Dev where
  kind : Str
  addr : Int
structure Pl where
  kind : Str
  addr : Int
  spur : List Dev
structure Plan where
  most : Int
  loops : List (List Pl)
  zones : List (Str × List Int)
abbrev Spot := Int × Int × Int
abbrev DevAt := Spot × Str × Int
def dDev (d : Dev) : PyData := .tuple [.str d.kind, .int d.addr]
def dPl (p : Pl) : PyData := .tuple [.str p.kind, .int p.addr, .tuple (p.spur.map dDev)]
def dLoop (l : List Pl) : PyData := .tuple (l.map dPl)
def dInts (l : List Int) : PyData := .tuple (l.map .int)
def dZone (z : Str × List Int) : PyData := .tuple [.str z.1, dInts z.2]
def dPlan (P : Plan) : PyData := .tuple [.int P.most, .tuple (P.loops.map dLoop), .tuple (P.zones.map dZone)]
def dSpot (s : Spot) : PyData := .tuple [.int s.1, .int s.2.1, .int s.2.2]
def dOp (o : Int × Int) : PyData := .tuple [.int o.1, .int o.2]
def dDevAt (d : DevAt) : PyData := .tuple [dSpot d.1, .str d.2.1, .int d.2.2]
def kinds : List Str := ["seeker", "knob", "bell", "door"]
def tellers : List Str := ["seeker", "knob"]
def opener : Str := "opener"
def DevOk (d : Dev) : Prop := d.kind ∈ kinds ∧ 1 ≤ d.addr ∧ d.addr ≤ 99
def PlOk (p : Pl) : Prop := (p.kind = opener ∧ p.addr = 0 ∧ p.spur = []) ∨ (DevOk ⟨p.kind, p.addr⟩ ∧ p.spur.length ≤ 3 ∧ ∀ d ∈ p.spur, DevOk d)
theorem opener_no : ¬ opener ∈ kinds := by decide +kernel
def devsPl (l p : Int) (x : Pl) : List DevAt := (if x.kind = opener then [] else [((l, p, 0), x.kind, x.addr)]) ++ fmI (fun w d => [((l, p, (w : Int) + 1), d.kind, d.addr)]) 0 x.spur
def devsLoop (l : Int) (L : List Pl) : List DevAt := fmI (fun j x => devsPl l ((j : Int) + 1) x) 0 L
def devsOf (Ls : List (List Pl)) : List DevAt := fmI (fun i L => devsLoop (i : Int) L) 0 Ls
def pcS (s : List Nat × Nat) (x : Pl) : List Nat × Nat := if x.kind = opener then (s.1 ++ [s.2], 0) else (s.1, s.2 + (1 + x.spur.length))
def pcOf (s : List Nat × Nat) : List Nat := s.1 ++ [s.2]
def pc (L : List Pl) : List Nat := pcOf (L.foldl pcS ([], 0))
def told (Ls : List (List Pl)) : List Int := ((devsOf Ls).filter fun d => decide (d.2.1 ∈ tellers)).map (·.2.2)
structure PlanOk (P : Plan) : Prop where
  most : 1 ≤ P.most ∧ P.most ≤ 30
  loops : 1 ≤ P.loops.length ∧ P.loops.length ≤ 3
  lens : ∀ L ∈ P.loops, 1 ≤ L.length ∧ L.length ≤ 12
  pls : ∀ L ∈ P.loops, ∀ x ∈ L, PlOk x
  few : 1 ≤ (devsOf P.loops).length ∧ (devsOf P.loops).length ≤ 30
  nodup : ((devsOf P.loops).map (·.2.2)).Nodup
  uncrowd : ∀ L ∈ P.loops, ∀ c ∈ pc L, (c : Int) ≤ P.most
  zlen : P.zones.length ≤ 8
  zname : ∀ z ∈ P.zones, NameOk z.1
  znd : (P.zones.map (·.1)).Nodup
  zad : ∀ z ∈ P.zones, z.2 ≠ [] ∧ z.2.length ≤ 30 ∧ z.2.Pairwise (· < ·) ∧ ∀ a ∈ z.2, 1 ≤ a ∧ a ≤ 99
  ztold : ∀ z ∈ P.zones, ∀ a ∈ z.2, a ∈ told P.loops
  zdis : (P.zones.flatMap (·.2)).Nodup

/-! ### all(..) over a tuple -/
theorem lc_all_tup {K : PySem.W.Frag} {a : Addr} {xs : List V} {j : Nat} {te : TE} {vs : List Nat} {σ : L2.St} {H1 : Hp} {D : Addr} {Qd : Hp → Prop} (ha : H1 a = some (.tup xs)) (nD : H1 D = none) (hl : xs.length ≤ 1000)
    (step : ∀ (i : Nat) (x : V) (H2 : Hp) (Qy : VK), xs[i]? = some x → Same H1 H2 → (∀ H4, Same H2 H4 → Qy (.bl true) H4) → wipe ((wipe σ vs).set j (some x)) vs = wipe σ vs ∧ te ((wipe σ vs).set j (some x)) H2 Qy)
    (fin : ∀ H2, Same H1 H2 → H2 D = some (.lst (List.replicate xs.length (V.bl true))) → Qd H2) :
    ∃ W : Nat → Nat → Hp → Prop, (∃ m, W 0 m (upd H1 D (.lst []))) ∧ ∀ i m H, W i m H →
      ((Itt K a).stop i H ∧ Qd H) ∨ ((Itt K a).go i H ∧ ∃ Nx : Hp → Prop, (∀ H', Nx H' → ∃ m', m' < m ∧ W (i + 1) m' H') ∧ ∀ x H', (Itt K a).yld i H x H' → gName j x (wipe σ vs) H' fun σ2 H2 => wipe σ2 vs = wipe σ vs ∧ tYes σ2 H2 fun b H3 =>
        if b = true then te σ2 H3 fun y H4 => ∃ acc, H4 D = some (.lst acc) ∧ acc.length < sizeLine ∧ Nx (upd H4 D (.lst (acc ++ [y]))) else Nx H3) := by
  refine lc_it walk_tup (fun i H' => Same H1 H' ∧ H' D = some (.lst (List.replicate i (V.bl true)))) ⟨same_new nD, upd_same⟩ (fun i H' _ p => SqT.of (p.1 _ _ ha)) ?_ fun H2 p => fin H2 p.1 p.2
  rintro i x _ H2 hi ⟨s1, e1⟩ ⟨rfl, hx⟩
  show wipe ((wipe σ vs).set j (some x)) vs = wipe σ vs ∧ te ((wipe σ vs).set j (some x)) H2 _
  exact step i x H2 _ hx s1 fun H4 s4 => rep_step nD (s1.trans s4) (s4 _ _ e1) (by omega) rfl
theorem all_flags {K : PySem.W.Frag} {n : Nat} {H : Hp} {D : Addr} {Q : VK} (h : H D = some (.lst (List.replicate n (V.bl true)))) (q : Q (.bl true) H) : rAll K [V.ref D] H Q := by
  refine ⟨D, List.replicate n true, rfl, SqL.of (by rw [rep_map]; exact h), ?_⟩
  rw [all_rep]
  exact q
theorem inV_strs (k : Str) : ∀ ks : List Str, inV (.str k) (ks.map V.str) = decide (k ∈ ks)
  | [] => rfl
  | z :: ks => by
    show ((z == k) || inV (.str k) (ks.map V.str)) = _
    rw [inV_strs k ks]
    by_cases e : z = k
    · subst e; simp
    · have e2 : (z == k) = false := beq_eq_false_iff_ne.mpr e
      rw [e2, Bool.false_or]
      by_cases h : k ∈ ks
      · rw [decide_eq_true h, decide_eq_true (List.mem_cons_of_mem _ h)]
      · rw [decide_eq_false h, decide_eq_false fun q => (List.mem_cons.mp q).elim (fun q => e q.symm) h]
theorem inV_ints (k : Int) : ∀ ks : List Int, inV (.int k) (ks.map V.int) = decide (k ∈ ks)
  | [] => rfl
  | z :: ks => by
    show ((z == k) || inV (.int k) (ks.map V.int)) = _
    rw [inV_ints k ks]
    by_cases e : z = k
    · subst e; simp
    · have e2 : (z == k) = false := beq_eq_false_iff_ne.mpr e
      rw [e2, Bool.false_or]
      by_cases h : k ∈ ks
      · rw [decide_eq_true h, decide_eq_true (List.mem_cons_of_mem _ h)]
      · rw [decide_eq_false h, decide_eq_false fun q => (List.mem_cons.mp q).elim (fun q => e q.symm) h]
theorem flat_map_str (ks : List Str) : (ks.map V.str).all flatV = true := by
  induction ks with
  | nil => rfl
  | cons k ks ih => rw [List.map_cons, List.all_cons, ih]; rfl
theorem flat_map_int (ks : List Int) : (ks.map V.int).all flatV = true := by
  induction ks with
  | nil => rfl
  | cons k ks ih => rw [List.map_cons, List.all_cons, ih]; rfl
theorem ints_of {H : Hp} : ∀ {l : List Int} {xs : List V}, TpAll H (l.map .int) xs → xs = l.map V.int
  | [], _, h => h
  | n :: l, xs, h => by
    obtain ⟨v, vs, rfl, h1, h2⟩ := h
    have e : v = .int n := h1
    rw [e, ints_of h2]
    rfl
theorem intsT_of {H : Hp} {l : List Int} {v : V} (h : Tp H (dInts l) v) : IntsT H v l := by
  obtain ⟨a, xs, rfl, ha, r⟩ := h
  rw [ints_of r] at ha
  exact ⟨a, rfl, ha⟩
section
variable {P : Program} {w : World} {K : PySem.W.Frag} {mg : Str → Option Value} {base : Heap} {aK aT : Addr}
abbrev s_is_device : Stmt := top 24
abbrev n_is_device : List Str := ["thing"]
theorem sc_is_device : FnScope n_is_device ["thing"] (defScope s_is_device) := ⟨rfl, rfl, rfl, by decide +kernel, rfl, by decide +kernel, by decide +kernel⟩
abbrev s_is_place : Stmt := top 25
abbrev n_is_place : List Str := ["thing", "kind", "address", "spur", "one"]
theorem sc_is_place : FnScope n_is_place ["thing"] (defScope s_is_place) := ⟨rfl, rfl, rfl, by decide +kernel, rfl, by decide +kernel, by decide +kernel⟩
abbrev s_is_loop : Stmt := top 26
abbrev n_is_loop : List Str := ["thing", "one"]
theorem sc_is_loop : FnScope n_is_loop ["thing"] (defScope s_is_loop) := ⟨rfl, rfl, rfl, by decide +kernel, rfl, by decide +kernel, by decide +kernel⟩
abbrev s_is_zone : Stmt := top 27
abbrev n_is_zone : List Str := ["thing"]
theorem sc_is_zone : FnScope n_is_zone ["thing"] (defScope s_is_zone) := ⟨rfl, rfl, rfl, by decide +kernel, rfl, by decide +kernel, by decide +kernel⟩
abbrev s_are_zones : Stmt := top 28
abbrev n_are_zones : List Str := ["thing", "one", "zone"]
theorem sc_are_zones : FnScope n_are_zones ["thing"] (defScope s_are_zones) := ⟨rfl, rfl, rfl, by decide +kernel, rfl, by decide +kernel, by decide +kernel⟩
abbrev C_is_whole (P : Program) (w : World) (K : PySem.W.Frag) (mg : Str → Option Value) (base : Heap) := Cal P w K mg base 1 "is_whole" ["thing", "least", "most"] sp_is_whole
abbrev C_is_name (P : Program) (w : World) (K : PySem.W.Frag) (mg : Str → Option Value) (base : Heap) := Cal P w K mg base 1 "is_name" ["thing"] sp_is_name
abbrev C_are_rising (P : Program) (w : World) (K : PySem.W.Frag) (mg : Str → Option Value) (base : Heap) := Cal P w K mg base 2 "are_rising" ["thing", "many", "least", "most"] sp_are_rising
abbrev C_are_whole (P : Program) (w : World) (K : PySem.W.Frag) (mg : Str → Option Value) (base : Heap) := Cal P w K mg base 2 "are_whole" ["thing", "many", "least", "most"] sp_are_whole
/-! ### is_device -/
def sp_is_device : Sp := fun vs H Q _ => ∃ (v : V) (d : Dev), vs = [v] ∧ Tp H (dDev d) v ∧ DevOk d ∧ Q (.bl true) H
theorem ok_is_device {f f1 : Addr} {fd fd1 : FuncData} (F : Fun K "is_device" "is_device" s_is_device f fd) (B : Blt mg) (G : Con K mg aK aT) (c_is_whole : C_is_whole P w K mg base f1 fd1) : FnOk P w K mg base CX0 2 f fd ["thing"] sp_is_device := by
  refine F.ok sc_is_device (fun vs H Q E h => ?_) (fun cdv A outer s H vs Q E hr h => ?_)
  · obtain ⟨_, _, rfl, _⟩ := h
    rfl
  · obtain ⟨v, d, rfl, hv, ⟨hk, h1, h2⟩, q⟩ := h
    obtain ⟨a, xs, rfl, ha, r⟩ := hv
    obtain ⟨_, _, rfl, rfl, _, _, rfl, rfl, rfl⟩ := r
    have nd := sc_is_device.nd
    refine ⟨_, (pss_cons (ps_if (PW.pt (pw_or (pt_not (pt_val (pe_callB call_isi (by rfl) B._isinstance boot_isinstance (pa_cons (pv 0) (pa_cons (pe_bltn (v := .ty "tuple") (by rfl) B._tuple boot_tuple rfl) pa_nil))))) (pw_or (pt_cmpR op_ne (pe_callB call_len_seq (by rfl) B._len boot_len (pa_cons (pv 0) pa_nil)) pe_int (nomark _)) (pw_or1 (pt_not (pt_val (pe_callB call_isi (by rfl) B._isinstance boot_isinstance (pa_cons (pe_ix (r := rIxT K) ix_tup (pv 0) pe_int (fun _ _ => rfl)) (pa_cons (pe_bltn (v := .ty "str") (by rfl) B._str boot_str rfl) pa_nil)))))))))
        (pss_one (ps_ret pe_bl))
        pss_nil)
      (pss_one (ps_ret (pe_and (pe_cmpR (r := rIn K false) op_in_seq (pe_ix (r := rIxT K) ix_tup (pv 0) pe_int (fun _ _ => rfl)) (pe_gref (by rfl) G._KINDS) (by rfl)) (pe_one (pe_call c_is_whole.F (hr.mono (by decide)) (by rfl) c_is_whole.g c_is_whole.kp c_is_whole.b .nil pass0 (pa_cons (pe_ix (r := rIxT K) ix_tup (pv 0) pe_int (fun _ _ => rfl)) (pa_cons pe_int (pa_cons (pe_gint (by rfl) G._MOST_ADDRESS) pa_nil))))))))), ?_⟩
    refine ⟨_, rfl, _, _, _, _, true, rfl, .ty _, .base (.tup ha), kit_ty (by decide +kernel), true, rfl, iteF ?_⟩
    refine ⟨_, rfl, a, _, rfl, .inr (SqT.of ha), rfl, false, rfl, iteF ?_⟩
    refine ⟨_, rfl, a, _, 0, _, rfl, rfl, SqT.of ha, rfl, _, _, _, _, true, rfl, .ty _, .base (.str d.kind), kit_ty (by decide +kernel), true, rfl, iteF ?_⟩
    refine ⟨_, rfl, a, _, 0, _, rfl, rfl, SqT.of ha, rfl, aK, _, rfl, .inr (G.kinds H), rfl, rfl, true, ?_, iteT ?_⟩
    · refine congrArg V.bl ((inV_strs d.kind kinds).trans ?_)
      exact decide_eq_true hk
    refine ⟨_, rfl, a, _, 1, _, rfl, rfl, SqT.of ha, rfl, _, _, _, rfl, ?_⟩
    rw [decide_eq_true h1, decide_eq_true h2]
    exact q
abbrev C_is_device (P : Program) (w : World) (K : PySem.W.Frag) (mg : Str → Option Value) (base : Heap) := Cal P w K mg base 2 "is_device" ["thing"] sp_is_device
/-! ### is_place -/
def sp_is_place : Sp := fun vs H Q _ => ∃ (v : V) (p : Pl), vs = [v] ∧ Tp H (dPl p) v ∧ PlOk p ∧ ∀ H', Same H H' → Q (.bl true) H'
theorem ok_is_place {f f1 f2 : Addr} {fd fd1 fd2 : FuncData} (F : Fun K "is_place" "is_place" s_is_place f fd) (B : Blt mg) (G : Con K mg aK aT) (c_is_whole : C_is_whole P w K mg base f1 fd1) (c_is_device : C_is_device P w K mg base f2 fd2) : FnOk P w K mg base CX0 3 f fd ["thing"] sp_is_place := by
  refine F.ok sc_is_place (fun vs H Q E h => ?_) (fun cdv A outer s H vs Q E hr h => ?_)
  · obtain ⟨_, _, rfl, _⟩ := h
    rfl
  · obtain ⟨v, p, rfl, hv, hp, q⟩ := h
    obtain ⟨a, xs, rfl, ha, r⟩ := hv
    obtain ⟨_, _, rfl, rfl, _, _, rfl, rfl, w3, _, rfl, ⟨b, ys, rfl, hb, rs⟩, rfl⟩ := r
    have nd := sc_is_place.nd
    refine ⟨_, (pss_cons (ps_if (PW.pt (pw_or (pt_not (pt_val (pe_callB call_isi (by rfl) B._isinstance boot_isinstance (pa_cons (pv 0) (pa_cons (pe_bltn (v := .ty "tuple") (by rfl) B._tuple boot_tuple rfl) pa_nil))))) (pw_or (pt_cmpR op_ne (pe_callB call_len_seq (by rfl) B._len boot_len (pa_cons (pv 0) pa_nil)) pe_int (nomark _)) (pw_or1 (pt_not (pt_val (pe_callB call_isi (by rfl) B._isinstance boot_isinstance (pa_cons (pe_ix (r := rIxT K) ix_tup (pv 0) pe_int (fun _ _ => rfl)) (pa_cons (pe_bltn (v := .ty "tuple") (by rfl) B._tuple boot_tuple rfl) pa_nil)))))))))
        (pss_one (ps_ret pe_bl))
        pss_nil)
      (pss_cons (ps_asg (pv 0) (pg_tup rfl (pgs_cons (pg_name (i := 1) nd rfl (Or.inl rfl)) (pgs_cons (pg_name (i := 2) nd rfl (Or.inl rfl)) (pgs_cons (pg_name (i := 3) nd rfl (Or.inl rfl)) pgs_nil)))))
      (pss_cons (ps_if (PW.pt (pw_and (pt_val (pe_callB call_isi (by rfl) B._isinstance boot_isinstance (pa_cons (pv 1) (pa_cons (pe_bltn (v := .ty "str") (by rfl) B._str boot_str rfl) pa_nil)))) (pw_and1 (pt_cmpR op_eq (pv 1) (pe_gstr (by rfl) G._OPENER) (nomark _)))))
        (pss_one (ps_ret (pe_and (pe_call c_is_whole.F (hr.mono (by decide)) (by rfl) c_is_whole.g c_is_whole.kp c_is_whole.b .nil pass0 (pa_cons (pv 2) (pa_cons pe_int (pa_cons pe_int pa_nil)))) (pe_one (pe_cmpR op_eq (pe_callB call_len_seq (by rfl) B._len boot_len (pa_cons (pv 3) pa_nil)) pe_int (nomark _))))))
        pss_nil)
      (pss_one (ps_ret (pe_and (pe_call c_is_device.F (hr.mono (by decide)) (by rfl) c_is_device.g c_is_device.kp c_is_device.b .nil pass0 (pa_cons (pe_tup (pa_cons (pv 1) (pa_cons (pv 2) pa_nil))) pa_nil)) (pe_and (pe_cmpR op_le (pe_callB call_len_seq (by rfl) B._len boot_len (pa_cons (pv 3) pa_nil)) (pe_gint (by rfl) G._MOST_SPUR) (nomark _)) (pe_one (pe_callB (cr_all rfl) (by rfl) B._all boot_all (pa_cons (pe_lc (own := [("one", 4)]) rfl nd (pi_tup (pv 3)) (blkOk_by (own := [("one", 4)]) (N := n_is_place) (sc := defScope s_is_place) (by decide +kernel)) (fun _ _ _ _ _ => (pg_name (i := 4) nd rfl (Or.inl rfl))) (fun _ _ _ _ _ => pts_nil) (fun _ _ _ _ _ => (pe_call c_is_device.F (hr.mono (by decide)) (by rfl) c_is_device.g c_is_device.kp c_is_device.b .nil pass0 (pa_cons (pv 4) pa_nil)))) pa_nil)))))))))), ?_⟩
    refine ⟨_, rfl, _, _, _, _, true, rfl, .ty _, .base (.tup ha), kit_ty (by decide +kernel), true, rfl, iteF ?_⟩
    refine ⟨_, rfl, a, _, rfl, .inr (SqT.of ha), rfl, false, rfl, iteF ?_⟩
    refine ⟨_, rfl, a, _, 2, _, rfl, rfl, SqT.of ha, rfl, _, _, _, _, true, rfl, .ty _, .base (.tup hb), kit_ty (by decide +kernel), true, rfl, iteF ?_⟩
    refine ⟨_, rfl, a, _, rfl, SqT.of ha, rfl, _, _, rfl, _, _, rfl, _, _, rfl, rfl, ?_⟩
    refine ⟨_, rfl, _, _, _, _, true, rfl, .ty _, .base (.str p.kind), kit_ty (by decide +kernel), true, rfl, iteT ?_⟩
    rcases hp with ⟨hk, hz, hs⟩ | ⟨hd, hl, hds⟩
    · refine ⟨_, rfl, rfl, true, congrArg V.bl (decide_eq_true (congrArg V.str hk)), iteT ?_⟩
      refine ⟨_, rfl, _, _, _, rfl, true, ?_, iteT ?_⟩
      · rw [hz]; rfl
      refine ⟨_, rfl, b, ys, rfl, .inr (SqT.of hb), rfl, ?_⟩
      have e : ys.length = 0 := by rw [rs.length, hs]; rfl
      rw [e]
      exact q _ (Same.refl _)
    · have hk : p.kind ≠ opener := fun e => opener_no (e ▸ hd.1)
      refine ⟨_, rfl, rfl, false, congrArg V.bl (decide_eq_false fun e => hk (V.str.inj e)), iteF ?_⟩
      refine ⟨_, rfl, _, rfl, Nat.le_trans (show 2 ≤ 1000 by decide) (by decide), fun t nt => ?_⟩
      have s1 : Same H (upd H t (.tup [.str p.kind, .int p.addr])) := same_new nt
      refine ⟨_, ⟨p.kind, p.addr⟩, rfl, tp_tup upd_same (ta_cons tp_str (ta_cons tp_int ta_nil)), hd, true, rfl, iteT ?_⟩
      have hb1 := s1 _ _ hb
      refine ⟨_, rfl, b, ys, rfl, .inr (SqT.of hb1), _, _, rfl, rfl, true, congrArg V.bl (decide_eq_true ?_), iteT ?_⟩
      · rw [rs.length, List.length_map]; omega
      refine ⟨_, rfl, b, rfl, ⟨_, SqT.of hb1⟩, fun D nD => ?_⟩
      refine lc_all_tup hb1 nD (by rw [rs.length, List.length_map]; omega) (fun i x H2 Qy hx s2 k => ⟨rfl, ?_⟩) fun H2 s2 hD => all_flags hD (q _ (s1.trans s2))
      obtain ⟨d, e1, e2⟩ := rs.back hx
      rw [List.getElem?_map] at e1
      obtain ⟨y, ey, rfl⟩ := Option.map_eq_some_iff.mp e1
      exact ⟨_, rfl, _, y, rfl, e2.mono (ts_of (s1.trans s2)), hds y (List.mem_of_getElem? ey), k _ (Same.refl _)⟩
abbrev C_is_place (P : Program) (w : World) (K : PySem.W.Frag) (mg : Str → Option Value) (base : Heap) := Cal P w K mg base 3 "is_place" ["thing"] sp_is_place
/-! ### is_loop -/
def sp_is_loop : Sp := fun vs H Q _ => ∃ (v : V) (L : List Pl), vs = [v] ∧ Tp H (dLoop L) v ∧ (1 ≤ L.length ∧ L.length ≤ 12) ∧ (∀ x ∈ L, PlOk x) ∧ ∀ H', Same H H' → Q (.bl true) H'
theorem ok_is_loop {f f1 : Addr} {fd fd1 : FuncData} (F : Fun K "is_loop" "is_loop" s_is_loop f fd) (B : Blt mg) (G : Con K mg aK aT) (c_is_place : C_is_place P w K mg base f1 fd1) : FnOk P w K mg base CX0 4 f fd ["thing"] sp_is_loop := by
  refine F.ok sc_is_loop (fun vs H Q E h => ?_) (fun cdv A outer s H vs Q E hr h => ?_)
  · obtain ⟨_, _, rfl, _⟩ := h
    rfl
  · obtain ⟨v, L, rfl, hv, ⟨l1, l2⟩, hp, q⟩ := h
    obtain ⟨a, xs, rfl, ha, r⟩ := hv
    have hl : xs.length = L.length := by rw [r.length, List.length_map]
    have nd := sc_is_loop.nd
    refine ⟨_, (pss_one (ps_ret (pe_and (pe_callB call_isi (by rfl) B._isinstance boot_isinstance (pa_cons (pv 0) (pa_cons (pe_bltn (v := .ty "tuple") (by rfl) B._tuple boot_tuple rfl) pa_nil))) (pe_and (pe_chain op_le op_le pe_int (pe_callB call_len_seq (by rfl) B._len boot_len (pa_cons (pv 0) pa_nil)) (pe_gint (by rfl) G._MOST_PLACES)) (pe_one (pe_callB (cr_all rfl) (by rfl) B._all boot_all (pa_cons (pe_lc (own := [("one", 1)]) rfl nd (pi_tup (pv 0)) (blkOk_by (own := [("one", 1)]) (N := n_is_loop) (sc := defScope s_is_loop) (by decide +kernel)) (fun _ _ _ _ _ => (pg_name (i := 1) nd rfl (Or.inl rfl))) (fun _ _ _ _ _ => pts_nil) (fun _ _ _ _ _ => (pe_call c_is_place.F (hr.mono (by decide)) (by rfl) c_is_place.g c_is_place.kp c_is_place.b .nil pass0 (pa_cons (pv 1) pa_nil)))) pa_nil))))))), ?_⟩
    refine ⟨_, rfl, _, _, _, _, true, rfl, .ty _, .base (.tup ha), kit_ty (by decide +kernel), true, rfl, iteT ?_⟩
    refine ⟨_, rfl, a, xs, rfl, .inr (SqT.of ha), _, _, rfl, rfl, true, congrArg V.bl (decide_eq_true (by omega)), iteT ⟨_, _, rfl, rfl, true, congrArg V.bl (decide_eq_true (by omega)), iteT ?_⟩⟩
    refine ⟨_, rfl, a, rfl, ⟨_, SqT.of ha⟩, fun D nD => ?_⟩
    refine lc_all_tup ha nD (by omega) (fun i x H2 Qy hx s2 k => ⟨rfl, ?_⟩) fun H2 s2 hD => all_flags hD (q _ s2)
    obtain ⟨d, e1, e2⟩ := r.back hx
    rw [List.getElem?_map] at e1
    obtain ⟨y, ey, rfl⟩ := Option.map_eq_some_iff.mp e1
    exact ⟨_, rfl, _, y, rfl, e2.mono (ts_of s2), hp y (List.mem_of_getElem? ey), k⟩
abbrev C_is_loop (P : Program) (w : World) (K : PySem.W.Frag) (mg : Str → Option Value) (base : Heap) := Cal P w K mg base 4 "is_loop" ["thing"] sp_is_loop
/-! ### is_zone, are_zones -/
def ZoneOk (z : Str × List Int) : Prop := NameOk z.1 ∧ z.2 ≠ [] ∧ z.2.length ≤ 30 ∧ z.2.Pairwise (· < ·) ∧ ∀ a ∈ z.2, 1 ≤ a ∧ a ≤ 99
def sp_is_zone : Sp := fun vs H Q _ => ∃ (v : V) (z : Str × List Int), vs = [v] ∧ Tp H (dZone z) v ∧ ZoneOk z ∧ ∀ H', Same H H' → Q (.bl true) H'
theorem ok_is_zone {f f1 f2 : Addr} {fd fd1 fd2 : FuncData} (F : Fun K "is_zone" "is_zone" s_is_zone f fd) (B : Blt mg) (G : Con K mg aK aT) (c_is_name : C_is_name P w K mg base f1 fd1) (c_are_rising : C_are_rising P w K mg base f2 fd2) : FnOk P w K mg base CX0 3 f fd ["thing"] sp_is_zone := by
  refine F.ok sc_is_zone (fun vs H Q E h => ?_) (fun cdv A outer s H vs Q E hr h => ?_)
  · obtain ⟨_, _, rfl, _⟩ := h
    rfl
  · obtain ⟨v, z, rfl, hv, ⟨hz, h0, hl, hp, hb⟩, q⟩ := h
    obtain ⟨a, xs, rfl, ha, r⟩ := hv
    obtain ⟨_, _, rfl, rfl, w2, _, rfl, hw2, rfl⟩ := r
    obtain ⟨b, rfl, hb2⟩ := intsT_of hw2
    have nd := sc_is_zone.nd
    refine ⟨_, (pss_cons (ps_if (PW.pt (pw_or (pt_not (pt_val (pe_callB call_isi (by rfl) B._isinstance boot_isinstance (pa_cons (pv 0) (pa_cons (pe_bltn (v := .ty "tuple") (by rfl) B._tuple boot_tuple rfl) pa_nil))))) (pw_or (pt_cmpR op_ne (pe_callB call_len_seq (by rfl) B._len boot_len (pa_cons (pv 0) pa_nil)) pe_int (nomark _)) (pw_or1 (pt_not (pt_val (pe_call c_is_name.F (hr.mono (by decide)) (by rfl) c_is_name.g c_is_name.kp c_is_name.b .nil pass0 (pa_cons (pe_ix (r := rIxT K) ix_tup (pv 0) pe_int (fun _ _ => rfl)) pa_nil))))))))
        (pss_one (ps_ret pe_bl))
        pss_nil)
      (pss_one (ps_ret (pe_and (pe_call c_are_rising.F (hr.mono (by decide)) (by rfl) c_are_rising.g c_are_rising.kp c_are_rising.b .nil pass0 (pa_cons (pe_ix (r := rIxT K) ix_tup (pv 0) pe_int (fun _ _ => rfl)) (pa_cons (pe_gint (by rfl) G._MOST_DEVICES) (pa_cons pe_int (pa_cons (pe_gint (by rfl) G._MOST_ADDRESS) pa_nil))))) (pe_one (pe_cmpR op_gt (pe_callB call_len_seq (by rfl) B._len boot_len (pa_cons (pe_ix (r := rIxT K) ix_tup (pv 0) pe_int (fun _ _ => rfl)) pa_nil)) pe_int (nomark _))))))), ?_⟩
    refine ⟨_, rfl, _, _, _, _, true, rfl, .ty _, .base (.tup ha), kit_ty (by decide +kernel), true, rfl, iteF ?_⟩
    refine ⟨_, rfl, a, _, rfl, .inr (SqT.of ha), rfl, false, rfl, iteF ?_⟩
    refine ⟨_, rfl, a, _, 0, _, rfl, rfl, SqT.of ha, rfl, z.1, rfl, hz, fun H1 s1 => ⟨true, rfl, iteF ?_⟩⟩
    have ha1 := s1 _ _ ha
    have hb1 := s1 _ _ hb2
    refine ⟨_, rfl, a, _, 1, _, rfl, rfl, SqT.of ha1, rfl, _, z.2, 30, 1, 99, rfl, ⟨b, rfl, hb1⟩, hp, by omega, by decide, hb, fun H2 s2 => ⟨true, rfl, iteT ?_⟩⟩
    refine ⟨_, rfl, a, _, 1, _, rfl, rfl, SqT.of (s2 _ _ ha1), rfl, b, _, rfl, .inr (SqT.of (s2 _ _ hb1)), _, _, rfl, rfl, ?_⟩
    have h1 : 0 < z.2.length := List.length_pos_iff.mpr h0
    dsimp only
    rw [List.length_map, decide_eq_true (show (0 : Int) < (z.2.length : Int) by omega)]
    exact q _ (s1.trans s2)
abbrev C_is_zone (P : Program) (w : World) (K : PySem.W.Frag) (mg : Str → Option Value) (base : Heap) := Cal P w K mg base 3 "is_zone" ["thing"] sp_is_zone
def sp_are_zones : Sp := fun vs H Q _ => ∃ (v : V) (Z : List (Str × List Int)), vs = [v] ∧ Tp H (.tuple (Z.map dZone)) v ∧ Z.length ≤ 8 ∧ (∀ z ∈ Z, ZoneOk z) ∧ (Z.map (·.1)).Nodup ∧ ∀ H', Same H H' → Q (.bl true) H'
theorem ok_are_zones {f f1 : Addr} {fd fd1 : FuncData} (F : Fun K "are_zones" "are_zones" s_are_zones f fd) (B : Blt mg) (G : Con K mg aK aT) (c_is_zone : C_is_zone P w K mg base f1 fd1) : FnOk P w K mg base CX0 4 f fd ["thing"] sp_are_zones := by
  refine F.ok sc_are_zones (fun vs H Q E h => ?_) (fun cdv A outer s H vs Q E hr h => ?_)
  · obtain ⟨_, _, rfl, _⟩ := h
    rfl
  · obtain ⟨v, Z, rfl, hv, hl8, hz, hn, q⟩ := h
    obtain ⟨a, xs, rfl, ha, r⟩ := hv
    have hl : xs.length = Z.length := by rw [r.length, List.length_map]
    have nd := sc_are_zones.nd
    refine ⟨_, (pss_cons (ps_if (PW.pt (pw_or (pt_not (pt_val (pe_callB call_isi (by rfl) B._isinstance boot_isinstance (pa_cons (pv 0) (pa_cons (pe_bltn (v := .ty "tuple") (by rfl) B._tuple boot_tuple rfl) pa_nil))))) (pw_or (pt_cmpR op_gt (pe_callB call_len_seq (by rfl) B._len boot_len (pa_cons (pv 0) pa_nil)) (pe_gint (by rfl) G._MOST_ZONES) (nomark _)) (pw_or1 (pt_not (pt_val (pe_callB (cr_all rfl) (by rfl) B._all boot_all (pa_cons (pe_lc (own := [("one", 1)]) rfl nd (pi_tup (pv 0)) (blkOk_by (own := [("one", 1)]) (N := n_are_zones) (sc := defScope s_are_zones) (by decide +kernel)) (fun _ _ _ _ _ => (pg_name (i := 1) nd rfl (Or.inl rfl))) (fun _ _ _ _ _ => pts_nil) (fun _ _ _ _ _ => (pe_call c_is_zone.F (hr.mono (by decide)) (by rfl) c_is_zone.g c_is_zone.kp c_is_zone.b .nil pass0 (pa_cons (pv 1) pa_nil)))) pa_nil))))))))
        (pss_one (ps_ret pe_bl))
        pss_nil)
      (pss_one (ps_ret (pe_cmpR op_eq (pe_lenSetS rfl (by rfl) B._len (by rfl) B._set (pe_lc (own := [("zone", 2)]) rfl nd (pi_tup (pv 0)) (blkOk_by (own := [("zone", 2)]) (N := n_are_zones) (sc := defScope s_are_zones) (by decide +kernel)) (fun _ _ _ _ _ => (pg_name (i := 2) nd rfl (Or.inl rfl))) (fun _ _ _ _ _ => pts_nil) (fun _ _ _ _ _ => (pe_ix (r := rIxT K) ix_tup (pv 2) pe_int (fun _ _ => rfl))))) (pe_callB call_len_seq (by rfl) B._len boot_len (pa_cons (pv 0) pa_nil)) (nomark _))))), ?_⟩
    refine ⟨_, rfl, _, _, _, _, true, rfl, .ty _, .base (.tup ha), kit_ty (by decide +kernel), true, rfl, iteF ?_⟩
    refine ⟨_, rfl, a, xs, rfl, .inr (SqT.of ha), _, _, rfl, rfl, false, congrArg V.bl (decide_eq_false (by omega)), iteF ?_⟩
    refine ⟨_, rfl, a, rfl, ⟨_, SqT.of ha⟩, fun D nD => ?_⟩
    refine lc_all_tup ha nD (by omega) (fun i x H2 Qy hx s2 k => ⟨rfl, ?_⟩) fun H2 s2 hD => ?_
    · obtain ⟨d, e1, e2⟩ := r.back hx
      rw [List.getElem?_map] at e1
      obtain ⟨y, ey, rfl⟩ := Option.map_eq_some_iff.mp e1
      exact ⟨_, rfl, _, y, rfl, e2.mono (ts_of s2), hz y (List.mem_of_getElem? ey), k⟩
    refine ⟨D, List.replicate _ true, rfl, SqL.of (by rw [rep_map]; exact hD), ?_⟩
    rw [all_rep]
    refine ⟨true, rfl, iteF ?_⟩
    have ha2 := s2 _ _ ha
    refine ⟨_, rfl, a, rfl, ⟨_, SqT.of ha2⟩, fun D2 nD2 => ?_⟩
    refine lc_it walk_tup (fun i H' => Same H2 H' ∧ H' D2 = some (.lst (((Z.map (·.1)).take i).map V.str))) ⟨same_new nD2, upd_same⟩ (fun i H' _ p => SqT.of (p.1 _ _ ha2)) ?_ ?_
    · rintro i x _ H3 hi ⟨s3, e3⟩ ⟨rfl, hx⟩
      refine ⟨rfl, ?_⟩
      obtain ⟨d, e1, e2⟩ := r.back hx
      rw [List.getElem?_map] at e1
      obtain ⟨y, ey, rfl⟩ := Option.map_eq_some_iff.mp e1
      obtain ⟨b, ys, w0, rfl, g1, g2, g3⟩ := tp_ix (K := K) (i := 0) (e2.mono (ts_of (s2.trans s3))) rfl
      have ew : w0 = .str y.1 := g3
      subst ew
      refine ⟨_, rfl, b, ys, 0, _, rfl, rfl, g1, g2, _, e3, ?_, same_mut s3 nD2, ?_⟩
      · rw [List.length_map, List.length_take, List.length_map]
        exact Nat.lt_of_le_of_lt (Nat.min_le_right _ _) (Nat.lt_of_le_of_lt hl8 (by decide))
      · rw [upd_same, List.take_add_one, List.getElem?_map, ey, List.map_append]
        rfl
    · rintro H3 ⟨s3, e3⟩
      rw [List.take_of_length_le (by rw [List.length_map]; omega)] at e3
      refine ⟨D2, Z.map (·.1), rfl, SqL.of e3, hn, by rw [List.length_map]; omega, ?_⟩
      refine ⟨_, rfl, a, xs, rfl, .inr (SqT.of (s3 _ _ ha2)), rfl, ?_⟩
      rw [List.length_map, hl, decide_eq_true rfl]
      exact q _ (s2.trans s3)
abbrev C_are_zones (P : Program) (w : World) (K : PySem.W.Frag) (mg : Str → Option Value) (base : Heap) := Cal P w K mg base 4 "are_zones" ["thing"] sp_are_zones
end
end K12
/-! K4: devices, stretches, openers, parts. -/
namespace K12
open PySem PySem.Spec PyProof.Rows L2
/-! ### a list of ours that grows -/
structure Gr (H0 H : Hp) (p : Addr) (ds : List PyData) : Prop where
  same : Same H0 H
  fresh : H0 p = none
  ls : ∃ xs, H p = some (.lst xs) ∧ TpAll H ds xs
theorem Gr.new {H : Hp} {p : Addr} (h : H p = none) : Gr H (upd H p (.lst [])) p [] := ⟨same_new h, h, [], upd_same, ta_nil⟩
theorem Gr.keep {H0 H H1 : Hp} {p : Addr} {ds : List PyData} (g : Gr H0 H p ds) (s : Same H H1) : Gr H0 H1 p ds :=
  let ⟨xs, h, r⟩ := g.ls
  ⟨g.same.trans s, g.fresh, xs, s _ _ h, r.mono (ts_of s)⟩
theorem Gr.app {H0 H : Hp} {p : Addr} {ds : List PyData} {xs : List V} {d : PyData} {v : V} (s : Same H0 H) (f : H0 p = none) (h : H p = some (.lst xs)) (r : TpAll H ds xs) (t : Tp H d v) : Gr H0 (upd H p (.lst (xs ++ [v]))) p (ds ++ [d]) :=
  ⟨same_mut s f, f, _, upd_same, (r.snoc t).mono (ts_lst h)⟩
theorem Gr.ext {H0 H : Hp} {p : Addr} {ds es : List PyData} {xs ys : List V} (s : Same H0 H) (f : H0 p = none) (h : H p = some (.lst xs)) (r : TpAll H ds xs) (t : TpAll H es ys) : Gr H0 (upd H p (.lst (xs ++ ys))) p (ds ++ es) :=
  ⟨same_mut s f, f, _, upd_same, (r.append t).mono (ts_lst h)⟩
theorem Gr.base {H0 H1 H : Hp} {p : Addr} {ds : List PyData} (g : Gr H1 H p ds) (s : Same H0 H1) : Gr H0 H p ds := ⟨s.trans g.same, s.free g.fresh, g.ls⟩
/-- the list at p holds these -/
def Ls (H : Hp) (p : Addr) (ds : List PyData) : Prop := ∃ xs, H p = some (.lst xs) ∧ TpAll H ds xs
theorem small_len {ds : List PyData} {xs : List V} {H : Hp} (r : TpAll H ds xs) (h : ds.length ≤ 1000) : xs.length < sizeLine := by
  rw [r.length]
  exact small1000 h
theorem le_line {n : Nat} (h : n ≤ 1000) : n ≤ sizeLine := Nat.le_of_lt (small1000 h)
theorem fmI_len {α β : Type} (f : Nat → α → List β) (c : Nat) : ∀ (k : Nat) (xs : List α), (∀ (i : Nat) (x : α), xs[i]? = some x → (f (k + i) x).length ≤ c) → (fmI f k xs).length ≤ c * xs.length
  | _, [], _ => Nat.zero_le _
  | k, x :: xs, h => by
    show (f k x ++ fmI f (k + 1) xs).length ≤ _
    have h0 := h 0 x rfl
    have ih := fmI_len f c (k + 1) xs fun i z e => by
      have := h (i + 1) z (by simpa using e)
      rw [Nat.add_comm i 1, ← Nat.add_assoc] at this
      exact this
    rw [List.length_append, List.length_cons, Nat.mul_add]
    simp only [Nat.add_zero] at h0
    omega
theorem fmI_take_len {α β : Type} (f : Nat → α → List β) (xs : List α) (i : Nat) : (fmI f 0 (xs.take i)).length ≤ (fmI f 0 xs).length := by
  have e : fmI f 0 xs = fmI f 0 (xs.take i) ++ fmI f (0 + (xs.take i).length) (xs.drop i) := by rw [← fmI_append, List.take_append_drop]
  rw [e, List.length_append]
  omega
/-- the bounds that a plan keeps -/
structure Bnd (Ls : List (List Pl)) : Prop where
  loops : Ls.length ≤ 3
  lens : ∀ L ∈ Ls, L.length ≤ 12
  spur : ∀ L ∈ Ls, ∀ x ∈ L, x.spur.length ≤ 3
theorem PlOk.spur {x : Pl} (h : PlOk x) : x.spur.length ≤ 3 := by
  rcases h with ⟨_, _, e⟩ | ⟨_, h, _⟩
  · rw [e]; exact Nat.zero_le _
  · exact h
theorem PlanOk.bnd {P : Plan} (h : PlanOk P) : Bnd P.loops := ⟨h.loops.2, fun L m => (h.lens L m).2, fun L m x hx => (h.pls L m x hx).spur⟩
theorem devsPl_len {l p : Int} {x : Pl} (h : x.spur.length ≤ 3) : (devsPl l p x).length ≤ 4 := by
  unfold devsPl
  have h1 := fmI_len (fun (w : Nat) (d : Dev) => [(((l, p, (w : Int) + 1) : Spot), d.kind, d.addr)]) 1 0 x.spur fun i z e => by simp
  have h2 : (if x.kind = opener then [] else [(((l, p, 0) : Spot), x.kind, x.addr)] : List DevAt).length ≤ 1 := by split <;> simp
  rw [List.length_append]
  omega
theorem devsLoop_len {l : Int} {L : List Pl} (h : L.length ≤ 12) (hs : ∀ x ∈ L, x.spur.length ≤ 3) : (devsLoop l L).length ≤ 48 := by
  have h1 := fmI_len (fun (j : Nat) (x : Pl) => devsPl l ((j : Int) + 1) x) 4 0 L fun i z e => devsPl_len (hs z (List.mem_of_getElem? e))
  unfold devsLoop
  omega
theorem devsOf_len {Ls : List (List Pl)} (h : Bnd Ls) : (devsOf Ls).length ≤ 144 := by
  have h1 := fmI_len (fun (i : Nat) (L : List Pl) => devsLoop (i : Int) L) 48 0 Ls fun i z e => devsLoop_len (h.lens z (List.mem_of_getElem? e)) (h.spur z (List.mem_of_getElem? e))
  have h2 := h.loops
  unfold devsOf
  omega
/-- the loops of a plan in the heap -/
theorem plan_loops {H : Hp} {v : V} {P : Plan} (h : Tp H (dPlan P) v) : ∃ (a b : Addr) (x0 x2 : V) (ls : List V), v = .ref a ∧ H a = some (.tup [x0, .ref b, x2]) ∧ x0 = .int P.most ∧ H b = some (.tup ls) ∧ TpAll H (P.loops.map dLoop) ls ∧ Tp H (.tuple (P.zones.map dZone)) x2 := by
  obtain ⟨a, xs, rfl, ha, r⟩ := h
  obtain ⟨x0, _, rfl, h0, x1, _, rfl, ⟨b, ls, rfl, hb, rl⟩, x2, _, rfl, h2, rfl⟩ := r
  exact ⟨a, b, x0, x2, ls, rfl, ha, h0, hb, rl, h2⟩
theorem tall_map {H : Hp} {α : Type} {f : α → PyData} {l : List α} {xs : List V} {i : Nat} {v : V} (r : TpAll H (l.map f) xs) (e : xs[i]? = some v) : ∃ x, l[i]? = some x ∧ Tp H (f x) v := by
  obtain ⟨d, e1, e2⟩ := r.back e
  rw [List.getElem?_map] at e1
  obtain ⟨y, ey, rfl⟩ := Option.map_eq_some_iff.mp e1
  exact ⟨y, ey, e2⟩
theorem tall_len {H : Hp} {α : Type} {f : α → PyData} {l : List α} {xs : List V} (r : TpAll H (l.map f) xs) : xs.length = l.length := by rw [r.length, List.length_map]
section
variable {P : Program} {w : World} {K : PySem.W.Frag} {mg : Str → Option Value} {base : Heap} {aK aT : Addr}
abbrev s_devices : Stmt := top 30
abbrev n_devices : List Str := ["plan", "found", "loop", "places", "at", "kind", "address", "spur", "way", "other", "number"]
theorem sc_devices : FnScope n_devices ["plan"] (defScope s_devices) := ⟨rfl, rfl, rfl, by decide +kernel, rfl, by decide +kernel, by decide +kernel⟩
/-! ### devices -/
def sp_devices : Sp := fun vs H Q _ => ∃ (v : V) (Pn : Plan), vs = [v] ∧ Tp H (dPlan Pn) v ∧ Bnd Pn.loops ∧ ∀ H' p, Gr H H' p ((devsOf Pn.loops).map dDevAt) → Q (.ref p) H'
theorem ok_devices {f : Addr} {fd : FuncData} (F : Fun K "devices" "devices" s_devices f fd) (B : Blt mg) (G : Con K mg aK aT) : FnOk P w K mg base CX0 1 f fd ["plan"] sp_devices := by
  refine F.ok sc_devices (fun vs H Q E h => ?_) (fun cdv A outer s H vs Q E hr h => ?_)
  · obtain ⟨_, _, rfl, _⟩ := h
    rfl
  · obtain ⟨v, Pn, rfl, hv, bd, q⟩ := h
    obtain ⟨a, b, x0, x2, ls, rfl, ha, -, hb, rl, -⟩ := plan_loops hv
    have nd := sc_devices.nd
    refine ⟨_, (pss_cons (ps_set (i := 1) nd rfl (Or.inl rfl) (pe_lst pa_nil))
      (pss_cons (ps_for PassesOwn.never rfl (pi_enumT (by rfl) B._enumerate (pa_cons (pe_ix (r := rIxT K) ix_tup (pv 0) pe_int (fun _ _ => rfl)) pa_nil)) (pg_tup rfl (pgs_cons (pg_name (i := 2) nd rfl (Or.inl rfl)) (pgs_cons (pg_name (i := 3) nd rfl (Or.inl rfl)) pgs_nil)))
        (pss_one (ps_for PassesOwn.never rfl (pi_enumT (by rfl) B._enumerate (pa_cons (pv 3) pa_nil)) (pg_tup rfl (pgs_cons (pg_name (i := 4) nd rfl (Or.inl rfl)) (pgs_cons (pg_tup rfl (pgs_cons (pg_name (i := 5) nd rfl (Or.inl rfl)) (pgs_cons (pg_name (i := 6) nd rfl (Or.inl rfl)) (pgs_cons (pg_name (i := 7) nd rfl (Or.inl rfl)) pgs_nil)))) pgs_nil)))
          (pss_cons (ps_if (pt_cmpR op_ne (pv 5) (pe_gstr (by rfl) G._OPENER) (nomark _))
            (pss_one (ps_expr (pe_bm PySem.F.plainAttrs_list PySem.F.slot_list_append PySem.F.type_list_append mt_append (pv 1) (pa_cons (pe_tup (pa_cons (pe_tup (pa_cons (pv 2) (pa_cons (pe_op op_add (pv 4) pe_int) (pa_cons pe_int pa_nil)))) (pa_cons (pv 5) (pa_cons (pv 6) pa_nil)))) pa_nil))))
            pss_nil)
          (pss_one (ps_for PassesOwn.never rfl (pi_enumT (by rfl) B._enumerate (pa_cons (pv 7) pa_nil)) (pg_tup rfl (pgs_cons (pg_name (i := 8) nd rfl (Or.inl rfl)) (pgs_cons (pg_tup rfl (pgs_cons (pg_name (i := 9) nd rfl (Or.inl rfl)) (pgs_cons (pg_name (i := 10) nd rfl (Or.inl rfl)) pgs_nil))) pgs_nil)))
            (pss_one (ps_expr (pe_bm PySem.F.plainAttrs_list PySem.F.slot_list_append PySem.F.type_list_append mt_append (pv 1) (pa_cons (pe_tup (pa_cons (pe_tup (pa_cons (pv 2) (pa_cons (pe_op op_add (pv 4) pe_int) (pa_cons (pe_op op_add (pv 8) pe_int) pa_nil)))) (pa_cons (pv 9) (pa_cons (pv 10) pa_nil)))) pa_nil))))))))))
      (pss_one (ps_ret (pv 1))))), ?_⟩
    refine ⟨Nat.zero_le _, fun p np => ?_⟩
    have hb1 := same_new (o := .lst []) np _ _ hb
    refine ⟨_, rfl, a, _, 1, _, rfl, rfl, SqT.of (same_new np _ _ ha), rfl, b, ls, rfl, SqT.of hb1, ?_⟩
    have hl3 : ls.length = Pn.loops.length := tall_len rl
    refine for_it walk_enumT (fun i σ H1 => ∃ y2 y3 y4 y5 y6 y7 y8 y9 y10, σ = [some (.ref a), some (.ref p), y2, y3, y4, y5, y6, y7, y8, y9, y10] ∧ Gr H H1 p ((devsOf (Pn.loops.take i)).map dDevAt))
      ⟨_, _, _, _, _, _, _, _, _, rfl, Gr.new np⟩ (fun i σ H1 _ ⟨_, _, _, _, _, _, _, _, _, _, g⟩ => SqT.of (g.same _ _ hb)) ?_ ?_
    · rintro i x σ H1 H2 hi ⟨y2, y3, y4, y5, y6, y7, y8, y9, y10, rfl, g⟩ ⟨T, x1, x3, rfl, nT, rfl, e1, e3⟩
      cases e1
      obtain ⟨L, eL, tL⟩ := tall_map rl e3
      have mL := List.mem_of_getElem? eL
      have sT : Same H1 (upd H1 T (.tup [.int (i : Nat), x3])) := same_new nT
      obtain ⟨c, ps, rfl, hc, rp⟩ := tL
      refine ⟨T, _, rfl, SqT.of upd_same, rfl, _, _, rfl, _, _, rfl, rfl, ?_⟩
      have g1 := g.keep sT
      generalize upd H1 T (.tup [.int (i : Nat), .ref c]) = H3 at g1 ⊢
      have lp : ps.length = L.length := tall_len rp
      have D1len : (devsOf (Pn.loops.take i)).length ≤ 144 := Nat.le_trans (fmI_take_len _ _ _) (devsOf_len bd)
      have L12 := bd.lens L mL
      -- the places of the loop
      refine ⟨_, rfl, c, ps, rfl, SqT.of (g1.same _ _ hc), ?_⟩
      refine for_it (walk_enumT (xs := ps)) (fun j σ H4 => ∃ y4 y5 y6 y7 y8 y9 y10, σ = [some (.ref a), some (.ref p), some (.int (i : Nat)), some (.ref c), y4, y5, y6, y7, y8, y9, y10] ∧ Gr H H4 p ((devsOf (Pn.loops.take i) ++ devsLoop (i : Nat) (L.take j)).map dDevAt))
        ⟨_, _, _, _, _, _, _, rfl, by rw [List.take_zero]; show Gr H H3 p ((devsOf (Pn.loops.take i) ++ []).map dDevAt); rw [List.append_nil]; exact g1⟩ (fun j σ H4 _ ⟨_, _, _, _, _, _, _, _, g⟩ => SqT.of (g.same _ _ hc)) ?_ ?_
      · rintro j x σ H4 H5 hj ⟨y4, y5, y6, y7, y8, y9, y10, rfl, g4⟩ ⟨T2, x1, x3, rfl, nT2, rfl, e1, e3⟩
        cases e1
        obtain ⟨x, ex, tx⟩ := tall_map rp e3
        have mx := List.mem_of_getElem? ex
        obtain ⟨d, _, rfl, hd, _, _, rfl, rfl, _, _, rfl, rfl, _, _, rfl, ⟨e, ss, rfl, he, rs⟩, rfl⟩ := tx
        have sT2 : Same H4 (upd H4 T2 (.tup [.int (j : Nat), .ref d])) := same_new nT2
        have g5 := g4.keep sT2
        refine ⟨T2, _, rfl, SqT.of upd_same, rfl, _, _, rfl, _, _, rfl, d, _, rfl, SqT.of (sT2 _ _ (g4.same _ _ hd)), rfl, _, _, rfl, _, _, rfl, _, _, rfl, rfl, rfl, ?_⟩
        generalize upd H4 T2 (.tup [.int (j : Nat), .ref d]) = H6 at g5 ⊢
        have D2len : (devsLoop (i : Nat) (L.take j)).length ≤ 48 := Nat.le_trans (fmI_take_len _ _ _) (devsLoop_len L12 (bd.spur L mL))
        have S3 := bd.spur L mL x mx
        -- if kind != OPENER
        refine ⟨_, rfl, rfl, _, rfl, ?_⟩
        have two : ∃ pre : List DevAt, pre = (if x.kind = opener then [] else [((((i : Nat) : Int), (j : Int) + 1, (0 : Int)), x.kind, x.addr)]) ∧ pre.length ≤ 1 := ⟨_, rfl, by split <;> simp⟩
        obtain ⟨pre, epre, lpre⟩ := two
        by_cases hk : x.kind = opener
        · rw [if_pos hk] at epre
          rw [show (!decide (V.str x.kind = V.str "opener")) = false from by rw [decide_eq_true (show V.str x.kind = V.str "opener" from congrArg V.str hk)]; rfl]
          refine iteF ?_
          have g7 : Gr H H6 p ((devsOf (Pn.loops.take i) ++ devsLoop (i : Nat) (L.take j) ++ pre).map dDevAt) := by
            rw [epre, List.append_nil]; exact g5
          generalize H6 = H7 at g7 ⊢
          refine ⟨_, rfl, e, ss, rfl, SqT.of (g7.same _ _ he), ?_⟩
          have ls7 : ss.length = x.spur.length := tall_len rs
          refine for_it (walk_enumT (xs := ss)) (fun k σ H8 => ∃ y8 y9 y10, σ = [some (.ref a), some (.ref p), some (.int (i : Nat)), some (.ref c), some (.int (j : Nat)), some (.str x.kind), some (.int x.addr), some (.ref e), y8, y9, y10] ∧ Gr H H8 p ((devsOf (Pn.loops.take i) ++ devsLoop (i : Nat) (L.take j) ++ pre ++ fmI (fun w d => [((((i : Nat) : Int), (j : Int) + 1, (w : Int) + 1), d.kind, d.addr)]) 0 (x.spur.take k)).map dDevAt))
            ⟨_, _, _, rfl, by rw [List.take_zero]; show Gr H H7 p ((devsOf (Pn.loops.take i) ++ devsLoop (i : Nat) (L.take j) ++ pre ++ []).map dDevAt); rw [List.append_nil]; exact g7⟩ (fun k σ H8 _ ⟨_, _, _, _, g⟩ => SqT.of (g.same _ _ he)) ?_ ?_
          · rintro k y σ H8 H9 hk8 ⟨y8, y9, y10, rfl, g8⟩ ⟨T3, x1, x3, rfl, nT3, rfl, e1, e3⟩
            cases e1
            obtain ⟨dv, ed, td⟩ := tall_map rs e3
            obtain ⟨dd, _, rfl, hdd, _, _, rfl, rfl, _, _, rfl, rfl, rfl⟩ := td
            have sT3 : Same H8 (upd H8 T3 (.tup [.int (k : Nat), .ref dd])) := same_new nT3
            have g9 := g8.keep sT3
            refine ⟨T3, _, rfl, SqT.of upd_same, rfl, _, _, rfl, _, _, rfl, dd, _, rfl, SqT.of (sT3 _ _ (g8.same _ _ hdd)), rfl, _, _, rfl, _, _, rfl, rfl, rfl, ?_⟩
            generalize upd H8 T3 (.tup [.int (k : Nat), .ref dd]) = H10 at g9 ⊢
            obtain ⟨xs9, hp9, rx9⟩ := g9.ls
            refine ⟨_, rfl, .inl ⟨rfl, _, SqL.of hp9⟩, _, rfl, _, rfl, _, _, rfl, rfl, _, rfl, _, _, rfl, rfl, le_line (by show 3 ≤ 1000; decide), fun t1 nt1 => ?_⟩
            have s1 : Same H10 (upd H10 t1 (.tup [.int (i : Nat), .int ((j : Nat) + 1), .int ((k : Nat) + 1)])) := same_new nt1
            refine ⟨_, rfl, _, rfl, le_line (by show 3 ≤ 1000; decide), fun t2 nt2 => ?_⟩
            have s2 := same_new (o := .tup [.ref t1, .str dv.kind, .int dv.addr]) nt2
            have hp2 := s2 _ _ (s1 _ _ hp9)
            have Slen : (fmI (fun (w : Nat) (d : Dev) => [((((i : Nat) : Int), (j : Int) + 1, (w : Int) + 1), d.kind, d.addr)]) 0 (x.spur.take k)).length ≤ 3 := by
              have z := fmI_len (fun (w : Nat) (d : Dev) => [((((i : Nat) : Int), (j : Int) + 1, (w : Int) + 1), d.kind, d.addr)]) 1 0 (x.spur.take k) fun _ _ _ => Nat.le_refl _
              have z2 := List.length_take_le k x.spur
              omega
            refine ⟨p, _, _, rfl, rfl, hp2, small_len rx9 (by rw [List.length_map, List.length_append, List.length_append, List.length_append]; omega), ?_⟩
            refine ⟨_, _, _, rfl, ?_⟩
            rw [fmI_take (fun (w : Nat) (d : Dev) => [((((i : Nat) : Int), (j : Int) + 1, (w : Int) + 1), d.kind, d.addr)]) ed, ← List.append_assoc, List.map_append]
            refine Gr.app ((g9.same.trans s1).trans s2) g9.fresh hp2 (rx9.mono (ts_of (s1.trans s2))) (d := dDevAt ((((i : Nat) : Int), (j : Int) + 1, (k : Int) + 1), dv.kind, dv.addr)) ?_
            exact tp_tup upd_same (ta_cons (tp_tup (s2 _ _ upd_same) (ta_cons tp_int (ta_cons tp_int (ta_cons tp_int ta_nil)))) (ta_cons tp_str (ta_cons tp_int ta_nil)))
          · rintro σ H8 ⟨_, _, _, rfl, g8⟩
            rw [ls7, List.take_length, epre] at g8
            refine ⟨_, _, _, _, _, _, _, rfl, ?_⟩
            have e4 := fmI_take (fun (j : Nat) (x : Pl) => devsPl (i : Nat) ((j : Int) + 1) x) ex
            unfold devsLoop at g8 ⊢
            rw [e4]
            unfold devsPl at g8 ⊢
            rw [if_pos hk]
            simp only [List.append_assoc] at g8 ⊢
            exact g8
        · rw [if_neg hk] at epre
          rw [show (!decide (V.str x.kind = V.str "opener")) = true from by rw [decide_eq_false (show ¬ V.str x.kind = V.str "opener" from fun z => hk (V.str.inj z))]; rfl]
          refine iteT ?_
          obtain ⟨xs, hp, rx⟩ := g5.ls
          refine ⟨_, rfl, .inl ⟨rfl, _, SqL.of hp⟩, _, rfl, _, rfl, _, _, rfl, rfl, le_line (by show 3 ≤ 1000; decide), fun t1 nt1 => ?_⟩
          have s1 : Same H6 (upd H6 t1 (.tup [.int (i : Nat), .int ((j : Nat) + 1), .int 0])) := same_new nt1
          refine ⟨_, rfl, _, rfl, le_line (by show 3 ≤ 1000; decide), fun t2 nt2 => ?_⟩
          have s2 := same_new (o := .tup [.ref t1, .str x.kind, .int x.addr]) nt2
          have hp2 := s2 _ _ (s1 _ _ hp)
          refine ⟨p, _, _, rfl, rfl, hp2, small_len rx (by rw [List.length_map, List.length_append]; omega), ?_⟩
          have g7 : Gr H (upd (upd (upd H6 t1 (.tup [.int (i : Nat), .int ((j : Nat) + 1), .int 0])) t2 (.tup [.ref t1, .str x.kind, .int x.addr])) p (.lst (xs ++ [.ref t2]))) p ((devsOf (Pn.loops.take i) ++ devsLoop (i : Nat) (L.take j) ++ pre).map dDevAt) := by
            rw [epre, List.map_append]
            refine Gr.app ((g5.same.trans s1).trans s2) g5.fresh hp2 (rx.mono (ts_of (s1.trans s2))) (d := dDevAt ((((i : Nat) : Int), (j : Int) + 1, (0 : Int)), x.kind, x.addr)) ?_
            exact tp_tup upd_same (ta_cons (tp_tup (s2 _ _ upd_same) (ta_cons tp_int (ta_cons tp_int (ta_cons tp_int ta_nil)))) (ta_cons tp_str (ta_cons tp_int ta_nil)))
          generalize upd (upd (upd H6 t1 (.tup [.int (i : Nat), .int ((j : Nat) + 1), .int 0])) t2 (.tup [.ref t1, .str x.kind, .int x.addr])) p (.lst (xs ++ [.ref t2])) = H7 at g7 ⊢
          refine ⟨_, rfl, e, ss, rfl, SqT.of (g7.same _ _ he), ?_⟩
          have ls7 : ss.length = x.spur.length := tall_len rs
          refine for_it (walk_enumT (xs := ss)) (fun k σ H8 => ∃ y8 y9 y10, σ = [some (.ref a), some (.ref p), some (.int (i : Nat)), some (.ref c), some (.int (j : Nat)), some (.str x.kind), some (.int x.addr), some (.ref e), y8, y9, y10] ∧ Gr H H8 p ((devsOf (Pn.loops.take i) ++ devsLoop (i : Nat) (L.take j) ++ pre ++ fmI (fun w d => [((((i : Nat) : Int), (j : Int) + 1, (w : Int) + 1), d.kind, d.addr)]) 0 (x.spur.take k)).map dDevAt))
            ⟨_, _, _, rfl, by rw [List.take_zero]; show Gr H H7 p ((devsOf (Pn.loops.take i) ++ devsLoop (i : Nat) (L.take j) ++ pre ++ []).map dDevAt); rw [List.append_nil]; exact g7⟩ (fun k σ H8 _ ⟨_, _, _, _, g⟩ => SqT.of (g.same _ _ he)) ?_ ?_
          · rintro k y σ H8 H9 hk8 ⟨y8, y9, y10, rfl, g8⟩ ⟨T3, x1, x3, rfl, nT3, rfl, e1, e3⟩
            cases e1
            obtain ⟨dv, ed, td⟩ := tall_map rs e3
            obtain ⟨dd, _, rfl, hdd, _, _, rfl, rfl, _, _, rfl, rfl, rfl⟩ := td
            have sT3 : Same H8 (upd H8 T3 (.tup [.int (k : Nat), .ref dd])) := same_new nT3
            have g9 := g8.keep sT3
            refine ⟨T3, _, rfl, SqT.of upd_same, rfl, _, _, rfl, _, _, rfl, dd, _, rfl, SqT.of (sT3 _ _ (g8.same _ _ hdd)), rfl, _, _, rfl, _, _, rfl, rfl, rfl, ?_⟩
            generalize upd H8 T3 (.tup [.int (k : Nat), .ref dd]) = H10 at g9 ⊢
            obtain ⟨xs9, hp9, rx9⟩ := g9.ls
            refine ⟨_, rfl, .inl ⟨rfl, _, SqL.of hp9⟩, _, rfl, _, rfl, _, _, rfl, rfl, _, rfl, _, _, rfl, rfl, le_line (by show 3 ≤ 1000; decide), fun t1 nt1 => ?_⟩
            have s1 : Same H10 (upd H10 t1 (.tup [.int (i : Nat), .int ((j : Nat) + 1), .int ((k : Nat) + 1)])) := same_new nt1
            refine ⟨_, rfl, _, rfl, le_line (by show 3 ≤ 1000; decide), fun t2 nt2 => ?_⟩
            have s2 := same_new (o := .tup [.ref t1, .str dv.kind, .int dv.addr]) nt2
            have hp2 := s2 _ _ (s1 _ _ hp9)
            have Slen : (fmI (fun (w : Nat) (d : Dev) => [((((i : Nat) : Int), (j : Int) + 1, (w : Int) + 1), d.kind, d.addr)]) 0 (x.spur.take k)).length ≤ 3 := by
              have z := fmI_len (fun (w : Nat) (d : Dev) => [((((i : Nat) : Int), (j : Int) + 1, (w : Int) + 1), d.kind, d.addr)]) 1 0 (x.spur.take k) fun _ _ _ => Nat.le_refl _
              have z2 := List.length_take_le k x.spur
              omega
            refine ⟨p, _, _, rfl, rfl, hp2, small_len rx9 (by rw [List.length_map, List.length_append, List.length_append, List.length_append]; omega), ?_⟩
            refine ⟨_, _, _, rfl, ?_⟩
            rw [fmI_take (fun (w : Nat) (d : Dev) => [((((i : Nat) : Int), (j : Int) + 1, (w : Int) + 1), d.kind, d.addr)]) ed, ← List.append_assoc, List.map_append]
            refine Gr.app ((g9.same.trans s1).trans s2) g9.fresh hp2 (rx9.mono (ts_of (s1.trans s2))) (d := dDevAt ((((i : Nat) : Int), (j : Int) + 1, (k : Int) + 1), dv.kind, dv.addr)) ?_
            exact tp_tup upd_same (ta_cons (tp_tup (s2 _ _ upd_same) (ta_cons tp_int (ta_cons tp_int (ta_cons tp_int ta_nil)))) (ta_cons tp_str (ta_cons tp_int ta_nil)))
          · rintro σ H8 ⟨_, _, _, rfl, g8⟩
            rw [ls7, List.take_length, epre] at g8
            refine ⟨_, _, _, _, _, _, _, rfl, ?_⟩
            have e4 := fmI_take (fun (j : Nat) (x : Pl) => devsPl (i : Nat) ((j : Int) + 1) x) ex
            unfold devsLoop at g8 ⊢
            rw [e4]
            unfold devsPl at g8 ⊢
            rw [if_neg hk]
            simp only [List.append_assoc] at g8 ⊢
            exact g8
      · rintro σ H4 ⟨_, _, _, _, _, _, _, rfl, g4⟩
        rw [lp, List.take_length] at g4
        refine ⟨_, _, _, _, _, _, _, _, _, rfl, ?_⟩
        have e := fmI_take (fun (i : Nat) (L : List Pl) => devsLoop (i : Int) L) eL
        unfold devsOf at g4 ⊢
        rw [e]
        exact g4
    · rintro σ H1 ⟨_, _, _, _, _, _, _, _, _, rfl, g⟩
      rw [hl3, List.take_length] at g
      exact ⟨_, rfl, q _ p g⟩
end
end K12
/-! K5: stretches, openers, parts. -/
namespace K12
open PySem PySem.Spec PyProof.Rows L2
def strPl (l p : Int) (x : Pl) : List Spot := (List.range (x.spur.length + 1)).map fun (w : Nat) => (l, p, (w : Int))
def strLoop (l : Int) (L : List Pl) : List Spot := (l, 0, 0) :: fmI (fun j x => strPl l ((j : Int) + 1) x) 0 L
def strOf (Ls : List (List Pl)) : List Spot := fmI (fun i L => strLoop (i : Int) L) 0 Ls
def opsIn (l : Int) (L : List Pl) : List (Int × Int) := fmI (fun j x => if x.kind = opener then [(l, (j : Int) + 1)] else []) 0 L
def opsLoop (l : Int) (L : List Pl) : List (Int × Int) := (l, 0) :: (opsIn l L ++ [(l, (L.length : Int) + 1)])
def opsOf (Ls : List (List Pl)) : List (Int × Int) := fmI (fun i L => opsLoop (i : Int) L) 0 Ls
theorem strPl_len {l p : Int} {x : Pl} (h : x.spur.length ≤ 3) : (strPl l p x).length ≤ 4 := by
  unfold strPl
  rw [List.length_map, List.length_range]
  omega
theorem strLoop_len {l : Int} {L : List Pl} (h : L.length ≤ 12) (hs : ∀ x ∈ L, x.spur.length ≤ 3) : (fmI (fun j x => strPl l ((j : Int) + 1) x) 0 L).length ≤ 48 := by
  have h1 := fmI_len (fun (j : Nat) (x : Pl) => strPl l ((j : Int) + 1) x) 4 0 L fun i z e => strPl_len (hs z (List.mem_of_getElem? e))
  omega
theorem strOf_len {Ls : List (List Pl)} (h : Bnd Ls) : (strOf Ls).length ≤ 147 := by
  have h1 := fmI_len (fun (i : Nat) (L : List Pl) => strLoop (i : Int) L) 49 0 Ls fun i z e => by
    unfold strLoop
    rw [List.length_cons]
    have := strLoop_len (l := ((0 + i : Nat) : Int)) (h.lens z (List.mem_of_getElem? e)) (h.spur z (List.mem_of_getElem? e))
    omega
  have h2 := h.loops
  unfold strOf
  omega
theorem opsIn_len {l : Int} {L : List Pl} : (opsIn l L).length ≤ L.length := by
  have h1 := fmI_len (fun (j : Nat) (x : Pl) => if x.kind = opener then [((l, (j : Int) + 1) : Int × Int)] else []) 1 0 L fun i z e => by split <;> simp
  unfold opsIn
  omega
theorem opsOf_len {Ls : List (List Pl)} (h : Bnd Ls) : (opsOf Ls).length ≤ 42 := by
  have h1 := fmI_len (fun (i : Nat) (L : List Pl) => opsLoop (i : Int) L) 14 0 Ls fun i z e => by
    unfold opsLoop
    rw [List.length_cons, List.length_append]
    have := opsIn_len (l := ((0 + i : Nat) : Int)) (L := z)
    have := h.lens z (List.mem_of_getElem? e)
    simp only [List.length_cons, List.length_nil]
    omega
  have h2 := h.loops
  unfold opsOf
  omega
theorem tall_range {H : Hp} {f : Nat → PyData} : ∀ {n : Nat}, True → True := fun _ => trivial
section
variable {P : Program} {w : World} {K : PySem.W.Frag} {mg : Str → Option Value} {base : Heap} {aK aT : Addr}
abbrev s_stretches : Stmt := top 31
abbrev n_stretches : List Str := ["plan", "found", "loop", "places", "at", "place", "way"]
theorem sc_stretches : FnScope n_stretches ["plan"] (defScope s_stretches) := ⟨rfl, rfl, rfl, by decide +kernel, rfl, by decide +kernel, by decide +kernel⟩
abbrev s_openers : Stmt := top 32
abbrev n_openers : List Str := ["plan", "found", "loop", "places", "at", "place"]
theorem sc_openers : FnScope n_openers ["plan"] (defScope s_openers) := ⟨rfl, rfl, rfl, by decide +kernel, rfl, by decide +kernel, by decide +kernel⟩
/-! ### stretches -/
def sp_stretches : Sp := fun vs H Q _ => ∃ (v : V) (Pn : Plan), vs = [v] ∧ Tp H (dPlan Pn) v ∧ Bnd Pn.loops ∧ ∀ H' p, Gr H H' p ((strOf Pn.loops).map dSpot) → Q (.ref p) H'
theorem ok_stretches {f : Addr} {fd : FuncData} (F : Fun K "stretches" "stretches" s_stretches f fd) (B : Blt mg) (G : Con K mg aK aT) : FnOk P w K mg base CX0 1 f fd ["plan"] sp_stretches := by
  refine F.ok sc_stretches (fun vs H Q E h => ?_) (fun cdv A outer s H vs Q E hr h => ?_)
  · obtain ⟨_, _, rfl, _⟩ := h
    rfl
  · obtain ⟨v, Pn, rfl, hv, bd, q⟩ := h
    obtain ⟨a, b, x0, x2, ls, rfl, ha, -, hb, rl, -⟩ := plan_loops hv
    have nd := sc_stretches.nd
    refine ⟨_, (pss_cons (ps_set (i := 1) nd rfl (Or.inl rfl) (pe_lst pa_nil))
      (pss_cons (ps_for PassesOwn.never rfl (pi_enumT (by rfl) B._enumerate (pa_cons (pe_ix (r := rIxT K) ix_tup (pv 0) pe_int (fun _ _ => rfl)) pa_nil)) (pg_tup rfl (pgs_cons (pg_name (i := 2) nd rfl (Or.inr rfl)) (pgs_cons (pg_name (i := 3) nd rfl (Or.inl rfl)) pgs_nil)))
        (pss_cons (ps_expr (pe_bm PySem.F.plainAttrs_list PySem.F.slot_list_append PySem.F.type_list_append mt_append (pv 1) (pa_cons (pe_tup (pa_cons (pv 2) (pa_cons pe_int (pa_cons pe_int pa_nil)))) pa_nil)))
        (pss_one (ps_for PassesOwn.never rfl (pi_enumT (by rfl) B._enumerate (pa_cons (pv 3) pa_nil)) (pg_tup rfl (pgs_cons (pg_name (i := 4) nd rfl (Or.inr rfl)) (pgs_cons (pg_name (i := 5) nd rfl (Or.inl rfl)) pgs_nil)))
          (pss_one (ps_expr (pe_bm PySem.F.plainAttrs_list PySem.F.slot_list_extend PySem.F.type_list_extend mt_extend (pv 1) (pa_cons (pe_lc (own := [("way", 6)]) rfl nd (pi_range1 (by rfl) B._range (pa_cons (pe_op op_add (pe_callB call_len_seq (by rfl) B._len boot_len (pa_cons (pe_ix (r := rIxT K) ix_tup (pv 5) pe_int (fun _ _ => rfl)) pa_nil)) pe_int) pa_nil)) (blkOk_by (own := [("way", 6)]) (N := n_stretches) (sc := defScope s_stretches) (by decide +kernel)) (fun _ _ _ _ _ => (pg_name (i := 6) nd rfl (Or.inl rfl))) (fun _ _ _ _ _ => pts_nil) (fun _ _ _ _ _ => (pe_tup (pa_cons (pv 2) (pa_cons (pe_op op_add (pv 4) pe_int) (pa_cons (pv 6) pa_nil)))))) pa_nil))))))))
      (pss_one (ps_ret (pv 1))))), ?_⟩
    refine ⟨Nat.zero_le _, fun p np => ?_⟩
    have hb1 := same_new (o := .lst []) np _ _ hb
    refine ⟨_, rfl, a, _, 1, _, rfl, rfl, SqT.of (same_new np _ _ ha), rfl, b, ls, rfl, SqT.of hb1, ?_⟩
    have hl3 : ls.length = Pn.loops.length := tall_len rl
    refine for_it (walk_enumT (xs := ls)) (fun i σ H1 => ∃ y2 y3 y4 y5 y6, σ = [some (.ref a), some (.ref p), y2, y3, y4, y5, y6] ∧ Gr H H1 p ((strOf (Pn.loops.take i)).map dSpot))
      ⟨_, _, _, _, _, rfl, Gr.new np⟩ (fun i σ H1 _ ⟨_, _, _, _, _, _, g⟩ => SqT.of (g.same _ _ hb)) ?_ ?_
    · rintro i x σ H1 H2 hi ⟨y2, y3, y4, y5, y6, rfl, g⟩ ⟨T, x1, x3, rfl, nT, rfl, e1, e3⟩
      cases e1
      obtain ⟨L, eL, tL⟩ := tall_map rl e3
      have mL := List.mem_of_getElem? eL
      have sT : Same H1 (upd H1 T (.tup [.int (i : Nat), x3])) := same_new nT
      obtain ⟨c, ps, rfl, hc, rp⟩ := tL
      refine ⟨T, _, rfl, SqT.of upd_same, rfl, _, _, rfl, _, _, rfl, rfl, ?_⟩
      have g1 := g.keep sT
      generalize upd H1 T (.tup [.int (i : Nat), .ref c]) = H3 at g1 ⊢
      have lp : ps.length = L.length := tall_len rp
      have D1len : (strOf (Pn.loops.take i)).length ≤ 147 := Nat.le_trans (fmI_take_len _ _ _) (strOf_len bd)
      have L12 := bd.lens L mL
      -- found.append((loop, 0, 0))
      obtain ⟨xs, hp, rx⟩ := g1.ls
      refine ⟨_, rfl, .inl ⟨rfl, _, SqL.of hp⟩, _, rfl, le_line (by show 3 ≤ 1000; decide), fun t1 nt1 => ?_⟩
      have s1 : Same H3 (upd H3 t1 (.tup [.int (i : Nat), .int 0, .int 0])) := same_new nt1
      refine ⟨p, _, _, rfl, rfl, s1 _ _ hp, small_len rx (by rw [List.length_map]; omega), ?_⟩
      have g3 : Gr H (upd (upd H3 t1 (.tup [.int (i : Nat), .int 0, .int 0])) p (.lst (xs ++ [.ref t1]))) p ((strOf (Pn.loops.take i) ++ [(((i : Nat) : Int), (0 : Int), (0 : Int))]).map dSpot) := by
        rw [List.map_append]
        exact Gr.app (g1.same.trans s1) g1.fresh (s1 _ _ hp) (rx.mono (ts_of s1)) (d := dSpot (((i : Nat) : Int), (0 : Int), (0 : Int))) (tp_tup upd_same (ta_cons tp_int (ta_cons tp_int (ta_cons tp_int ta_nil))))
      generalize upd (upd H3 t1 (.tup [.int (i : Nat), .int 0, .int 0])) p (.lst (xs ++ [.ref t1])) = H4 at g3 ⊢
      -- the places
      refine ⟨_, rfl, c, ps, rfl, SqT.of (g3.same _ _ hc), ?_⟩
      refine for_it (walk_enumT (xs := ps)) (fun j σ H5 => ∃ y4 y5 y6, σ = [some (.ref a), some (.ref p), some (.int (i : Nat)), some (.ref c), y4, y5, y6] ∧ Gr H H5 p ((strOf (Pn.loops.take i) ++ [(((i : Nat) : Int), (0 : Int), (0 : Int))] ++ fmI (fun (j : Nat) x => strPl (i : Nat) ((j : Int) + 1) x) 0 (L.take j)).map dSpot))
        ⟨_, _, _, rfl, by rw [List.take_zero]; show Gr H H4 p ((strOf (Pn.loops.take i) ++ [_] ++ []).map dSpot); rw [List.append_nil]; exact g3⟩ (fun j σ H5 _ ⟨_, _, _, _, g⟩ => SqT.of (g.same _ _ hc)) ?_ ?_
      · rintro j x σ H5 H6 hj ⟨y4, y5, y6, rfl, g5⟩ ⟨T2, x1, x3, rfl, nT2, rfl, e1, e3⟩
        cases e1
        obtain ⟨x, ex, tx⟩ := tall_map rp e3
        have mx := List.mem_of_getElem? ex
        obtain ⟨d, _, rfl, hd, _, _, rfl, rfl, _, _, rfl, rfl, _, _, rfl, ⟨e, ss, rfl, he, rs⟩, rfl⟩ := tx
        have sT2 : Same H5 (upd H5 T2 (.tup [.int (j : Nat), .ref d])) := same_new nT2
        have g6 := g5.keep sT2
        refine ⟨T2, _, rfl, SqT.of upd_same, rfl, _, _, rfl, _, _, rfl, rfl, ?_⟩
        generalize upd H5 T2 (.tup [.int (j : Nat), .ref d]) = H7 at g6 ⊢
        have S3 := bd.spur L mL x mx
        have lss : ss.length = x.spur.length := tall_len rs
        have D2len : (fmI (fun (j : Nat) x => strPl (i : Nat) ((j : Int) + 1) x) 0 (L.take j)).length ≤ 48 := Nat.le_trans (fmI_take_len _ _ _) (strLoop_len L12 (bd.spur L mL))
        -- found.extend([(loop, at + 1, way) for way in range(len(place[2]) + 1)])
        obtain ⟨xs7, hp7, rx7⟩ := g6.ls
        refine ⟨_, rfl, .inl ⟨rfl, _, SqL.of hp7⟩, ?_⟩
        refine ⟨_, rfl, d, _, 2, _, rfl, rfl, SqT.of (g6.same _ _ hd), rfl, e, ss, rfl, .inr (SqT.of (g6.same _ _ he)), _, _, rfl, rfl, _, rfl, (by omega), (by omega), fun D nD => ?_⟩
        refine lc_it walk_range (fun k H8 => Gr H7 H8 D (((List.range k).map fun (w : Nat) => ((((i : Nat) : Int), (j : Int) + 1, (w : Int)) : Spot)).map dSpot)) (Gr.new nD) (fun _ _ _ _ => trivial) ?_ ?_
        · rintro k y _ H8 hk g8 ⟨rfl, rfl⟩
          have hk4 : k < 4 := by omega
          refine ⟨rfl, _, rfl, _, rfl, _, _, rfl, rfl, _, rfl, le_line (by show 3 ≤ 1000; decide), fun t1 nt1 => ?_⟩
          obtain ⟨xs8, hp8, rx8⟩ := g8.ls
          have s1 := same_new (o := .tup [.int (i : Nat), .int ((j : Nat) + 1), .int (0 + (k : Nat))]) nt1
          refine ⟨xs8, s1 _ _ hp8, small_len rx8 (by rw [List.length_map, List.length_map, List.length_range]; omega), ?_⟩
          rw [List.range_succ, List.map_append, List.map_append]
          refine Gr.app (g8.same.trans s1) g8.fresh (s1 _ _ hp8) (rx8.mono (ts_of s1)) (d := dSpot (((i : Nat) : Int), (j : Int) + 1, (k : Int))) ?_
          exact tp_tup upd_same (ta_cons tp_int (ta_cons tp_int (ta_cons (congrArg V.int (Int.zero_add _)) ta_nil)))
        · rintro H8 g8
          obtain ⟨xs8, hp8, rx8⟩ := g8.ls
          have en : (((ss.length : Nat) : Int) + 1).toNat = x.spur.length + 1 := by omega
          rw [en] at rx8
          have h7 := g8.same _ _ hp7
          have l1 : xs7.length ≤ 500 := by rw [rx7.length, List.length_map, List.length_append, List.length_append, List.length_singleton]; omega
          have l2 : xs8.length ≤ 4 := by rw [rx8.length, List.length_map, List.length_map, List.length_range]; omega
          refine ⟨p, D, xs7, xs8, rfl, rfl, h7, hp8, le_line (by omega), ?_⟩
          refine ⟨_, _, _, rfl, ?_⟩
          rw [fmI_take (fun (j : Nat) x => strPl (i : Nat) ((j : Int) + 1) x) ex, ← List.append_assoc, List.map_append]
          exact Gr.ext (g6.same.trans g8.same) g6.fresh h7 (rx7.mono (ts_of g8.same)) rx8
      · rintro σ H5 ⟨_, _, _, rfl, g5⟩
        rw [lp, List.take_length] at g5
        refine ⟨_, _, _, _, _, rfl, ?_⟩
        have e := fmI_take (fun (i : Nat) (L : List Pl) => strLoop (i : Int) L) eL
        unfold strOf at g5 ⊢
        rw [e, show strLoop (i : Nat) L = [(((i : Nat) : Int), (0 : Int), (0 : Int))] ++ fmI (fun (j : Nat) x => strPl (i : Nat) ((j : Int) + 1) x) 0 L from rfl, ← List.append_assoc]
        exact g5
    · rintro σ H1 ⟨_, _, _, _, _, rfl, g⟩
      rw [hl3, List.take_length] at g
      exact ⟨_, rfl, q _ p g⟩
/-! ### openers -/
def sp_openers : Sp := fun vs H Q _ => ∃ (v : V) (Pn : Plan), vs = [v] ∧ Tp H (dPlan Pn) v ∧ Bnd Pn.loops ∧ ∀ H' p, Gr H H' p ((opsOf Pn.loops).map dOp) → Q (.ref p) H'
theorem ok_openers {f : Addr} {fd : FuncData} (F : Fun K "openers" "openers" s_openers f fd) (B : Blt mg) (G : Con K mg aK aT) : FnOk P w K mg base CX0 1 f fd ["plan"] sp_openers := by
  refine F.ok sc_openers (fun vs H Q E h => ?_) (fun cdv A outer s H vs Q E hr h => ?_)
  · obtain ⟨_, _, rfl, _⟩ := h
    rfl
  · obtain ⟨v, Pn, rfl, hv, bd, q⟩ := h
    obtain ⟨a, b, x0, x2, ls, rfl, ha, -, hb, rl, -⟩ := plan_loops hv
    have nd := sc_openers.nd
    refine ⟨_, (pss_cons (ps_set (i := 1) nd rfl (Or.inl rfl) (pe_lst pa_nil))
      (pss_cons (ps_for PassesOwn.never rfl (pi_enumT (by rfl) B._enumerate (pa_cons (pe_ix (r := rIxT K) ix_tup (pv 0) pe_int (fun _ _ => rfl)) pa_nil)) (pg_tup rfl (pgs_cons (pg_name (i := 2) nd rfl (Or.inr rfl)) (pgs_cons (pg_name (i := 3) nd rfl (Or.inl rfl)) pgs_nil)))
        (pss_cons (ps_expr (pe_bm PySem.F.plainAttrs_list PySem.F.slot_list_append PySem.F.type_list_append mt_append (pv 1) (pa_cons (pe_tup (pa_cons (pv 2) (pa_cons pe_int pa_nil))) pa_nil)))
        (pss_cons (ps_expr (pe_bm PySem.F.plainAttrs_list PySem.F.slot_list_extend PySem.F.type_list_extend mt_extend (pv 1) (pa_cons (pe_lc (own := [("at", 4), ("place", 5)]) (g := (gTup K 2 (gCons (gName 4) (gCons (gName 5) gNil)))) rfl nd (pi_enumT (by rfl) B._enumerate (pa_cons (pv 3) pa_nil)) (blkOk_by (own := [("at", 4), ("place", 5)]) (N := n_openers) (sc := defScope s_openers) (by decide +kernel)) (fun _ _ _ _ _ => (pg_tup rfl (pgs_cons (pg_name (i := 4) nd rfl (Or.inl rfl)) (pgs_cons (pg_name (i := 5) nd rfl (Or.inl rfl)) pgs_nil)))) (fun _ _ _ _ _ => (pts_one (pt_cmpR op_eq (pe_ix (r := rIxT K) ix_tup (pv 5) pe_int (fun _ _ => rfl)) (pe_gstr (by rfl) G._OPENER) (nomark _)))) (fun _ _ _ _ _ => (pe_tup (pa_cons (pv 2) (pa_cons (pe_op op_add (pv 4) pe_int) pa_nil))))) pa_nil)))
        (pss_one (ps_expr (pe_bm PySem.F.plainAttrs_list PySem.F.slot_list_append PySem.F.type_list_append mt_append (pv 1) (pa_cons (pe_tup (pa_cons (pv 2) (pa_cons (pe_op op_add (pe_callB call_len_seq (by rfl) B._len boot_len (pa_cons (pv 3) pa_nil)) pe_int) pa_nil))) pa_nil)))))))
      (pss_one (ps_ret (pv 1))))), ?_⟩
    refine ⟨Nat.zero_le _, fun p np => ?_⟩
    have hb1 := same_new (o := .lst []) np _ _ hb
    refine ⟨_, rfl, a, _, 1, _, rfl, rfl, SqT.of (same_new np _ _ ha), rfl, b, ls, rfl, SqT.of hb1, ?_⟩
    have hl3 : ls.length = Pn.loops.length := tall_len rl
    refine for_it (walk_enumT (xs := ls)) (fun i σ H1 => ∃ y2 y3 y4 y5, σ = [some (.ref a), some (.ref p), y2, y3, y4, y5] ∧ Gr H H1 p ((opsOf (Pn.loops.take i)).map dOp))
      ⟨_, _, _, _, rfl, Gr.new np⟩ (fun i σ H1 _ ⟨_, _, _, _, _, g⟩ => SqT.of (g.same _ _ hb)) ?_ ?_
    · rintro i x σ H1 H2 hi ⟨y2, y3, y4, y5, rfl, g⟩ ⟨T, x1, x3, rfl, nT, rfl, e1, e3⟩
      cases e1
      obtain ⟨L, eL, tL⟩ := tall_map rl e3
      have mL := List.mem_of_getElem? eL
      have sT : Same H1 (upd H1 T (.tup [.int (i : Nat), x3])) := same_new nT
      obtain ⟨c, ps, rfl, hc, rp⟩ := tL
      refine ⟨T, _, rfl, SqT.of upd_same, rfl, _, _, rfl, _, _, rfl, rfl, ?_⟩
      have g1 := g.keep sT
      generalize upd H1 T (.tup [.int (i : Nat), .ref c]) = H3 at g1 ⊢
      have lp : ps.length = L.length := tall_len rp
      have D1len : (opsOf (Pn.loops.take i)).length ≤ 42 := Nat.le_trans (fmI_take_len _ _ _) (opsOf_len bd)
      have L12 := bd.lens L mL
      -- found.append((loop, 0))
      obtain ⟨xs, hp, rx⟩ := g1.ls
      refine ⟨_, rfl, .inl ⟨rfl, _, SqL.of hp⟩, _, rfl, le_line (by show 2 ≤ 1000; decide), fun t1 nt1 => ?_⟩
      have s1 : Same H3 (upd H3 t1 (.tup [.int (i : Nat), .int 0])) := same_new nt1
      refine ⟨p, _, _, rfl, rfl, s1 _ _ hp, small_len rx (by rw [List.length_map]; omega), ?_⟩
      have g3 : Gr H (upd (upd H3 t1 (.tup [.int (i : Nat), .int 0])) p (.lst (xs ++ [.ref t1]))) p ((opsOf (Pn.loops.take i) ++ [(((i : Nat) : Int), (0 : Int))]).map dOp) := by
        rw [List.map_append]
        exact Gr.app (g1.same.trans s1) g1.fresh (s1 _ _ hp) (rx.mono (ts_of s1)) (d := dOp (((i : Nat) : Int), (0 : Int))) (tp_tup upd_same (ta_cons tp_int (ta_cons tp_int ta_nil)))
      generalize upd (upd H3 t1 (.tup [.int (i : Nat), .int 0])) p (.lst (xs ++ [.ref t1])) = H4 at g3 ⊢
      -- found.extend([(loop, at + 1) for at, place in enumerate(places) if place[0] == OPENER])
      obtain ⟨xs4, hp4, rx4⟩ := g3.ls
      refine ⟨_, rfl, .inl ⟨rfl, _, SqL.of hp4⟩, ?_⟩
      refine ⟨_, rfl, c, ps, rfl, SqT.of (g3.same _ _ hc), fun D nD => ?_⟩
      refine lc_it (walk_enumT (xs := ps)) (fun j H8 => Gr H4 H8 D ((opsIn (i : Nat) (L.take j)).map dOp)) (Gr.new nD) (fun j H8 _ g8 => SqT.of (g8.same _ _ (g3.same _ _ hc))) ?_ ?_
      · rintro j y H8 H9 hj g8 ⟨T2, x1, x3, rfl, nT2, rfl, e1, e3⟩
        cases e1
        obtain ⟨x, ex, tx⟩ := tall_map rp e3
        obtain ⟨d, _, rfl, hd, _, _, rfl, rfl, _, _, rfl, rfl, _, _, rfl, te, rfl⟩ := tx
        rename_i ve _
        have sT2 : Same H8 (upd H8 T2 (.tup [.int (j : Nat), .ref d])) := same_new nT2
        have g9 := g8.keep sT2
        refine ⟨T2, _, rfl, SqT.of upd_same, rfl, _, _, rfl, _, _, rfl, rfl, rfl, ?_⟩
        generalize upd H8 T2 (.tup [.int (j : Nat), .ref d]) = H10 at g9 ⊢
        have hd10 := g9.same _ _ (g3.same _ _ hd)
        refine ⟨_, rfl, d, _, 0, _, rfl, rfl, SqT.of hd10, rfl, rfl, _, rfl, ?_⟩
        have e4 := fmI_take (fun (j : Nat) (x : Pl) => if x.kind = opener then [((((i : Nat) : Int), (j : Int) + 1) : Int × Int)] else []) ex
        have e5 : opsIn (i : Nat) (L.take (j + 1)) = opsIn (i : Nat) (L.take j) ++ (if x.kind = opener then [((((i : Nat) : Int), (j : Int) + 1) : Int × Int)] else []) := e4
        rw [e5]
        by_cases hk : x.kind = opener
        · rw [if_pos hk, decide_eq_true (show V.str x.kind = V.str "opener" from congrArg V.str hk)]
          refine iteT ?_
          refine ⟨_, rfl, _, rfl, _, _, rfl, rfl, le_line (by show 2 ≤ 1000; decide), fun t2 nt2 => ?_⟩
          obtain ⟨xs8, hp8, rx8⟩ := g9.ls
          have s2 := same_new (o := .tup [.int (i : Nat), .int ((j : Nat) + 1)]) nt2
          have lx : (opsIn (i : Nat) (L.take j)).length ≤ 12 := Nat.le_trans opsIn_len (Nat.le_trans (List.length_take_le' _ _) L12)
          refine ⟨xs8, s2 _ _ hp8, small_len rx8 (by rw [List.length_map]; omega), ?_⟩
          rw [List.map_append]
          exact Gr.app (g9.same.trans s2) g9.fresh (s2 _ _ hp8) (rx8.mono (ts_of s2)) (d := dOp (((i : Nat) : Int), (j : Int) + 1)) (tp_tup upd_same (ta_cons tp_int (ta_cons tp_int ta_nil)))
        · rw [if_neg hk, decide_eq_false (show ¬ V.str x.kind = V.str "opener" from fun z => hk (V.str.inj z)), List.append_nil]
          exact iteF g9
      · rintro H8 g8
        rw [lp, List.take_length] at g8
        obtain ⟨xs8, hp8, rx8⟩ := g8.ls
        have h4 := g8.same _ _ hp4
        have l1 : xs4.length ≤ 100 := by rw [rx4.length, List.length_map, List.length_append, List.length_singleton]; omega
        have l2 : xs8.length ≤ 12 := by rw [rx8.length, List.length_map]; exact Nat.le_trans opsIn_len L12
        refine ⟨p, D, xs4, xs8, rfl, rfl, h4, hp8, le_line (by omega), ?_⟩
        have g10 : Gr H (upd H8 p (.lst (xs4 ++ xs8))) p ((opsOf (Pn.loops.take i) ++ [(((i : Nat) : Int), (0 : Int))] ++ opsIn (i : Nat) L).map dOp) := by
          rw [List.map_append]
          exact Gr.ext (g3.same.trans g8.same) g3.fresh h4 (rx4.mono (ts_of g8.same)) rx8
        generalize upd H8 p (.lst (xs4 ++ xs8)) = H9 at g10 ⊢
        -- found.append((loop, len(places) + 1))
        obtain ⟨xs9, hp9, rx9⟩ := g10.ls
        refine ⟨_, rfl, .inl ⟨rfl, _, SqL.of hp9⟩, _, rfl, _, rfl, c, ps, rfl, .inr (SqT.of (g10.same _ _ hc)), _, _, rfl, rfl, le_line (by show 2 ≤ 1000; decide), fun t2 nt2 => ?_⟩
        have s2 := same_new (o := .tup [.int (i : Nat), .int ((ps.length : Nat) + 1)]) nt2
        have lx : (opsIn (i : Nat) L).length ≤ 12 := Nat.le_trans opsIn_len L12
        refine ⟨p, _, _, rfl, rfl, s2 _ _ hp9, small_len rx9 (by rw [List.length_map, List.length_append, List.length_append, List.length_singleton]; omega), ?_⟩
        refine ⟨_, _, _, _, rfl, ?_⟩
        have e := fmI_take (fun (i : Nat) (L : List Pl) => opsLoop (i : Int) L) eL
        unfold opsOf at g10 rx9 ⊢
        rw [e, show opsLoop (i : Nat) L = [(((i : Nat) : Int), (0 : Int))] ++ (opsIn (i : Nat) L ++ [(((i : Nat) : Int), (L.length : Int) + 1)]) from rfl, ← List.append_assoc, ← List.append_assoc, List.map_append]
        rw [lp] at s2 ⊢
        exact Gr.app (g10.same.trans s2) g10.fresh (s2 _ _ hp9) (rx9.mono (ts_of s2)) (d := dOp (((i : Nat) : Int), (L.length : Int) + 1)) (tp_tup upd_same (ta_cons tp_int (ta_cons tp_int ta_nil)))
    · rintro σ H1 ⟨_, _, _, _, rfl, g⟩
      rw [hl3, List.take_length] at g
      exact ⟨_, rfl, q _ p g⟩
end
end K12
/-! K6: parts, told_twice, crowded, zone_at_odds, wrong, is_plan, is_let_by. -/
namespace K12
open PySem PySem.Spec PyProof.Rows L2
/-- lists of these lengths -/
def Cnt (H : Hp) (bs : List Addr) (cs : List Nat) : Prop := Paired (fun b (c : Nat) => ∃ ys, H b = some (.lst ys) ∧ ys.length = c) bs cs
theorem Cnt.keep {H H' : Hp} {bs : List Addr} {cs : List Nat} (h : Cnt H bs cs) (k : ∀ b ∈ bs, ∀ o, H b = some o → H' b = some o) : Cnt H' bs cs := by
  unfold Cnt at h ⊢
  induction h with
  | nil => exact .nil
  | @cons b c bs cs hb t ih =>
    obtain ⟨ys, e, l⟩ := hb
    exact .cons ⟨ys, k b List.mem_cons_self _ e, l⟩ (ih fun b' m => k b' (List.mem_cons_of_mem _ m))
theorem Cnt.snoc {H : Hp} {b : Addr} {c : Nat} {ys : List V} (hb : H b = some (.lst ys)) (hl : ys.length = c) : ∀ {bs : List Addr} {cs : List Nat}, Cnt H bs cs → Cnt H (bs ++ [b]) (cs ++ [c])
  | _, _, .nil => .cons ⟨ys, hb, hl⟩ .nil
  | _, _, .cons h t => .cons h (Cnt.snoc hb hl t)
theorem Paired.left {α β : Type} {F : α → β → Prop} : ∀ {l₁ : List α} {l₂ : List β} {j : Nat} {x : α}, Paired F l₁ l₂ → l₁[j]? = some x → ∃ y, l₂[j]? = some y ∧ F x y
  | _, _, j, x, Paired.nil, h => by simp at h
  | _, _, 0, x, Paired.cons (b := y) f _, h => by
    simp only [List.getElem?_cons_zero, Option.some.injEq] at h
    subst h
    exact ⟨y, rfl, f⟩
  | _, _, j + 1, x, Paired.cons _ t, h => by
    simp only [List.getElem?_cons_succ] at h
    obtain ⟨y, h1, h2⟩ := Paired.left (j := j) t h
    exact ⟨y, by rw [List.getElem?_cons_succ]; exact h1, h2⟩
theorem foldl_take {α β : Type} (f : β → α → β) (z : β) {xs : List α} {i : Nat} {x : α} (h : xs[i]? = some x) : (xs.take (i + 1)).foldl f z = f ((xs.take i).foldl f z) x := by
  rw [List.take_add_one, h, List.foldl_append]
  rfl
section
variable {P : Program} {w : World} {K : PySem.W.Frag} {mg : Str → Option Value} {base : Heap} {aK aT : Addr}
abbrev s_parts : Stmt := top 33
abbrev n_parts : List Str := ["plan", "loop", "found", "at", "kind", "address", "spur", "way"]
theorem sc_parts : FnScope n_parts ["plan", "loop"] (defScope s_parts) := ⟨rfl, rfl, rfl, by decide +kernel, rfl, by decide +kernel, by decide +kernel⟩
abbrev s_told_twice : Stmt := top 34
abbrev n_told_twice : List Str := ["plan", "met", "spot", "kind", "address"]
theorem sc_told_twice : FnScope n_told_twice ["plan"] (defScope s_told_twice) := ⟨rfl, rfl, rfl, by decide +kernel, rfl, by decide +kernel, by decide +kernel⟩
abbrev s_crowded : Stmt := top 35
abbrev n_crowded : List Str := ["plan", "loop", "number", "part"]
theorem sc_crowded : FnScope n_crowded ["plan"] (defScope s_crowded) := ⟨rfl, rfl, rfl, by decide +kernel, rfl, by decide +kernel, by decide +kernel⟩
abbrev s_zone_at_odds : Stmt := top 36
abbrev n_zone_at_odds : List Str := ["plan", "known", "shared", "met", "name", "addresses", "address", "spot", "kind"]
theorem sc_zone_at_odds : FnScope n_zone_at_odds ["plan"] (defScope s_zone_at_odds) := ⟨rfl, rfl, rfl, by decide +kernel, rfl, by decide +kernel, by decide +kernel⟩
abbrev s_wrong : Stmt := top 37
abbrev n_wrong : List Str := ["plan", "found"]
theorem sc_wrong : FnScope n_wrong ["plan"] (defScope s_wrong) := ⟨rfl, rfl, rfl, by decide +kernel, rfl, by decide +kernel, by decide +kernel⟩
abbrev s_is_plan : Stmt := top 29
abbrev n_is_plan : List Str := ["thing", "loops", "one"]
theorem sc_is_plan : FnScope n_is_plan ["thing"] (defScope s_is_plan) := ⟨rfl, rfl, rfl, by decide +kernel, rfl, by decide +kernel, by decide +kernel⟩
abbrev s_is_let_by : Stmt := top 38
abbrev n_is_let_by : List Str := ["thing"]
theorem sc_is_let_by : FnScope n_is_let_by ["thing"] (defScope s_is_let_by) := ⟨rfl, rfl, rfl, by decide +kernel, rfl, by decide +kernel, by decide +kernel⟩
abbrev C_devices (P : Program) (w : World) (K : PySem.W.Frag) (mg : Str → Option Value) (base : Heap) := Cal P w K mg base 1 "devices" ["plan"] sp_devices
abbrev C_openers (P : Program) (w : World) (K : PySem.W.Frag) (mg : Str → Option Value) (base : Heap) := Cal P w K mg base 1 "openers" ["plan"] sp_openers
abbrev C_stretches (P : Program) (w : World) (K : PySem.W.Frag) (mg : Str → Option Value) (base : Heap) := Cal P w K mg base 1 "stretches" ["plan"] sp_stretches
/-! ### parts -/
def sp_parts : Sp := fun vs H Q _ => ∃ (v : V) (Pn : Plan) (i : Nat) (L : List Pl), vs = [v, .int (i : Nat)] ∧ Tp H (dPlan Pn) v ∧ Bnd Pn.loops ∧ Pn.loops[i]? = some L ∧
  ∀ H' p bs, Same H H' → H p = none → H' p = some (.lst (bs.map V.ref)) → Cnt H' bs (pc L) → Q (.ref p) H'
theorem ok_parts {f : Addr} {fd : FuncData} (F : Fun K "parts" "parts" s_parts f fd) (B : Blt mg) (G : Con K mg aK aT) : FnOk P w K mg base CX0 1 f fd ["plan", "loop"] sp_parts := by
  refine F.ok sc_parts (fun vs H Q E h => ?_) (fun cdv A outer s H vs Q E hr h => ?_)
  · obtain ⟨_, _, _, _, rfl, _⟩ := h
    rfl
  · obtain ⟨v, Pn, i, L, rfl, hv, bd, eL, q⟩ := h
    obtain ⟨a, b, x0, x2, ls, rfl, ha, -, hb, rl, -⟩ := plan_loops hv
    have mL := List.mem_of_getElem? eL
    have L12 := bd.lens L mL
    obtain ⟨vL, evL, tL⟩ := rl.get (i := i) (d := dLoop L) (by rw [List.getElem?_map, eL]; rfl)
    obtain ⟨c, ps, rfl, hc, rp⟩ := tL
    have lp : ps.length = L.length := tall_len rp
    have nd := sc_parts.nd
    refine ⟨_, (pss_cons (ps_set (i := 2) nd rfl (Or.inl rfl) (pe_lst (pa_cons (pe_lst pa_nil) pa_nil)))
      (pss_cons (ps_for PassesOwn.never rfl (pi_enumT (by rfl) B._enumerate (pa_cons (pe_ix (r := rIxT K) ix_tup (pe_ix (r := rIxT K) ix_tup (pv 0) pe_int (fun _ _ => rfl)) (pv 1) (fun _ _ => rfl)) pa_nil)) (pg_tup rfl (pgs_cons (pg_name (i := 3) nd rfl (Or.inr rfl)) (pgs_cons (pg_tup rfl (pgs_cons (pg_name (i := 4) nd rfl (Or.inl rfl)) (pgs_cons (pg_name (i := 5) nd rfl (Or.inl rfl)) (pgs_cons (pg_name (i := 6) nd rfl (Or.inl rfl)) pgs_nil)))) pgs_nil)))
        (pss_one (ps_if (pt_cmpR op_eq (pv 4) (pe_gstr (by rfl) G._OPENER) (nomark _))
          (pss_one (ps_expr (pe_bm PySem.F.plainAttrs_list PySem.F.slot_list_append PySem.F.type_list_append mt_append (pv 2) (pa_cons (pe_lst pa_nil) pa_nil))))
          (pss_one (ps_expr (pe_bm PySem.F.plainAttrs_list PySem.F.slot_list_extend PySem.F.type_list_extend mt_extend (pe_ix (r := rIxL K) ix_list (pv 2) (pe_un un_neg pe_int) (fun _ _ => rfl)) (pa_cons (pe_lc (own := [("way", 7)]) rfl nd (pi_range1 (by rfl) B._range (pa_cons (pe_op op_add (pe_callB call_len_seq (by rfl) B._len boot_len (pa_cons (pv 6) pa_nil)) pe_int) pa_nil)) (blkOk_by (own := [("way", 7)]) (N := n_parts) (sc := defScope s_parts) (by decide +kernel)) (fun _ _ _ _ _ => (pg_name (i := 7) nd rfl (Or.inl rfl))) (fun _ _ _ _ _ => pts_nil) (fun _ _ _ _ _ => (pe_tup (pa_cons (pv 1) (pa_cons (pe_op op_add (pv 3) pe_int) (pa_cons (pv 7) pa_nil)))))) pa_nil)))))))
      (pss_one (ps_ret (pv 2))))), ?_⟩
    refine ⟨Nat.zero_le _, fun b0 n0 => ⟨le_line (by show 1 ≤ 1000; decide), fun p np => ?_⟩⟩
    have s0 := same_new (o := .lst []) n0
    have s1 := same_new (o := .lst [V.ref b0]) np
    have s01 := s0.trans s1
    have np0 := s0.free np
    have nb : b0 ≠ p := ne_of_none upd_same np
    refine ⟨_, rfl, a, _, 1, _, rfl, rfl, SqT.of (s01 _ _ ha), rfl, _, rfl, b, ls, i, .ref c, rfl, rfl, SqT.of (s01 _ _ hb), atI_nat evL, c, ps, rfl, SqT.of (s01 _ _ hc), ?_⟩
    refine for_it (walk_enumT (xs := ps)) (fun j σ H1 => ∃ y3 y4 y5 y6 y7, σ = [some (.ref a), some (.int (i : Nat)), some (.ref p), y3, y4, y5, y6, y7] ∧ Same H H1 ∧
        ∃ (bi : List Addr) (bl : Addr) (ys : List V), bl ≠ p ∧ bl ∉ bi ∧ p ∉ bi ∧ H bl = none ∧ H1 p = some (.lst ((bi ++ [bl]).map V.ref)) ∧ Cnt H1 bi ((L.take j).foldl pcS ([], 0)).1 ∧ H1 bl = some (.lst ys) ∧ ys.length = ((L.take j).foldl pcS ([], 0)).2 ∧ ys.length ≤ 4 * j ∧ bi.length ≤ j)
      ⟨_, _, _, _, _, rfl, s01, [], b0, [], nb, by simp, by simp, n0, upd_same, .nil, s1 _ _ upd_same, rfl, Nat.le_refl _, Nat.le_refl _⟩ (fun j σ H1 _ ⟨_, _, _, _, _, _, s, _⟩ => SqT.of (s _ _ hc)) ?_ ?_
    · rintro j x σ H1 H2 hj ⟨y3, y4, y5, y6, y7, rfl, sH, bi, bl, ys, nlp, nbi, npi, nHl, hp, hcn, hbl, hly, lly, lbi⟩ ⟨T, x1, x3, rfl, nT, rfl, e1, e3⟩
      cases e1
      obtain ⟨x, ex, tx⟩ := tall_map rp e3
      have mx := List.mem_of_getElem? ex
      obtain ⟨d, _, rfl, hd, _, _, rfl, rfl, _, _, rfl, rfl, _, _, rfl, ⟨e, ss, rfl, he, rs⟩, rfl⟩ := tx
      have sT : Same H1 (upd H1 T (.tup [.int (j : Nat), .ref d])) := same_new nT
      refine ⟨T, _, rfl, SqT.of upd_same, rfl, _, _, rfl, _, _, rfl, d, _, rfl, SqT.of (sT _ _ (sH _ _ hd)), rfl, _, _, rfl, _, _, rfl, _, _, rfl, rfl, rfl, ?_⟩
      have sH2 := sH.trans sT
      have hp2 := sT _ _ hp
      have hbl2 := sT _ _ hbl
      have hcn2 := hcn.keep fun b' _ o e => sT b' o e
      generalize upd H1 T (.tup [.int (j : Nat), .ref d]) = H3 at sH2 hp2 hbl2 hcn2 ⊢
      have ef := foldl_take pcS ([], 0) ex
      refine ⟨_, rfl, rfl, _, rfl, ?_⟩
      by_cases hk : x.kind = opener
      · rw [decide_eq_true (show V.str x.kind = V.str "opener" from congrArg V.str hk)]
        have epc : pcS ((L.take j).foldl pcS ([], 0)) x = (((L.take j).foldl pcS ([], 0)).1 ++ [((L.take j).foldl pcS ([], 0)).2], 0) := if_pos hk
        rw [epc] at ef
        refine iteT ?_
        refine ⟨_, rfl, .inl ⟨rfl, _, SqL.of hp2⟩, Nat.zero_le _, fun n nn => ?_⟩
        have s3 := same_new (o := .lst []) nn
        have hp3 := s3 _ _ hp2
        refine ⟨p, _, _, rfl, rfl, hp3, by rw [List.length_map, List.length_append, List.length_singleton]; exact small1000 (by omega), ?_⟩
        have npn : p ≠ n := ne_of_none hp2 nn
        have nbl : bl ≠ n := ne_of_none hbl2 nn
        have nbn : n ∉ bi := fun m => by
          obtain ⟨k, hk⟩ := List.mem_iff_getElem?.mp m
          obtain ⟨c', e1, e2⟩ := Paired.left hcn2 hk
          obtain ⟨zs, e3, _⟩ := e2
          rw [e3] at nn
          cases nn
        refine ⟨_, _, _, _, _, rfl, same_mut (sH2.trans s3) np0, bi ++ [bl], n, [], npn.symm, ?_, ?_, sH2.free nn, ?_, ?_, ?_, ?_, Nat.zero_le _, ?_⟩
        · rw [List.mem_append, List.mem_singleton]
          rintro (m | m)
          · exact nbn m
          · exact nbl m.symm
        · rw [List.mem_append, List.mem_singleton]
          rintro (m | m)
          · exact npi m
          · exact nlp m.symm
        · rw [upd_same, List.map_append (l₁ := bi ++ [bl])]
          rfl
        · rw [ef]
          refine Cnt.snoc (ys := ys) ?_ hly (hcn2.keep fun b' m o e => ?_)
          · rw [upd_ne nlp]
            exact s3 _ _ hbl2
          · rw [upd_ne (show b' ≠ p from fun z => npi (z ▸ m))]
            exact s3 _ _ e
        · rw [upd_ne npn.symm, upd_same]
        · rw [ef]
          rfl
        · rw [List.length_append, List.length_singleton]
          omega
      · rw [decide_eq_false (show ¬ V.str x.kind = V.str "opener" from fun z => hk (V.str.inj z))]
        have epc : pcS ((L.take j).foldl pcS ([], 0)) x = (((L.take j).foldl pcS ([], 0)).1, ((L.take j).foldl pcS ([], 0)).2 + (1 + x.spur.length)) := if_neg hk
        rw [epc] at ef
        refine iteF ?_
        have lss : ss.length = x.spur.length := tall_len rs
        have S3 := bd.spur L mL x mx
        have jl : j < 12 := by omega
        refine ⟨_, rfl, _, rfl, p, _, -1, .ref bl, rfl, rfl, SqL.of hp2, by rw [List.map_append]; exact atI_last _ _, .inl ⟨rfl, _, SqL.of hbl2⟩, ?_⟩
        refine ⟨_, rfl, e, ss, rfl, .inr (SqT.of (sH2 _ _ he)), _, _, rfl, rfl, _, rfl, (by omega), (by omega), fun D nD => ?_⟩
        refine lc_it walk_range (fun k H8 => Gr H3 H8 D (((List.range k).map fun (w : Nat) => ((((i : Nat) : Int), (j : Int) + 1, (w : Int)) : Spot)).map dSpot)) (Gr.new nD) (fun _ _ _ _ => trivial) ?_ ?_
        · rintro k y _ H8 hk g8 ⟨rfl, rfl⟩
          have hk4 : k < 4 := by omega
          refine ⟨rfl, _, rfl, _, rfl, _, _, rfl, rfl, _, rfl, le_line (by show 3 ≤ 1000; decide), fun t1 nt1 => ?_⟩
          obtain ⟨xs8, hp8, rx8⟩ := g8.ls
          have s1 := same_new (o := .tup [.int (i : Nat), .int ((j : Nat) + 1), .int (0 + (k : Nat))]) nt1
          refine ⟨xs8, s1 _ _ hp8, small_len rx8 (by rw [List.length_map, List.length_map, List.length_range]; omega), ?_⟩
          rw [List.range_succ, List.map_append, List.map_append]
          refine Gr.app (g8.same.trans s1) g8.fresh (s1 _ _ hp8) (rx8.mono (ts_of s1)) (d := dSpot (((i : Nat) : Int), (j : Int) + 1, (k : Int))) ?_
          exact tp_tup upd_same (ta_cons tp_int (ta_cons tp_int (ta_cons (congrArg V.int (Int.zero_add _)) ta_nil)))
        · rintro H8 g8
          obtain ⟨xs8, hp8, rx8⟩ := g8.ls
          have en : (((ss.length : Nat) : Int) + 1).toNat = x.spur.length + 1 := by omega
          rw [en] at rx8
          have l2 : xs8.length = 1 + x.spur.length := by rw [rx8.length, List.length_map, List.length_map, List.length_range]; omega
          have hb8 := g8.same _ _ hbl2
          refine ⟨bl, D, ys, xs8, rfl, rfl, hb8, hp8, le_line (by omega), ?_⟩
          refine ⟨_, _, _, _, _, rfl, same_mut (sH2.trans g8.same) nHl, bi, bl, ys ++ xs8, nlp, nbi, npi, nHl, ?_, ?_, upd_same, ?_, ?_, ?_⟩
          · rw [upd_ne nlp.symm]
            exact g8.same _ _ hp2
          · rw [ef]
            refine hcn2.keep fun b' m o e => ?_
            rw [upd_ne (show b' ≠ bl from fun z => nbi (z ▸ m))]
            exact g8.same _ _ e
          · rw [ef, List.length_append, hly, l2]
          · rw [List.length_append]
            omega
          · omega
    · rintro σ H1 ⟨_, _, _, _, _, rfl, sH, bi, bl, ys, nlp, nbi, npi, nHl, hp, hcn, hbl, hly, lly, lbi⟩
      rw [lp, List.take_length] at hcn hly
      refine ⟨_, rfl, q H1 p (bi ++ [bl]) sH (s0.free np) hp ?_⟩
      exact hcn.snoc hbl hly
abbrev C_parts (P : Program) (w : World) (K : PySem.W.Frag) (mg : Str → Option Value) (base : Heap) := Cal P w K mg base 1 "parts" ["plan", "loop"] sp_parts
/-! ### told_twice -/
def dk (ns : List Int) : List (L2.Key × V) := ns.map fun n => (Sum.inl n, V.bl true)
theorem dk_none {n : Int} : ∀ {ns : List Int}, n ∉ ns → valV (dk ns) (Sum.inl n : L2.Key) = none
  | [], _ => rfl
  | m :: ns, h => by
    have h1 : m ≠ n := fun z => h (z ▸ List.mem_cons_self)
    have h2 : n ∉ ns := fun z => h (List.mem_cons_of_mem _ z)
    show valV ((Sum.inl m, V.bl true) :: dk ns) _ = none
    rw [valV_neg (fun z => h1 (Sum.inl.inj z))]
    exact dk_none h2
theorem dk_put {n : Int} {ns : List Int} (h : n ∉ ns) : putK (dk ns) (Sum.inl n : L2.Key) (V.bl true) = dk (ns ++ [n]) := by
  rw [putK_new _ (dk_none h)]
  unfold dk
  rw [List.map_append]
  rfl
theorem not_in_take {ns : List Int} {i : Nat} {n : Int} (nd : ns.Nodup) (h : ns[i]? = some n) : n ∉ ns.take i := fun m => by
  obtain ⟨j, hj⟩ := List.mem_iff_getElem?.mp m
  rw [List.getElem?_take] at hj
  by_cases hji : j < i
  · rw [if_pos hji] at hj
    obtain ⟨l1, e1⟩ := List.getElem?_eq_some_iff.mp hj
    obtain ⟨l2, e2⟩ := List.getElem?_eq_some_iff.mp h
    have := (List.getElem_inj nd).mp (e1.trans e2.symm)
    omega
  · rw [if_neg hji] at hj
    cases hj
theorem take_snoc {α : Type} {ns : List α} {i : Nat} {n : α} (h : ns[i]? = some n) : ns.take (i + 1) = ns.take i ++ [n] := by
  rw [List.take_add_one, h]
  rfl
theorem devAt_of {H : Hp} {d : DevAt} {x : V} (h : Tp H (dDevAt d) x) : ∃ (t : Addr) (s : V), x = .ref t ∧ H t = some (.tup [s, .str d.2.1, .int d.2.2]) ∧ Tp H (dSpot d.1) s := by
  obtain ⟨t, _, rfl, ht, s, _, rfl, hs, _, _, rfl, rfl, _, _, rfl, rfl, rfl⟩ := h
  exact ⟨t, s, rfl, ht, hs⟩
def sp_fine : Sp := fun vs H Q _ => ∃ (v : V) (Pn : Plan), vs = [v] ∧ Tp H (dPlan Pn) v ∧ PlanOk Pn ∧ ∀ H', Same H H' → Q .non H'
theorem ok_told_twice {f f1 : Addr} {fd fd1 : FuncData} (F : Fun K "told_twice" "told_twice" s_told_twice f fd) (B : Blt mg) (c_devices : C_devices P w K mg base f1 fd1) : FnOk P w K mg base CX0 2 f fd ["plan"] sp_fine := by
  refine F.ok sc_told_twice (fun vs H Q E h => ?_) (fun cdv A outer s H vs Q E hr h => ?_)
  · obtain ⟨_, _, rfl, _⟩ := h
    rfl
  · obtain ⟨v, Pn, rfl, hv, ok, q⟩ := h
    have hu := hu1_of hr
    have nd := sc_told_twice.nd
    refine ⟨_, (pss_cons (ps_set (i := 1) nd rfl (Or.inl rfl) pe_dnewK)
      (pss_cons (ps_for PassesOwn.never rfl (pi_list (pe_call c_devices.F (hr.mono (by decide)) (by rfl) c_devices.g c_devices.kp c_devices.b .nil pass0 (pa_cons (pv 0) pa_nil))) (pg_tup rfl (pgs_cons (pg_name (i := 2) nd rfl (Or.inl rfl)) (pgs_cons (pg_name (i := 3) nd rfl (Or.inl rfl)) (pgs_cons (pg_name (i := 4) nd rfl (Or.inl rfl)) pgs_nil))))
        (pss_cons (ps_if (pt_cmp (pc_din hu (pv 4) (pv 1)))
          (pss_one (ps_ret (pe_tup (pa_cons pe_str (pa_cons (pv 4) pa_nil)))))
          pss_nil)
        (pss_one (ps_dput hu (pv 1) (pv 4) pe_bl rfl))))
      (pss_one (ps_ret pe_non)))), ?_⟩
    intro m nm
    have sm := same_new (o := .dK []) nm
    refine ⟨_, rfl, v, Pn, rfl, hv.mono (ts_of sm), ok.bnd, fun H1 p g => ?_⟩
    obtain ⟨xs, hp, rx⟩ := g.ls
    have s1 := sm.trans g.same
    have hm1 := g.same _ _ (show upd H m (.dK []) m = some (.dK []) from upd_same)
    have nmp : m ≠ p := ne_of hm1 hp fun z => nomatch z
    have lx : xs.length = (devsOf Pn.loops).length := tall_len rx
    have nd0 := ok.nodup
    have few := ok.few.2
    refine ⟨p, rfl, ⟨xs, SqL.of hp⟩, for_list (K := K) (a := p) (xs := xs) (fun i σ H2 => ∃ y2 y3 y4, σ = [some v, some (.ref m), y2, y3, y4] ∧ Same H H2 ∧ TS H1 H2 ∧ H2 m = some (.dK (dk (((devsOf Pn.loops).map (·.2.2)).take i))) ∧ H2 p = some (.lst xs))
      ⟨_, _, _, rfl, s1, TS.refl _, by rw [List.take_zero]; exact hm1, hp⟩ (fun i σ H2 _ ⟨_, _, _, _, _, _, _, h⟩ => SqL.of h) ?_ ?_⟩
    · rintro i x σ H2 hx ⟨y2, y3, y4, rfl, s2, t2, hm2, hp2⟩
      have hi : i < xs.length := (List.getElem?_eq_some_iff.mp hx).1
      obtain ⟨d, ed, td⟩ := tall_map rx hx
      obtain ⟨t, sv, rfl, ht, hs⟩ := devAt_of (td.mono t2)
      have en : ((devsOf Pn.loops).map (·.2.2))[i]? = some d.2.2 := by rw [List.getElem?_map, ed]; rfl
      have no := not_in_take nd0 en
      refine ⟨t, _, rfl, SqT.of ht, rfl, _, _, rfl, _, _, rfl, _, _, rfl, rfl, ?_⟩
      refine ⟨_, rfl, _, rfl, m, _, rfl, DGet.k (k := Sum.inl d.2.2) hm2, _, rfl, ?_⟩
      rw [dk_none no]
      refine iteF ?_
      refine ⟨_, rfl, _, rfl, m, _, rfl, DPut.k (k := Sum.inl d.2.2) hm2 ?_, ?_⟩
      · unfold dk
        rw [List.length_map, List.length_take]
        exact small1000 (by omega)
      · rw [dk_put no, ← take_snoc en]
        refine ⟨_, _, _, rfl, same_mut s2 nm, t2.trans (ts_dK hm2), upd_same, ?_⟩
        rw [upd_ne nmp.symm]
        exact hp2
    · rintro σ H2 ⟨_, _, _, rfl, s2, _⟩
      exact q _ s2
/-! ### crowded -/
theorem ok_crowded {f f1 : Addr} {fd fd1 : FuncData} (F : Fun K "crowded" "crowded" s_crowded f fd) (B : Blt mg) (c_parts : C_parts P w K mg base f1 fd1) : FnOk P w K mg base CX0 2 f fd ["plan"] sp_fine := by
  refine F.ok sc_crowded (fun vs H Q E h => ?_) (fun cdv A outer s H vs Q E hr h => ?_)
  · obtain ⟨_, _, rfl, _⟩ := h
    rfl
  · obtain ⟨v, Pn, rfl, hv, ok, q⟩ := h
    obtain ⟨a, b, x0, x2, ls, rfl, ha, e0, hb, rl, -⟩ := plan_loops hv
    subst e0
    have hl3 : ls.length = Pn.loops.length := tall_len rl
    have l3 := ok.loops.2
    have nd := sc_crowded.nd
    refine ⟨_, (pss_cons (ps_for PassesOwn.never rfl (pi_range1 (by rfl) B._range (pa_cons (pe_callB call_len_seq (by rfl) B._len boot_len (pa_cons (pe_ix (r := rIxT K) ix_tup (pv 0) pe_int (fun _ _ => rfl)) pa_nil)) pa_nil)) (pg_name (i := 1) nd rfl (Or.inl rfl))
        (pss_one (ps_for PassesOwn.never rfl (pi_enum (by rfl) B._enumerate (pa_cons (pe_call c_parts.F (hr.mono (by decide)) (by rfl) c_parts.g c_parts.kp c_parts.b .nil pass0 (pa_cons (pv 0) (pa_cons (pv 1) pa_nil))) pa_nil)) (pg_tup rfl (pgs_cons (pg_name (i := 2) nd rfl (Or.inl rfl)) (pgs_cons (pg_name (i := 3) nd rfl (Or.inl rfl)) pgs_nil)))
          (pss_one (ps_if (pt_cmpR op_gt (pe_callB call_len_seq (by rfl) B._len boot_len (pa_cons (pv 3) pa_nil)) (pe_ix (r := rIxT K) ix_tup (pv 0) pe_int (fun _ _ => rfl)) (nomark _))
            (pss_one (ps_ret (pe_tup (pa_cons pe_str (pa_cons (pv 1) (pa_cons (pv 2) pa_nil))))))
            pss_nil)))))
      (pss_one (ps_ret pe_non))), ?_⟩
    refine ⟨_, rfl, a, _, 1, _, rfl, rfl, SqT.of ha, rfl, b, ls, rfl, .inr (SqT.of hb), _, rfl, (by omega), (by omega), ?_⟩
    refine for_it walk_range (fun i σ H1 => ∃ y1 y2 y3, σ = [some (.ref a), y1, y2, y3] ∧ Same H H1) ⟨_, _, _, rfl, Same.refl _⟩ (fun _ _ _ _ _ => trivial) ?_ ?_
    · rintro i x σ _ H1 hi ⟨y1, y2, y3, rfl, s1⟩ ⟨rfl, rfl⟩
      have hi3 : i < Pn.loops.length := by omega
      have eL : Pn.loops[i]? = some Pn.loops[i] := List.getElem?_eq_getElem hi3
      have mL : Pn.loops[i] ∈ Pn.loops := List.getElem_mem _
      generalize Pn.loops[i] = L at eL mL
      refine ⟨_, rfl, _, rfl, _, Pn, i, L, by show [V.ref a, V.int (0 + (i : Int))] = _; rw [Int.zero_add], hv.mono (ts_of s1), ok.bnd, eL, fun H2 p bs s2 np hp hc => ?_⟩
      refine ⟨p, _, rfl, SqL.of hp, ?_⟩
      refine for_it (walk_enum (xs := bs.map V.ref)) (fun k σ H3 => ∃ y1 y2 y3, σ = [some (.ref a), y1, y2, y3] ∧ Same H2 H3) ⟨_, _, _, rfl, Same.refl _⟩ (fun k σ H3 _ ⟨_, _, _, _, s3⟩ => SqL.of (s3 _ _ hp)) ?_ ?_
      · rintro k y σ H3 H4 hk ⟨y1, y2, y3, rfl, s3⟩ ⟨T, z1, z2, rfl, nT, rfl, e1, e2⟩
        cases e1
        have e2' : (bs.map V.ref)[k]? = some z2 := e2
        rw [List.getElem?_map] at e2'
        obtain ⟨bk, ebk, rfl⟩ := Option.map_eq_some_iff.mp e2'
        obtain ⟨c, ec, ys, hys, lys⟩ := Paired.left hc ebk
        have sT := same_new (o := .tup [.int (k : Nat), .ref bk]) nT
        refine ⟨T, _, rfl, SqT.of upd_same, rfl, _, _, rfl, _, _, rfl, rfl, ?_⟩
        have s4 := s3.trans sT
        refine ⟨_, rfl, bk, ys, rfl, .inl (SqL.of (s4 _ _ hys)), _, rfl, a, _, 0, _, rfl, rfl, SqT.of ((s1.trans (s2.trans s4)) _ _ ha), rfl, _, _, rfl, rfl, false, ?_, iteF ⟨_, _, _, rfl, s4⟩⟩
        refine congrArg V.bl (decide_eq_false ?_)
        have h1 := ok.uncrowd L mL c (List.mem_of_getElem? ec)
        show ¬ Pn.most < (ys.length : Int)
        omega
      · rintro σ H3 ⟨_, _, _, rfl, s3⟩
        exact ⟨_, _, _, rfl, s1.trans (s2.trans s3)⟩
    · rintro σ H1 ⟨_, _, _, rfl, s1⟩
      exact q _ s1
/-! ### zone_at_odds -/
def toldIn (ds : List DevAt) : List Int := (ds.filter fun d => decide (d.2.1 ∈ tellers)).map (·.2.2)
theorem toldIn_take {ds : List DevAt} {i : Nat} {d : DevAt} (h : ds[i]? = some d) : toldIn (ds.take (i + 1)) = toldIn (ds.take i) ++ (if d.2.1 ∈ tellers then [d.2.2] else []) := by
  unfold toldIn
  rw [take_snoc h, List.filter_append, List.map_append]
  congr 1
  by_cases hm : d.2.1 ∈ tellers
  · rw [if_pos hm, List.filter_cons_of_pos (by simpa using hm)]
    rfl
  · rw [if_neg hm, List.filter_cons_of_neg (by simpa using hm)]
    rfl
theorem toldIn_len (ds : List DevAt) : (toldIn ds).length ≤ ds.length := by
  unfold toldIn
  rw [List.length_map]
  exact List.length_filter_le _ _
theorem ok_zone_at_odds {f f1 : Addr} {fd fd1 : FuncData} (F : Fun K "zone_at_odds" "zone_at_odds" s_zone_at_odds f fd) (B : Blt mg) (G : Con K mg aK aT) (c_devices : C_devices P w K mg base f1 fd1) : FnOk P w K mg base CX0 2 f fd ["plan"] sp_fine := by
  refine F.ok sc_zone_at_odds (fun vs H Q E h => ?_) (fun cdv A outer s H vs Q E hr h => ?_)
  · obtain ⟨_, _, rfl, _⟩ := h
    rfl
  · obtain ⟨v, Pn, rfl, hv, ok, q⟩ := h
    have hu := hu1_of hr
    have few := ok.few.2
    have nd := sc_zone_at_odds.nd
    refine ⟨_, (pss_cons (ps_setLc (i := 1) (own := [("spot", 7), ("kind", 8), ("address", 6)]) (g := (gTup K 3 (gCons (gName 7) (gCons (gName 8) (gCons (gName 6) gNil))))) rfl nd rfl rfl (sw_true rfl rfl rfl (by decide +kernel)) (pi_list (pe_call c_devices.F (hr.mono (by decide)) (by rfl) c_devices.g c_devices.kp c_devices.b .nil pass0 (pa_cons (pv 0) pa_nil))) (blkOk_by (own := [("spot", 7), ("kind", 8), ("address", 6)]) (N := n_zone_at_odds) (sc := defScope s_zone_at_odds) (by decide +kernel)) (fun _ _ _ _ _ => (pg_tup rfl (pgs_cons (pg_name (i := 7) nd rfl (Or.inl rfl)) (pgs_cons (pg_name (i := 8) nd rfl (Or.inl rfl)) (pgs_cons (pg_name (i := 6) nd rfl (Or.inl rfl)) pgs_nil))))) (fun _ _ _ _ _ => (pts_one (pt_cmpR (r := rIn K false) op_in_seq (pv 8) (pe_gref (by rfl) G._TOLD_BY) (by rfl)))) (fun _ _ _ _ _ => (pv 6)))
      (pss_cons (ps_set (i := 2) nd rfl (Or.inl rfl) pe_non)
      (pss_cons (ps_set (i := 3) nd rfl (Or.inl rfl) pe_dnewK)
      (pss_cons (ps_for PassesOwn.never rfl (pi_tup (pe_ix (r := rIxT K) ix_tup (pv 0) pe_int (fun _ _ => rfl))) (pg_tup rfl (pgs_cons (pg_name (i := 4) nd rfl (Or.inl rfl)) (pgs_cons (pg_name (i := 5) nd rfl (Or.inl rfl)) pgs_nil)))
        (pss_cons (ps_for PassesOwn.never rfl (pi_tup (pv 5)) (pg_name (i := 6) nd rfl (Or.inl rfl))
          (pss_cons (ps_if (pt_cmpR (r := rIn K true) op_notIn_seq (pv 6) (pv 1) (by rfl))
            (pss_one (ps_ret (pe_tup (pa_cons pe_str (pa_cons (pv 4) (pa_cons (pv 6) pa_nil))))))
            pss_nil)
          (pss_one (ps_if (PW.pt (pw_and (pt_cmp (pc_din hu (pv 6) (pv 3))) (pw_and1 (pt_cmpR op_isN (pv 2) pe_non (nomark _)))))
            (pss_one (ps_set (i := 2) nd rfl (Or.inl rfl) (pe_tup (pa_cons pe_str (pa_cons (pv 4) (pa_cons (pv 6) pa_nil))))))
            pss_nil))))
        (pss_one (ps_for PassesOwn.never rfl (pi_tup (pv 5)) (pg_name (i := 6) nd rfl (Or.inl rfl))
          (pss_one (ps_dput hu (pv 3) (pv 6) pe_bl rfl))))))
      (pss_one (ps_ret (pv 2))))))), ?_⟩
    refine ⟨_, rfl, v, Pn, rfl, hv, ok.bnd, fun H1 p g => ?_⟩
    obtain ⟨xs, hp, rx⟩ := g.ls
    have lx : xs.length = (devsOf Pn.loops).length := tall_len rx
    refine ⟨p, rfl, ⟨xs, SqL.of hp⟩, fun D nD => ?_⟩
    refine lc_it (walk_list (xs := xs)) (fun i H2 => Same H1 H2 ∧ H2 D = some (.lst ((toldIn ((devsOf Pn.loops).take i)).map V.int))) ⟨same_new nD, upd_same⟩ (fun i H2 _ p2 => SqL.of (p2.1 _ _ hp)) ?_ ?_
    · rintro i x _ H2 hi ⟨s2, e2⟩ ⟨rfl, hx⟩
      obtain ⟨d, ed, td⟩ := tall_map rx hx
      obtain ⟨t, sv, rfl, ht, hs⟩ := devAt_of (td.mono (ts_of s2))
      refine ⟨t, _, rfl, SqT.of ht, rfl, _, _, rfl, _, _, rfl, _, _, rfl, rfl, rfl, ?_⟩
      refine ⟨_, rfl, aT, _, rfl, .inr (G.told H2), rfl, rfl, decide (d.2.1 ∈ tellers), congrArg V.bl (inV_strs d.2.1 tellers), ?_⟩
      rw [toldIn_take ed]
      by_cases hm : d.2.1 ∈ tellers
      · rw [decide_eq_true hm, if_pos hm]
        refine iteT ?_
        refine ⟨_, rfl, _, e2, ?_, same_mut s2 nD, ?_⟩
        · rw [List.length_map]
          exact small1000 (Nat.le_trans (toldIn_len _) (Nat.le_trans (List.length_take_le' _ _) (by omega)))
        · rw [upd_same, List.map_append]
          rfl
      · rw [decide_eq_false hm, if_neg hm, List.append_nil]
        exact iteF ⟨s2, e2⟩
    · rintro H2 ⟨s2, e2⟩
      rw [lx, List.take_length] at e2
      have sH2 := g.same.trans s2
      -- shared = None; met = {}
      intro m nm
      have sm := same_new (o := .dK []) nm
      obtain ⟨a, b, x0, x2, ls, rfl, ha, -, hb, rl, hz⟩ := plan_loops hv
      obtain ⟨z, zs, rfl, hzs, rz⟩ := hz
      have lz : zs.length = Pn.zones.length := tall_len rz
      have s3 := sH2.trans sm
      refine ⟨_, rfl, a, _, 2, _, rfl, rfl, SqT.of (s3 _ _ ha), rfl, z, rfl, ⟨zs, SqT.of (s3 _ _ hzs)⟩, ?_⟩
      have eD : ∀ H4 : Hp, Same H2 H4 → H4 D = some (.lst ((toldIn (devsOf Pn.loops)).map V.int)) := fun H4 s4 => s4 _ _ e2
      refine for_it (walk_tup (xs := zs)) (fun i σ H4 => ∃ y4 y5 y6 y7 y8, σ = [some (.ref a), some (.ref D), some .non, some (.ref m), y4, y5, y6, y7, y8] ∧ Same H2 H4 ∧ H4 m = some (.dK (dk ((Pn.zones.take i).flatMap (·.2)))))
        ⟨_, _, _, _, _, rfl, sm, upd_same⟩ (fun i σ H4 _ ⟨_, _, _, _, _, _, s4, _⟩ => SqT.of (s4 _ _ (sH2 _ _ hzs))) ?_ ?_
      · rintro i x σ _ H4 hi ⟨y4, y5, y6, y7, y8, rfl, s4, hm4⟩ ⟨rfl, hx⟩
        obtain ⟨zn, ez, tz⟩ := tall_map rz hx
        have mz := List.mem_of_getElem? ez
        obtain ⟨t, _, rfl, ht, _, _, rfl, rfl, w2, _, rfl, hw2, rfl⟩ := tz
        obtain ⟨c, rfl, hc⟩ := intsT_of hw2
        have sH4 := sH2.trans s4
        have esplit : Pn.zones.flatMap (·.2) = (Pn.zones.take i).flatMap (·.2) ++ (zn.2 ++ (Pn.zones.drop (i + 1)).flatMap (·.2)) := by
          have e0 : Pn.zones = Pn.zones.take i ++ zn :: Pn.zones.drop (i + 1) := by
            conv => lhs; rw [← List.take_append_drop i Pn.zones]
            congr 1
            rw [List.drop_eq_getElem_cons (by omega)]
            congr 1
            exact (List.getElem?_eq_some_iff.mp ez).2
          conv => lhs; rw [e0]
          rw [List.flatMap_append, List.flatMap_cons]
        have nd := ok.zdis
        rw [esplit, List.nodup_append] at nd
        obtain ⟨nd1, nd2, nd3⟩ := nd
        rw [List.nodup_append] at nd2
        have zlen := (ok.zad zn mz).2.1
        have flen : ((Pn.zones.take i).flatMap (·.2)).length ≤ 400 := by
          have z8 := ok.zlen
          have h1 : ((Pn.zones.take i).flatMap (·.2)).length ≤ 30 * (Pn.zones.take i).length := by
            have aux : ∀ l : List (Str × List Int), (∀ z ∈ l, z.2.length ≤ 30) → (l.flatMap (·.2)).length ≤ 30 * l.length := by
              intro l
              induction l with
              | nil => intro _; exact Nat.le_refl _
              | cons z l ih =>
                intro hl
                rw [List.flatMap_cons, List.length_append, List.length_cons]
                have h1 := hl z List.mem_cons_self
                have h2 := ih fun z' m => hl z' (List.mem_cons_of_mem _ m)
                omega
            exact aux _ fun z' m => (ok.zad z' (List.mem_of_mem_take m)).2.1
          have h2 := List.length_take_le' i Pn.zones
          omega
        refine ⟨t, _, rfl, SqT.of (sH4 _ _ ht), rfl, _, _, rfl, _, _, rfl, rfl, ?_⟩
        -- for address in addresses: the tests
        refine ⟨_, rfl, c, rfl, ⟨_, SqT.of (sH4 _ _ hc)⟩, for_it (walk_tup (xs := zn.2.map V.int)) (fun k σ H5 => ∃ y6 y7 y8, σ = [some (.ref a), some (.ref D), some .non, some (.ref m), some (.str zn.1), some (.ref c), y6, y7, y8] ∧ H5 = H4)
          ⟨_, _, _, rfl, rfl⟩ (fun k σ H5 _ ⟨_, _, _, _, e⟩ => by rw [e]; exact SqT.of (sH4 _ _ hc)) ?_ ?_⟩
        · rintro k y σ _ H5 hk ⟨y6, y7, y8, rfl, rfl⟩ ⟨rfl, hy⟩
          rw [List.getElem?_map] at hy
          obtain ⟨n, en, rfl⟩ := Option.map_eq_some_iff.mp hy
          have mn := List.mem_of_getElem? en
          have tn : n ∈ toldIn (devsOf Pn.loops) := ok.ztold zn mz n mn
          refine ⟨_, rfl, _, rfl, D, _, rfl, .inl (SqL.of (eD _ s4)), rfl, flat_map_int _, false, ?_, iteF ?_⟩
          · refine congrArg V.bl ?_
            rw [inV_ints, decide_eq_true tn]
            rfl
          refine ⟨_, rfl, _, rfl, m, _, rfl, DGet.k (k := Sum.inl n) hm4, _, rfl, ?_⟩
          rw [dk_none (fun q2 => nd3 n q2 n (List.mem_append_left _ mn) rfl)]
          refine iteF ?_
          exact iteF ⟨_, _, _, rfl, rfl⟩
        · rintro σ H5 ⟨y6, y7, y8, rfl, rfl⟩
          -- for address in addresses: met[address] = True
          refine ⟨_, rfl, c, rfl, ⟨_, SqT.of (sH4 _ _ hc)⟩, for_it (walk_tup (xs := zn.2.map V.int)) (fun k σ H6 => ∃ y6 y7 y8, σ = [some (.ref a), some (.ref D), some .non, some (.ref m), some (.str zn.1), some (.ref c), y6, y7, y8] ∧ Same H2 H6 ∧ H6 m = some (.dK (dk ((Pn.zones.take i).flatMap (·.2) ++ zn.2.take k))))
            ⟨_, _, _, rfl, s4, by rw [List.take_zero, List.append_nil]; exact hm4⟩ (fun k σ H6 _ ⟨_, _, _, _, s6, _⟩ => SqT.of (s6 _ _ (sH2 _ _ hc))) ?_ ?_⟩
          · rintro k y σ _ H6 hk ⟨y6, y7, y8, rfl, s6, hm6⟩ ⟨rfl, hy⟩
            rw [List.getElem?_map] at hy
            obtain ⟨n, en, rfl⟩ := Option.map_eq_some_iff.mp hy
            have mn := List.mem_of_getElem? en
            have no : n ∉ (Pn.zones.take i).flatMap (·.2) ++ zn.2.take k := fun q2 => by
              rcases List.mem_append.mp q2 with q2 | q2
              · exact nd3 n q2 n (List.mem_append_left _ mn) rfl
              · exact not_in_take nd2.1 en q2
            refine ⟨_, rfl, _, rfl, m, _, rfl, DPut.k (k := Sum.inl n) hm6 ?_, _, _, _, rfl, same_mut s6 nm, ?_⟩
            · unfold dk
              rw [List.length_map, List.length_append, List.length_take]
              exact small1000 (by omega)
            · rw [upd_same, dk_put no, List.append_assoc, ← take_snoc en]
          · rintro σ H6 ⟨y6, y7, y8, rfl, s6, hm6⟩
            refine ⟨_, _, _, _, _, rfl, s6, ?_⟩
            rw [List.length_map, List.take_length] at hm6
            rw [take_snoc ez, List.flatMap_append, List.flatMap_cons, List.flatMap_nil, List.append_nil]
            exact hm6
      · rintro σ H4 ⟨_, _, _, _, _, rfl, s4, _⟩
        exact ⟨_, rfl, q _ (sH2.trans s4)⟩
abbrev C_told_twice (P : Program) (w : World) (K : PySem.W.Frag) (mg : Str → Option Value) (base : Heap) := Cal P w K mg base 2 "told_twice" ["plan"] sp_fine
abbrev C_crowded (P : Program) (w : World) (K : PySem.W.Frag) (mg : Str → Option Value) (base : Heap) := Cal P w K mg base 2 "crowded" ["plan"] sp_fine
abbrev C_zone_at_odds (P : Program) (w : World) (K : PySem.W.Frag) (mg : Str → Option Value) (base : Heap) := Cal P w K mg base 2 "zone_at_odds" ["plan"] sp_fine
/-! ### wrong, is_plan, is_let_by -/
theorem ok_wrong {f f1 f2 f3 : Addr} {fd fd1 fd2 fd3 : FuncData} (F : Fun K "wrong" "wrong" s_wrong f fd) (c_told_twice : C_told_twice P w K mg base f1 fd1) (c_crowded : C_crowded P w K mg base f2 fd2) (c_zone_at_odds : C_zone_at_odds P w K mg base f3 fd3) :
    FnOk P w K mg base CX0 3 f fd ["plan"] sp_fine := by
  refine F.ok sc_wrong (fun vs H Q E h => ?_) (fun cdv A outer s H vs Q E hr h => ?_)
  · obtain ⟨_, _, rfl, _⟩ := h
    rfl
  · obtain ⟨v, Pn, rfl, hv, ok, q⟩ := h
    have nd := sc_wrong.nd
    refine ⟨_, (pss_cons (ps_for PassesOwn.never rfl (pi_tup (pe_tup (pa_cons (pe_call c_told_twice.F (hr.mono (by decide)) (by rfl) c_told_twice.g c_told_twice.kp c_told_twice.b .nil pass0 (pa_cons (pv 0) pa_nil)) (pa_cons (pe_call c_crowded.F (hr.mono (by decide)) (by rfl) c_crowded.g c_crowded.kp c_crowded.b .nil pass0 (pa_cons (pv 0) pa_nil)) (pa_cons (pe_call c_zone_at_odds.F (hr.mono (by decide)) (by rfl) c_zone_at_odds.g c_zone_at_odds.kp c_zone_at_odds.b .nil pass0 (pa_cons (pv 0) pa_nil)) pa_nil))))) (pg_name (i := 1) nd rfl (Or.inl rfl))
        (pss_one (ps_if (pt_cmpR op_notN (pv 1) pe_non (nomark _))
          (pss_one (ps_ret (pv 1)))
          pss_nil)))
      (pss_one (ps_ret pe_non))), ?_⟩
    refine ⟨_, rfl, v, Pn, rfl, hv, ok, fun H1 s1 => ?_⟩
    refine ⟨_, rfl, v, Pn, rfl, hv.mono (ts_of s1), ok, fun H2 s2 => ?_⟩
    refine ⟨_, rfl, v, Pn, rfl, hv.mono (ts_of (s1.trans s2)), ok, fun H3 s3 => ?_⟩
    have sH := s1.trans (s2.trans s3)
    refine ⟨le_line (by show 3 ≤ 1000; decide), fun t nt => ?_⟩
    refine ⟨t, rfl, ⟨_, SqT.of upd_same⟩, for_it (walk_tup (xs := [V.non, V.non, V.non])) (fun i σ H4 => ∃ y1, σ = [some v, y1] ∧ H4 = upd H3 t (.tup [V.non, V.non, V.non])) ⟨_, rfl, rfl⟩ (fun _ _ _ _ ⟨_, _, e⟩ => by rw [e]; exact SqT.of upd_same) ?_ ?_⟩
    · rintro i x σ _ H4 hi ⟨y1, rfl, rfl⟩ ⟨rfl, hx⟩
      have ex : x = .non := by
        have m := List.mem_of_getElem? hx
        simpa using m
      subst ex
      refine ⟨_, rfl, rfl, _, rfl, ?_⟩
      exact iteF ⟨_, rfl, rfl⟩
    · rintro σ H4 ⟨_, rfl, rfl⟩
      exact q _ (sH.trans (same_new nt))
abbrev C_wrong (P : Program) (w : World) (K : PySem.W.Frag) (mg : Str → Option Value) (base : Heap) := Cal P w K mg base 3 "wrong" ["plan"] sp_fine
def sp_yes : Sp := fun vs H Q _ => ∃ (v : V) (Pn : Plan), vs = [v] ∧ Tp H (dPlan Pn) v ∧ PlanOk Pn ∧ ∀ H', Same H H' → Q (.bl true) H'
theorem ok_is_plan {f f1 f2 f3 f4 : Addr} {fd fd1 fd2 fd3 fd4 : FuncData} (F : Fun K "is_plan" "is_plan" s_is_plan f fd) (B : Blt mg) (G : Con K mg aK aT) (c_is_whole : C_is_whole P w K mg base f1 fd1) (c_is_loop : C_is_loop P w K mg base f2 fd2)
    (c_are_zones : C_are_zones P w K mg base f3 fd3) (c_devices : C_devices P w K mg base f4 fd4) : FnOk P w K mg base CX0 5 f fd ["thing"] sp_yes := by
  refine F.ok sc_is_plan (fun vs H Q E h => ?_) (fun cdv A outer s H vs Q E hr h => ?_)
  · obtain ⟨_, _, rfl, _⟩ := h
    rfl
  · obtain ⟨v, Pn, rfl, hv, ok, q⟩ := h
    obtain ⟨a, b, x0, x2, ls, rfl, ha, e0, hb, rl, hz⟩ := plan_loops hv
    subst e0
    obtain ⟨z, zs, rfl, hzs, rz⟩ := id hz
    have ll : ls.length = Pn.loops.length := tall_len rl
    have lok := ok.loops
    have nd := sc_is_plan.nd
    refine ⟨_, (pss_cons (ps_if (PW.pt (pw_or (pt_not (pt_val (pe_callB call_isi (by rfl) B._isinstance boot_isinstance (pa_cons (pv 0) (pa_cons (pe_bltn (v := .ty "tuple") (by rfl) B._tuple boot_tuple rfl) pa_nil))))) (pw_or (pt_cmpR op_ne (pe_callB call_len_seq (by rfl) B._len boot_len (pa_cons (pv 0) pa_nil)) pe_int (nomark _)) (pw_or1 (pt_not (pt_val (pe_call c_is_whole.F (hr.mono (by decide)) (by rfl) c_is_whole.g c_is_whole.kp c_is_whole.b .nil pass0 (pa_cons (pe_ix (r := rIxT K) ix_tup (pv 0) pe_int (fun _ _ => rfl)) (pa_cons pe_int (pa_cons (pe_gint (by rfl) G._MOST_DEVICES) pa_nil))))))))))
        (pss_one (ps_ret pe_bl))
        pss_nil)
      (pss_cons (ps_set (i := 1) nd rfl (Or.inl rfl) (pe_ix (r := rIxT K) ix_tup (pv 0) pe_int (fun _ _ => rfl)))
      (pss_cons (ps_if (PW.pt (pw_or (pt_not (pt_val (pe_callB call_isi (by rfl) B._isinstance boot_isinstance (pa_cons (pv 1) (pa_cons (pe_bltn (v := .ty "tuple") (by rfl) B._tuple boot_tuple rfl) pa_nil))))) (pw_or (pt_not (pt_chain op_le op_le pe_int (pe_callB call_len_seq (by rfl) B._len boot_len (pa_cons (pv 1) pa_nil)) (pe_gint (by rfl) G._MOST_LOOPS))) (pw_or1 (pt_not (pt_val (pe_callB (cr_all rfl) (by rfl) B._all boot_all (pa_cons (pe_lc (own := [("one", 2)]) rfl nd (pi_tup (pv 1)) (blkOk_by (own := [("one", 2)]) (N := n_is_plan) (sc := defScope s_is_plan) (by decide +kernel)) (fun _ _ _ _ _ => (pg_name (i := 2) nd rfl (Or.inl rfl))) (fun _ _ _ _ _ => pts_nil) (fun _ _ _ _ _ => (pe_call c_is_loop.F (hr.mono (by decide)) (by rfl) c_is_loop.g c_is_loop.kp c_is_loop.b .nil pass0 (pa_cons (pv 2) pa_nil)))) pa_nil))))))))
        (pss_one (ps_ret pe_bl))
        pss_nil)
      (pss_one (ps_ret (pe_and (pe_call c_are_zones.F (hr.mono (by decide)) (by rfl) c_are_zones.g c_are_zones.kp c_are_zones.b .nil pass0 (pa_cons (pe_ix (r := rIxT K) ix_tup (pv 0) pe_int (fun _ _ => rfl)) pa_nil)) (pe_one (pe_chain op_le op_le pe_int (pe_callB call_len_seq (by rfl) B._len boot_len (pa_cons (pe_call c_devices.F (hr.mono (by decide)) (by rfl) c_devices.g c_devices.kp c_devices.b .nil pass0 (pa_cons (pv 0) pa_nil)) pa_nil)) (pe_gint (by rfl) G._MOST_DEVICES))))))))), ?_⟩
    refine ⟨_, rfl, _, _, _, _, true, rfl, .ty _, .base (.tup ha), kit_ty (by decide +kernel), true, rfl, iteF ?_⟩
    refine ⟨_, rfl, a, _, rfl, .inr (SqT.of ha), rfl, false, rfl, iteF ?_⟩
    refine ⟨_, rfl, a, _, 0, _, rfl, rfl, SqT.of ha, rfl, _, _, _, rfl, ?_⟩
    rw [decide_eq_true ok.most.1, decide_eq_true ok.most.2]
    refine ⟨true, rfl, iteF ?_⟩
    refine ⟨_, rfl, a, _, 1, _, rfl, rfl, SqT.of ha, rfl, ?_⟩
    refine ⟨_, rfl, _, _, _, _, true, rfl, .ty _, .base (.tup hb), kit_ty (by decide +kernel), true, rfl, iteF ?_⟩
    refine ⟨_, rfl, b, ls, rfl, .inr (SqT.of hb), _, _, rfl, rfl, true, congrArg V.bl (decide_eq_true (by omega)), iteT ⟨_, _, rfl, rfl, true, congrArg V.bl (decide_eq_true (by omega)), iteF ?_⟩⟩
    refine ⟨_, rfl, b, rfl, ⟨_, SqT.of hb⟩, fun D nD => ?_⟩
    refine lc_all_tup hb nD (by omega) (fun i x H2 Qy hx s2 k => ⟨rfl, ?_⟩) fun H2 s2 hD => ?_
    · obtain ⟨L, eL, tL⟩ := tall_map rl hx
      have mL := List.mem_of_getElem? eL
      exact ⟨_, rfl, _, L, rfl, tL.mono (ts_of s2), ok.lens L mL, ok.pls L mL, k⟩
    refine ⟨D, List.replicate _ true, rfl, SqL.of (by rw [rep_map]; exact hD), ?_⟩
    rw [all_rep]
    refine ⟨true, rfl, iteF ?_⟩
    have ha2 := s2 _ _ ha
    refine ⟨_, rfl, a, _, 2, _, rfl, rfl, SqT.of ha2, rfl, _, Pn.zones, rfl, hz.mono (ts_of s2), ok.zlen, fun zn m => ⟨ok.zname zn m, ok.zad zn m⟩, ok.znd, fun H3 s3 => ⟨true, rfl, iteT ?_⟩⟩
    have s23 := s2.trans s3
    refine ⟨_, rfl, _, Pn, rfl, hv.mono (ts_of s23), ok.bnd, fun H4 p g => ?_⟩
    obtain ⟨xs, hp, rx⟩ := g.ls
    have lx : xs.length = (devsOf Pn.loops).length := tall_len rx
    have few := ok.few
    refine ⟨p, xs, rfl, .inl (SqL.of hp), _, _, rfl, rfl, true, congrArg V.bl (decide_eq_true (by omega)), iteT ⟨_, _, rfl, rfl, ?_⟩⟩
    dsimp only
    rw [decide_eq_true (show (xs.length : Int) ≤ 30 by omega)]
    exact q _ (s23.trans g.same)
abbrev C_is_plan (P : Program) (w : World) (K : PySem.W.Frag) (mg : Str → Option Value) (base : Heap) := Cal P w K mg base 5 "is_plan" ["thing"] sp_yes
theorem ok_is_let_by {f f1 f2 : Addr} {fd fd1 fd2 : FuncData} (F : Fun K "is_let_by" "is_let_by" s_is_let_by f fd) (c_is_plan : C_is_plan P w K mg base f1 fd1) (c_wrong : C_wrong P w K mg base f2 fd2) : FnOk P w K mg base CX0 6 f fd ["thing"] sp_yes := by
  refine F.ok sc_is_let_by (fun vs H Q E h => ?_) (fun cdv A outer s H vs Q E hr h => ?_)
  · obtain ⟨_, _, rfl, _⟩ := h
    rfl
  · obtain ⟨v, Pn, rfl, hv, ok, q⟩ := h
    have nd := sc_is_let_by.nd
    refine ⟨_, (pss_one (ps_ret (pe_and (pe_call c_is_plan.F (hr.mono (by decide)) (by rfl) c_is_plan.g c_is_plan.kp c_is_plan.b .nil pass0 (pa_cons (pv 0) pa_nil)) (pe_one (pe_cmpR op_isN (pe_call c_wrong.F (hr.mono (by decide)) (by rfl) c_wrong.g c_wrong.kp c_wrong.b .nil pass0 (pa_cons (pv 0) pa_nil)) pe_non (nomark _)))))), ?_⟩
    refine ⟨_, rfl, v, Pn, rfl, hv, ok, fun H1 s1 => ⟨true, rfl, iteT ?_⟩⟩
    refine ⟨_, rfl, v, Pn, rfl, hv.mono (ts_of s1), ok, fun H2 s2 => ⟨rfl, ?_⟩⟩
    exact q _ (s1.trans s2)
abbrev C_is_let_by (P : Program) (w : World) (K : PySem.W.Frag) (mg : Str → Option Value) (base : Heap) := Cal P w K mg base 6 "is_let_by" ["thing"] sp_yes
end
end K12
/-! K7: reach: spur_come_to, come_to, steps_of, feels, heard_by. -/
namespace K12
open PySem PySem.Spec PyProof.Rows L2
/-! ### how stretches are, which openers are parted -/
def spotK (s : Spot) : List L2.Key := [Sum.inl s.1, Sum.inl s.2.1, Sum.inl s.2.2]
def opK (o : Int × Int) : List L2.Key := [Sum.inl o.1, Sum.inl o.2]
theorem spotK_inj {s t : Spot} (h : spotK s = spotK t) : s = t := by
  obtain ⟨a, b, c⟩ := s
  obtain ⟨a', b', c'⟩ := t
  simp only [spotK, List.cons.injEq, Sum.inl.injEq, and_true] at h
  obtain ⟨rfl, rfl, rfl⟩ := h
  rfl
theorem opK_inj {s t : Int × Int} (h : opK s = opK t) : s = t := by
  obtain ⟨a, b⟩ := s
  obtain ⟨a', b'⟩ := t
  simp only [opK, List.cons.injEq, Sum.inl.injEq, and_true] at h
  obtain ⟨rfl, rfl⟩ := h
  rfl
abbrev Hows := List (Spot × Str)
abbrev Stops := List (Int × Int)
def howD (F : Hows) : List (List L2.Key × V) := F.map fun f => (spotK f.1, V.str f.2)
def stopD (G : Stops) : List (List L2.Key × V) := G.map fun o => (opK o, V.bl true)
def flook : Hows → Spot → Option Str
  | [], _ => none
  | f :: F, s => if f.1 = s then some f.2 else flook F s
theorem howD_val (s : Spot) : ∀ F : Hows, valV (howD F) (spotK s) = (flook F s).map V.str
  | [] => rfl
  | f :: F => by
    show valV ((spotK f.1, V.str f.2) :: howD F) (spotK s) = (if f.1 = s then some f.2 else flook F s).map V.str
    by_cases e : f.1 = s
    · rw [if_pos e, valV_pos (show (spotK f.1, V.str f.2).1 = spotK s by rw [e])]
      rfl
    · rw [if_neg e, valV_neg (fun z => e (spotK_inj z)), howD_val s F]
theorem stopD_val (o : Int × Int) : ∀ G : Stops, valV (stopD G) (opK o) = if o ∈ G then some (V.bl true) else none
  | [] => by simp [stopD, valV]
  | g :: G => by
    show valV ((opK g, V.bl true) :: stopD G) (opK o) = _
    by_cases e : g = o
    · rw [valV_pos (show (opK g, V.bl true).1 = opK o by rw [e]), if_pos (by rw [e]; exact List.mem_cons_self)]
    · rw [valV_neg (fun z => e (opK_inj z)), stopD_val o G]
      by_cases h : o ∈ G
      · rw [if_pos h, if_pos (List.mem_cons_of_mem _ h)]
      · rw [if_neg h, if_neg fun z => (List.mem_cons.mp z).elim (fun q => e q.symm) h]
/-- how a stretch is, as hows.get(s, "") tells -/
def hv (F : Hows) (s : Spot) : Str := (flook F s).getD ""
theorem howD_get (F : Hows) (s : Spot) : (valV (howD F) (spotK s)).getD (V.str "") = V.str (hv F s) := by
  rw [howD_val]
  unfold hv
  cases flook F s <;> rfl
theorem spot_key {H : Hp} {v : V} {s : Spot} (h : Tp H (dSpot s) v) : ∃ t, v = .ref t ∧ H t = some (.tup ((spotK s).map kV)) := by
  obtain ⟨t, _, rfl, ht, _, _, rfl, rfl, _, _, rfl, rfl, _, _, rfl, rfl, rfl⟩ := h
  exact ⟨t, rfl, ht⟩
theorem op_key {H : Hp} {v : V} {o : Int × Int} (h : Tp H (dOp o) v) : ∃ t, v = .ref t ∧ H t = some (.tup ((opK o).map kV)) := by
  obtain ⟨t, _, rfl, ht, _, _, rfl, rfl, _, _, rfl, rfl, rfl⟩ := h
  exact ⟨t, rfl, ht⟩
/-! ### what is come to -/
def spurGo (F : Hows) (l p : Int) : Nat → Nat → List Spot
  | 0, _ => []
  | r + 1, w => if hv F (l, p, (w : Int)) = "cut" then [] else (l, p, (w : Int)) :: spurGo F l p r (w + 1)
theorem spurGo_succ (F : Hows) (l p : Int) (r w : Nat) : spurGo F l p (r + 1) w = if hv F (l, p, (w : Int)) = "cut" then [] else (l, p, (w : Int)) :: spurGo F l p r (w + 1) := rfl
theorem spurGo_len (F : Hows) (l p : Int) : ∀ (r w : Nat), (spurGo F l p r w).length ≤ r
  | 0, _ => Nat.le_refl _
  | r + 1, w => by
    unfold spurGo
    split
    · exact Nat.zero_le _
    · rw [List.length_cons]
      exact Nat.succ_le_succ (spurGo_len F l p r (w + 1))
def mn (i j : Int) : Int := if j < i then j else i
/-- how many devices the spur of a place has -/
def spl (L : List Pl) (p : Int) : Nat := ((L[(p - 1).toNat]?).map (·.spur.length)).getD 0
def goes (F : Hows) (G : Stops) (l : Int) (L : List Pl) (step : Int) : Nat → Int → List Spot × List Spot
  | 0, _ => ([], [])
  | m + 1, at_ =>
    if hv F (l, mn at_ (at_ + step), 0) = "cut" then ([], [])
    else if at_ + step < 1 ∨ at_ + step > (L.length : Int) then ([(l, mn at_ (at_ + step), 0)], [])
    else if (l, at_ + step) ∈ G then ((l, mn at_ (at_ + step), 0) :: spurGo F l (at_ + step) (spl L (at_ + step)) 1, (l, at_ + step, 0) :: spurGo F l (at_ + step) (spl L (at_ + step)) 1)
    else ((l, mn at_ (at_ + step), 0) :: (spurGo F l (at_ + step) (spl L (at_ + step)) 1 ++ (goes F G l L step m (at_ + step)).1), ((l, at_ + step, 0) :: spurGo F l (at_ + step) (spl L (at_ + step)) 1) ++ (goes F G l L step m (at_ + step)).2)
def comeTo (F : Hows) (G : Stops) (l : Int) (L : List Pl) (place step : Int) : List Spot × List Spot := goes F G l L step (L.length + 1) place
def stepsM (n : Nat) (p : Int) : List Int := if p = 0 then [1] else if p > (n : Int) then [-1] else [-1, 1]
def isShort (F : Hows) (s : Spot) : Bool := decide (hv F s = "short")
def feelsM (F : Hows) (G : Stops) (L : List Pl) (o : Int × Int) : Bool := (stepsM L.length o.2).any fun st => (comeTo F G o.1 L o.2 st).1.any (isShort F)
def heardM (F : Hows) (G : Stops) (l : Int) (L : List Pl) (e : Str) : List Spot :=
  let place : Int := if e = "B" then (L.length : Int) + 1 else 0
  let step : Int := if e = "B" then -1 else 1
  if (l, place) ∈ G then [] else if (comeTo F G l L place step).1.any (isShort F) then [] else (comeTo F G l L place step).2
/-- a new pair of new lists -/
structure Pr2 (H0 H : Hp) (t : Addr) (a b : List PyData) : Prop where
  ex : ∃ p1 p2, H t = some (.tup [.ref p1, .ref p2]) ∧ p1 ≠ p2 ∧ Gr H0 H p1 a ∧ Gr H0 H p2 b
theorem Gr.other {H0 H : Hp} {p r : Addr} {ds : List PyData} {ys : List V} {o : HO} (g : Gr H0 H p ds) (h : H r = some (.lst ys)) (f : H0 r = none) (ne : p ≠ r) : Gr H0 (upd H r o) p ds :=
  let ⟨xs, hp, rx⟩ := g.ls
  ⟨same_mut g.same f, g.fresh, xs, (upd_ne ne).trans hp, rx.mono (ts_lst h)⟩
/-- a loop of a plan in the heap -/
theorem plan_loop {K : PySem.W.Frag} {H : Hp} {v : V} {Pn : Plan} {i : Nat} {L : List Pl} (h : Tp H (dPlan Pn) v) (e : Pn.loops[i]? = some L) : ∃ (a b c : Addr) (x0 x2 : V) (ls ps : List V), v = .ref a ∧ H a = some (.tup [x0, .ref b, x2]) ∧ H b = some (.tup ls) ∧ ls[i]? = some (.ref c) ∧ H c = some (.tup ps) ∧ TpAll H (L.map dPl) ps := by
  obtain ⟨a, b, x0, x2, ls, rfl, ha, e0, hb, rl, -⟩ := plan_loops h
  obtain ⟨vL, evL, c, ps, rfl, hc, rp⟩ := rl.get (i := i) (d := dLoop L) (by rw [List.getElem?_map, e]; rfl)
  exact ⟨a, b, c, x0, x2, ls, ps, rfl, ha, hb, evL, hc, rp⟩
section
variable {P : Program} {w : World} {K : PySem.W.Frag} {mg : Str → Option Value} {base : Heap} {aK aT : Addr}
abbrev s_spur_come_to : Stmt := top 40
abbrev n_spur_come_to : List Str := ["plan", "hows", "loop", "at", "passed", "spots", "way"]
theorem sc_spur_come_to : FnScope n_spur_come_to ["plan", "hows", "loop", "at"] (defScope s_spur_come_to) := ⟨rfl, rfl, rfl, by decide +kernel, rfl, by decide +kernel, by decide +kernel⟩
abbrev s_come_to : Stmt := top 41
abbrev n_come_to : List Str := ["plan", "hows", "stops", "loop", "place", "step", "many", "passed", "spots", "at", "more", "others"]
theorem sc_come_to : FnScope n_come_to ["plan", "hows", "stops", "loop", "place", "step"] (defScope s_come_to) := ⟨rfl, rfl, rfl, by decide +kernel, rfl, by decide +kernel, by decide +kernel⟩
abbrev s_steps_of : Stmt := top 42
abbrev n_steps_of : List Str := ["plan", "opener", "loop", "place"]
theorem sc_steps_of : FnScope n_steps_of ["plan", "opener"] (defScope s_steps_of) := ⟨rfl, rfl, rfl, by decide +kernel, rfl, by decide +kernel, by decide +kernel⟩
abbrev s_feels : Stmt := top 43
abbrev n_feels : List Str := ["plan", "hows", "stops", "opener", "step", "passed", "spots", "stretch"]
theorem sc_feels : FnScope n_feels ["plan", "hows", "stops", "opener"] (defScope s_feels) := ⟨rfl, rfl, rfl, by decide +kernel, rfl, by decide +kernel, by decide +kernel⟩
abbrev s_heard_by : Stmt := top 44
abbrev n_heard_by : List Str := ["plan", "hows", "stops", "loop", "end", "place", "step", "passed", "spots", "stretch"]
theorem sc_heard_by : FnScope n_heard_by ["plan", "hows", "stops", "loop", "end"] (defScope s_heard_by) := ⟨rfl, rfl, rfl, by decide +kernel, rfl, by decide +kernel, by decide +kernel⟩
/-! ### spur_come_to -/
def sp_spur_come_to : Sp := fun vs H Q _ => ∃ (v : V) (h : Addr) (Pn : Plan) (F : Hows) (i j : Nat) (L : List Pl) (x : Pl), vs = [v, .ref h, .int (i : Nat), .int ((j : Nat) + 1)] ∧ Tp H (dPlan Pn) v ∧ Pn.loops[i]? = some L ∧ L[j]? = some x ∧ x.spur.length ≤ 3 ∧ H h = some (.dT (howD F)) ∧
  ∀ H' t, Same H H' → Pr2 H H' t ((spurGo F (i : Nat) ((j : Nat) + 1) x.spur.length 1).map dSpot) (((((i : Nat) : Int), (j : Int) + 1, (0 : Int)) :: spurGo F (i : Nat) ((j : Nat) + 1) x.spur.length 1).map dSpot) → Q (.ref t) H'
theorem ok_spur_come_to {f : Addr} {fd : FuncData} (F0 : Fun K "spur_come_to" "spur_come_to" s_spur_come_to f fd) (B : Blt mg) : FnOk P w K mg base CX0 1 f fd ["plan", "hows", "loop", "at"] sp_spur_come_to := by
  refine F0.ok sc_spur_come_to (fun vs H Q E h => ?_) (fun cdv A outer s H vs Q E hr h => ?_)
  · obtain ⟨_, _, _, _, _, _, _, _, rfl, _⟩ := h
    rfl
  · obtain ⟨v, h, Pn, F, i, j, L, x, rfl, hvp, eL, ex, S3, hh, q⟩ := h
    have hu := hu1_of hr
    obtain ⟨a, b, c, x0, x2, ls, ps, rfl, ha, hb, ec, hc, rp⟩ := plan_loop (K := K) hvp eL
    obtain ⟨vx, ed, d, _, rfl, hd, _, _, rfl, rfl, _, _, rfl, rfl, _, _, rfl, ⟨e, ss, rfl, he, rs⟩, rfl⟩ := rp.get (i := j) (d := dPl x) (by rw [List.getElem?_map, ex]; rfl)
    have lss : ss.length = x.spur.length := tall_len rs
    have nd := sc_spur_come_to.nd
    refine ⟨_, (pss_cons (ps_set (i := 4) nd rfl (Or.inl rfl) (pe_lst pa_nil))
      (pss_cons (ps_set (i := 5) nd rfl (Or.inl rfl) (pe_lst (pa_cons (pe_tup (pa_cons (pv 2) (pa_cons (pv 3) (pa_cons pe_int pa_nil)))) pa_nil)))
      (pss_cons (ps_for PassesOwn.never rfl (pi_range2 (by rfl) B._range (pa_cons pe_int (pa_cons (pe_op op_add (pe_callB call_len_seq (by rfl) B._len boot_len (pa_cons (pe_ix (r := rIxT K) ix_tup (pe_ix (r := rIxT K) ix_tup (pe_ix (r := rIxT K) ix_tup (pe_ix (r := rIxT K) ix_tup (pv 0) pe_int (fun _ _ => rfl)) (pv 2) (fun _ _ => rfl)) (pe_op op_sub (pv 3) pe_int) (fun _ _ => rfl)) pe_int (fun _ _ => rfl)) pa_nil)) pe_int) pa_nil))) (pg_name (i := 6) nd rfl (Or.inl rfl))
        (pss_cons (ps_if (pt_cmpR op_eq (pe_dget2 hu (pv 1) (pe_tup (pa_cons (pv 2) (pa_cons (pv 3) (pa_cons (pv 6) pa_nil)))) pe_str ⟨rfl, rfl, rfl, rfl⟩) pe_str (nomark _))
          (pss_one ps_break)
          pss_nil)
        (pss_cons (ps_expr (pe_bm PySem.F.plainAttrs_list PySem.F.slot_list_append PySem.F.type_list_append mt_append (pv 4) (pa_cons (pe_tup (pa_cons (pv 2) (pa_cons (pv 3) (pa_cons (pv 6) pa_nil)))) pa_nil)))
        (pss_one (ps_expr (pe_bm PySem.F.plainAttrs_list PySem.F.slot_list_append PySem.F.type_list_append mt_append (pv 5) (pa_cons (pe_tup (pa_cons (pv 2) (pa_cons (pv 3) (pa_cons (pv 6) pa_nil)))) pa_nil)))))))
      (pss_one (ps_ret (pe_tup (pa_cons (pv 4) (pa_cons (pv 5) pa_nil)))))))), ?_⟩
    refine ⟨Nat.zero_le _, fun p1 n1 => ?_⟩
    have s1 := same_new (o := .lst []) n1
    refine ⟨_, rfl, _, rfl, le_line (by show 3 ≤ 1000; decide), fun t0 n0 => ⟨le_line (by show 1 ≤ 1000; decide), fun p2 n2 => ?_⟩⟩
    have s2 := same_new (o := .tup [.int (i : Nat), .int ((j : Nat) + 1), .int 0]) n0
    have s3 := same_new (o := .lst [V.ref t0]) n2
    have s13 := s1.trans (s2.trans s3)
    have n12 : p1 ≠ p2 := ne_of_none ((s2 _ _ (upd_same (H := H) (a := p1) (o := .lst [])))) n2
    have np2 : H p2 = none := s1.free (s2.free n2)
    have g1 : Gr H (upd (upd (upd H p1 (.lst [])) t0 (.tup [.int (i : Nat), .int ((j : Nat) + 1), .int 0])) p2 (.lst [V.ref t0])) p1 (([] : List Spot).map dSpot) := ⟨s13, n1, [], s3 _ _ (s2 _ _ upd_same), ta_nil⟩
    have g2 : Gr H (upd (upd (upd H p1 (.lst [])) t0 (.tup [.int (i : Nat), .int ((j : Nat) + 1), .int 0])) p2 (.lst [V.ref t0])) p2 (([(((i : Nat) : Int), (j : Int) + 1, (0 : Int))] : List Spot).map dSpot) :=
      ⟨s13, np2, _, upd_same, ta_cons (tp_tup (s3 _ _ upd_same) (ta_cons tp_int (ta_cons tp_int (ta_cons tp_int ta_nil)))) ta_nil⟩
    generalize upd (upd (upd H p1 (.lst [])) t0 (.tup [.int (i : Nat), .int ((j : Nat) + 1), .int 0])) p2 (.lst [V.ref t0]) = H1 at g1 g2 ⊢
    have sH1 := g1.same
    refine ⟨_, rfl, a, _, 1, _, rfl, rfl, SqT.of (sH1 _ _ ha), rfl, _, rfl, b, _, (i : Nat), _, rfl, rfl, SqT.of (sH1 _ _ hb), atI_nat ec, _, rfl, _, _, rfl, rfl, c, _, _, _, rfl, rfl, SqT.of (sH1 _ _ hc), by rw [Int.add_sub_cancel]; exact atI_nat ed, d, _, 2, _, rfl, rfl, SqT.of (sH1 _ _ hd), rfl, e, ss, rfl, .inr (SqT.of (sH1 _ _ he)), _, _, rfl, rfl, 1, _, rfl, ⟨by decide, by decide, by omega, by omega⟩, ?_⟩
    -- the end of the loop, however it is come to
    refine for_it walk_range (fun k σ H2 => ∃ y6 xs, σ = [some (.ref a), some (.ref h), some (.int (i : Nat)), some (.int ((j : Nat) + 1)), some (.ref p1), some (.ref p2), y6] ∧ Gr H H2 p1 (xs.map dSpot) ∧ Gr H H2 p2 (((((i : Nat) : Int), (j : Int) + 1, (0 : Int)) :: xs).map dSpot) ∧ xs.length ≤ k ∧
        xs ++ spurGo F (i : Nat) ((j : Nat) + 1) (x.spur.length - k) (k + 1) = spurGo F (i : Nat) ((j : Nat) + 1) x.spur.length 1)
      ⟨_, [], rfl, g1, g2, Nat.le_refl _, rfl⟩ (fun _ _ _ _ _ => trivial) ?_ ?_
    · rintro k y σ _ H2 hk ⟨y6, xs, rfl, g1, g2, lk, eq⟩ ⟨rfl, rfl⟩
      have hk3 : k < x.spur.length := by omega
      refine ⟨_, rfl, h, rfl, .inr ⟨_, .inl (g1.same _ _ hh)⟩, _, rfl, _, rfl, _, rfl, le_line (by show 3 ≤ 1000; decide), fun t nt => ?_⟩
      have st := same_new (o := .tup [.int (i : Nat), .int ((j : Nat) + 1), .int (1 + (k : Nat))]) nt
      have kk : (upd H2 t (.tup [.int (i : Nat), .int ((j : Nat) + 1), .int (1 + (k : Nat))])) t = some (.tup ((spotK (((i : Nat) : Int), (j : Int) + 1, 1 + (k : Int))).map kV)) := upd_same
      refine ⟨_, DGet.t ((g1.keep st).same _ _ hh) kk, ?_⟩
      rw [howD_get]
      refine ⟨rfl, _, rfl, ?_⟩
      have g1 := g1.keep st
      have g2 := g2.keep st
      generalize upd H2 t (.tup [.int (i : Nat), .int ((j : Nat) + 1), .int (1 + (k : Nat))]) = H3 at g1 g2 kk ⊢
      have e1k : ((k + 1 : Nat) : Int) = 1 + (k : Int) := by omega
      have en : x.spur.length - k = (x.spur.length - (k + 1)) + 1 := by omega
      rw [en, spurGo_succ, e1k] at eq
      by_cases hcut : hv F (((i : Nat) : Int), (j : Int) + 1, 1 + (k : Int)) = "cut"
      · rw [decide_eq_true (show V.str (hv F (((i : Nat) : Int), (j : Int) + 1, 1 + (k : Int))) = V.str "cut" from congrArg V.str hcut)]
        rw [if_pos hcut, List.append_nil] at eq
        refine iteT ?_
        refine ⟨_, rfl, _, rfl, le_line (by show 2 ≤ 1000; decide), fun t2 n2 => ?_⟩
        have s4 := same_new (o := .tup [V.ref p1, .ref p2]) n2
        subst eq
        exact q _ t2 (g1.same.trans s4) ⟨p1, p2, upd_same, n12, g1.keep s4, g2.keep s4⟩
      · rw [decide_eq_false (show ¬ V.str (hv F (((i : Nat) : Int), (j : Int) + 1, 1 + (k : Int))) = V.str "cut" from fun z => hcut (V.str.inj z))]
        rw [if_neg hcut] at eq
        refine iteF ?_
        -- passed.append(..); spots.append(..)
        obtain ⟨xs1, hp1, rx1⟩ := g1.ls
        refine ⟨_, rfl, .inl ⟨rfl, _, SqL.of hp1⟩, _, rfl, _, rfl, _, rfl, le_line (by show 3 ≤ 1000; decide), fun t2 n2 => ?_⟩
        have s4 := same_new (o := .tup [.int (i : Nat), .int ((j : Nat) + 1), .int (1 + (k : Nat))]) n2
        refine ⟨p1, _, _, rfl, rfl, s4 _ _ hp1, small_len rx1 (by rw [List.length_map]; omega), ?_⟩
        have g4 : Gr H (upd (upd H3 t2 (.tup [.int (i : Nat), .int ((j : Nat) + 1), .int (1 + (k : Nat))])) p1 (.lst (xs1 ++ [.ref t2]))) p1 ((xs ++ [(((i : Nat) : Int), (j : Int) + 1, 1 + (k : Int))]).map dSpot) := by
          rw [List.map_append]
          exact Gr.app (g1.same.trans s4) g1.fresh (s4 _ _ hp1) (rx1.mono (ts_of s4)) (d := dSpot (((i : Nat) : Int), (j : Int) + 1, 1 + (k : Int))) (tp_tup upd_same (ta_cons tp_int (ta_cons tp_int (ta_cons tp_int ta_nil))))
        have g5 := (g2.keep s4).other (o := .lst (xs1 ++ [.ref t2])) (s4 _ _ hp1) g1.fresh n12.symm
        generalize upd (upd H3 t2 (.tup [.int (i : Nat), .int ((j : Nat) + 1), .int (1 + (k : Nat))])) p1 (.lst (xs1 ++ [.ref t2])) = H4 at g4 g5 ⊢
        obtain ⟨xs2, hp2, rx2⟩ := g5.ls
        refine ⟨_, rfl, .inl ⟨rfl, _, SqL.of hp2⟩, _, rfl, _, rfl, _, rfl, le_line (by show 3 ≤ 1000; decide), fun t3 n3 => ?_⟩
        have s5 := same_new (o := .tup [.int (i : Nat), .int ((j : Nat) + 1), .int (1 + (k : Nat))]) n3
        refine ⟨p2, _, _, rfl, rfl, s5 _ _ hp2, small_len rx2 (by rw [List.length_map, List.length_cons]; omega), ?_⟩
        refine ⟨_, xs ++ [(((i : Nat) : Int), (j : Int) + 1, 1 + (k : Int))], rfl, (g4.keep s5).other (s5 _ _ hp2) g5.fresh n12, ?_, by rw [List.length_append, List.length_singleton]; omega, ?_⟩
        · rw [← List.cons_append, List.map_append]
          exact Gr.app (g5.same.trans s5) g5.fresh (s5 _ _ hp2) (rx2.mono (ts_of s5)) (d := dSpot (((i : Nat) : Int), (j : Int) + 1, 1 + (k : Int))) (tp_tup upd_same (ta_cons tp_int (ta_cons tp_int (ta_cons tp_int ta_nil))))
        · rw [List.append_assoc]
          exact eq
    · rintro σ H2 ⟨y6, xs, rfl, g1, g2, lk, eq⟩
      have e0 : x.spur.length - (((ss.length : Nat) : Int) + 1 - 1).toNat = 0 := by omega
      rw [e0] at eq
      have eq2 : xs = spurGo F (i : Nat) ((j : Nat) + 1) x.spur.length 1 := by
        rw [← eq]
        exact (List.append_nil xs).symm
      subst eq2
      refine ⟨_, rfl, _, rfl, le_line (by show 2 ≤ 1000; decide), fun t2 n2 => ?_⟩
      have s4 := same_new (o := .tup [V.ref p1, .ref p2]) n2
      exact q _ t2 (g1.same.trans s4) ⟨p1, p2, upd_same, n12, g1.keep s4, g2.keep s4⟩
abbrev C_spur_come_to (P : Program) (w : World) (K : PySem.W.Frag) (mg : Str → Option Value) (base : Heap) := Cal P w K mg base 1 "spur_come_to" ["plan", "hows", "loop", "at"] sp_spur_come_to
/-! ### come_to -/
theorem goes_succ (F : Hows) (G : Stops) (l : Int) (L : List Pl) (step : Int) (m : Nat) (at_ : Int) : goes F G l L step (m + 1) at_ =
    if hv F (l, mn at_ (at_ + step), 0) = "cut" then ([], [])
    else if at_ + step < 1 ∨ at_ + step > (L.length : Int) then ([(l, mn at_ (at_ + step), 0)], [])
    else if (l, at_ + step) ∈ G then ((l, mn at_ (at_ + step), 0) :: spurGo F l (at_ + step) (spl L (at_ + step)) 1, (l, at_ + step, 0) :: spurGo F l (at_ + step) (spl L (at_ + step)) 1)
    else ((l, mn at_ (at_ + step), 0) :: (spurGo F l (at_ + step) (spl L (at_ + step)) 1 ++ (goes F G l L step m (at_ + step)).1), ((l, at_ + step, 0) :: spurGo F l (at_ + step) (spl L (at_ + step)) 1) ++ (goes F G l L step m (at_ + step)).2) := rfl
/-- where a walk along a loop may stand, and how many turns are left at the most -/
def OnWay (n : Nat) (step at_ : Int) (m : Nat) : Prop := (step = 1 ∧ 0 ≤ at_ ∧ at_ ≤ n ∧ (n : Int) + 1 - at_ ≤ m) ∨ (step = -1 ∧ 1 ≤ at_ ∧ at_ ≤ n + 1 ∧ at_ ≤ m)
def sp_come_to : Sp := fun vs H Q _ => ∃ (v : V) (h st : Addr) (Pn : Plan) (F : Hows) (G : Stops) (i : Nat) (L : List Pl) (place step : Int), vs = [v, .ref h, .ref st, .int (i : Nat), .int place, .int step] ∧ Tp H (dPlan Pn) v ∧ Bnd Pn.loops ∧ Pn.loops[i]? = some L ∧
  OnWay L.length step place (L.length + 1) ∧ H h = some (.dT (howD F)) ∧ H st = some (.dT (stopD G)) ∧
  ∀ H' t, Same H H' → Pr2 H H' t ((comeTo F G (i : Nat) L place step).1.map dSpot) ((comeTo F G (i : Nat) L place step).2.map dSpot) → (comeTo F G (i : Nat) L place step).1.length ≤ 60 → (comeTo F G (i : Nat) L place step).2.length ≤ 60 → Q (.ref t) H'
theorem ok_come_to {f f1 : Addr} {fd fd1 : FuncData} (F0 : Fun K "come_to" "come_to" s_come_to f fd) (B : Blt mg) (c_spur_come_to : C_spur_come_to P w K mg base f1 fd1) : FnOk P w K mg base CX0 2 f fd ["plan", "hows", "stops", "loop", "place", "step"] sp_come_to := by
  refine F0.ok sc_come_to (fun vs H Q E h => ?_) (fun cdv A outer s H vs Q E hr h => ?_)
  · obtain ⟨_, _, _, _, _, _, _, _, _, _, rfl, _⟩ := h
    rfl
  · obtain ⟨v, h, st, Pn, F, G, i, L, place, step, rfl, hvp, bd, eL, way, hh, hst, q⟩ := h
    have hu := hu1_of hr
    have mL := List.mem_of_getElem? eL
    have L12 := bd.lens L mL
    obtain ⟨a, b, c, x0, x2, ls, ps, rfl, ha, hb, ec, hc, rp⟩ := plan_loop (K := K) hvp eL
    have lp : ps.length = L.length := tall_len rp
    have nd := sc_come_to.nd
    refine ⟨_, (pss_cons (ps_set (i := 6) nd rfl (Or.inl rfl) (pe_callB call_len_seq (by rfl) B._len boot_len (pa_cons (pe_ix (r := rIxT K) ix_tup (pe_ix (r := rIxT K) ix_tup (pv 0) pe_int (fun _ _ => rfl)) (pv 3) (fun _ _ => rfl)) pa_nil)))
      (pss_cons (ps_set (i := 7) nd rfl (Or.inl rfl) (pe_lst pa_nil))
      (pss_cons (ps_set (i := 8) nd rfl (Or.inl rfl) (pe_lst pa_nil))
      (pss_cons (ps_set (i := 9) nd rfl (Or.inl rfl) (pv 4))
      (pss_cons (ps_while PassesOwn.never (pt_cmpR op_ne (pe_dget2 hu (pv 1) (pe_tup (pa_cons (pv 3) (pa_cons (pe_callB (call_min2 rfl) (by rfl) B._min boot_min (pa_cons (pv 9) (pa_cons (pe_op op_add (pv 9) (pv 5)) pa_nil))) (pa_cons pe_int pa_nil)))) pe_str ⟨rfl, rfl, rfl, rfl⟩) pe_str (nomark _))
        (pss_cons (ps_expr (pe_bm PySem.F.plainAttrs_list PySem.F.slot_list_append PySem.F.type_list_append mt_append (pv 7) (pa_cons (pe_tup (pa_cons (pv 3) (pa_cons (pe_callB (call_min2 rfl) (by rfl) B._min boot_min (pa_cons (pv 9) (pa_cons (pe_op op_add (pv 9) (pv 5)) pa_nil))) (pa_cons pe_int pa_nil)))) pa_nil)))
        (pss_cons (ps_set (i := 9) nd rfl (Or.inl rfl) (pe_op op_add (pv 9) (pv 5)))
        (pss_cons (ps_if (PW.pt (pw_or (pt_cmpR op_lt (pv 9) pe_int (nomark _)) (pw_or1 (pt_cmpR op_gt (pv 9) (pv 6) (nomark _)))))
          (pss_one ps_break)
          pss_nil)
        (pss_cons (ps_asg (pe_call c_spur_come_to.F (hr.mono (by decide)) (by rfl) c_spur_come_to.g c_spur_come_to.kp c_spur_come_to.b .nil pass0 (pa_cons (pv 0) (pa_cons (pv 1) (pa_cons (pv 3) (pa_cons (pv 9) pa_nil))))) (pg_tup rfl (pgs_cons (pg_name (i := 10) nd rfl (Or.inl rfl)) (pgs_cons (pg_name (i := 11) nd rfl (Or.inl rfl)) pgs_nil))))
        (pss_cons (ps_expr (pe_bm PySem.F.plainAttrs_list PySem.F.slot_list_extend PySem.F.type_list_extend mt_extend (pv 7) (pa_cons (pv 10) pa_nil)))
        (pss_cons (ps_expr (pe_bm PySem.F.plainAttrs_list PySem.F.slot_list_extend PySem.F.type_list_extend mt_extend (pv 8) (pa_cons (pv 11) pa_nil)))
        (pss_one (ps_if (pt_cmp (pc_din hu (pe_tup (pa_cons (pv 3) (pa_cons (pv 9) pa_nil))) (pv 2)))
          (pss_one ps_break)
          pss_nil)))))))))
      (pss_one (ps_ret (pe_tup (pa_cons (pv 7) (pa_cons (pv 8) pa_nil)))))))))), ?_⟩
    refine ⟨_, rfl, a, _, 1, _, rfl, rfl, SqT.of ha, rfl, _, rfl, b, _, (i : Nat), _, rfl, rfl, SqT.of hb, atI_nat ec, c, ps, rfl, .inr (SqT.of hc), ?_⟩
    refine ⟨Nat.zero_le _, fun p1 n1 => ⟨Nat.zero_le _, fun p2 n2 => ⟨_, rfl, ?_⟩⟩⟩
    have s1 := same_new (o := .lst []) n1
    have s2 := same_new (o := .lst []) n2
    have n12 : p1 ≠ p2 := ne_of_none (upd_same (H := H) (a := p1) (o := .lst [])) n2
    have g1 : Gr H (upd (upd H p1 (.lst [])) p2 (.lst [])) p1 (([] : List Spot).map dSpot) := ⟨s1.trans s2, n1, [], s2 _ _ upd_same, ta_nil⟩
    have g2 : Gr H (upd (upd H p1 (.lst [])) p2 (.lst [])) p2 (([] : List Spot).map dSpot) := ⟨s1.trans s2, s1.free n2, [], upd_same, ta_nil⟩
    generalize upd (upd H p1 (.lst [])) p2 (.lst []) = H1 at g1 g2 ⊢
    -- the end: (passed, spots)
    have fin : ∀ (H2 : Hp) (xs ys : List Spot), Gr H H2 p1 (xs.map dSpot) → Gr H H2 p2 (ys.map dSpot) → (xs, ys) = comeTo F G (i : Nat) L place step → xs.length ≤ 60 → ys.length ≤ 60 →
        ∀ t, H2 t = none → Q (.ref t) (upd H2 t (.tup [V.ref p1, .ref p2])) := by
      intro H2 xs ys g1 g2 e l1 l2 t nt
      have s4 := same_new (o := .tup [V.ref p1, .ref p2]) nt
      have e1 : xs = (comeTo F G (i : Nat) L place step).1 := congrArg Prod.fst e
      have e2 : ys = (comeTo F G (i : Nat) L place step).2 := congrArg Prod.snd e
      subst e1 e2
      exact q _ t (g1.same.trans s4) ⟨p1, p2, upd_same, n12, g1.keep s4, g2.keep s4⟩ l1 l2
    refine ⟨fun m σ H2 => ∃ (at_ : Int) (y10 y11 : Option V) (xs ys : List Spot), σ = [some (.ref a), some (.ref h), some (.ref st), some (.int (i : Nat)), some (.int place), some (.int step), some (.int ps.length), some (.ref p1), some (.ref p2), some (.int at_), y10, y11] ∧
        Gr H H2 p1 (xs.map dSpot) ∧ Gr H H2 p2 (ys.map dSpot) ∧ OnWay L.length step at_ m ∧ m ≤ L.length + 1 ∧ xs.length + 4 * m ≤ 4 * (L.length + 1) ∧ ys.length + 4 * m ≤ 4 * (L.length + 1) ∧
        (xs ++ (goes F G (i : Nat) L step m at_).1, ys ++ (goes F G (i : Nat) L step m at_).2) = comeTo F G (i : Nat) L place step,
      ⟨L.length + 1, place, none, none, [], [], rfl, g1, g2, way, Nat.le_refl _, by simp, by simp, rfl⟩, ?_⟩
    rintro m σ H2 ⟨at_, y10, y11, xs, ys, rfl, g1, g2, way, lm, lx, ly, eq⟩
    obtain ⟨m, rfl⟩ : ∃ m', m = m' + 1 := by
      cases m with
      | zero => exfalso; rcases way with ⟨_, h1, h2, h3⟩ | ⟨_, h1, h2, h3⟩ <;> omega
      | succ m => exact ⟨m, rfl⟩
    -- while hows.get((loop, min(at, at + step), 0), "") != "cut"
    refine ⟨_, rfl, h, rfl, .inr ⟨_, .inl (g1.same _ _ hh)⟩, _, rfl, _, rfl, _, rfl, _, rfl, _, _, rfl, rfl, _, _, rfl, le_line (by show 3 ≤ 1000; decide), fun t nt => ?_⟩
    rw [show (if at_ + step < at_ then at_ + step else at_) = mn at_ (at_ + step) from rfl]
    have sT := same_new (o := .tup [.int (i : Nat), .int (mn at_ (at_ + step)), .int 0]) nt
    have kk : (upd H2 t (.tup [.int (i : Nat), .int (mn at_ (at_ + step)), .int 0])) t = some (.tup ((spotK (((i : Nat) : Int), mn at_ (at_ + step), (0 : Int))).map kV)) := upd_same
    refine ⟨_, DGet.t ((g1.keep sT).same _ _ hh) kk, ?_⟩
    rw [howD_get]
    refine ⟨rfl, _, rfl, ?_⟩
    have g1 := g1.keep sT
    have g2 := g2.keep sT
    generalize upd H2 t (.tup [.int (i : Nat), .int (mn at_ (at_ + step)), .int 0]) = H3 at g1 g2 kk ⊢
    rw [goes_succ] at eq
    by_cases hcut : hv F (((i : Nat) : Int), mn at_ (at_ + step), (0 : Int)) = "cut"
    · rw [if_pos hcut, List.append_nil, List.append_nil] at eq
      rw [decide_eq_true (show V.str (hv F (((i : Nat) : Int), mn at_ (at_ + step), (0 : Int))) = V.str "cut" from congrArg V.str hcut)]
      refine iteF ?_
      exact ⟨_, rfl, _, rfl, le_line (by show 2 ≤ 1000; decide), fin H3 xs ys g1 g2 eq (by omega) (by omega)⟩
    rw [if_neg hcut] at eq
    rw [decide_eq_false (show ¬ V.str (hv F (((i : Nat) : Int), mn at_ (at_ + step), (0 : Int))) = V.str "cut" from fun z => hcut (V.str.inj z))]
    refine iteT ⟨_, fun _ _ n => ⟨m, Nat.lt_succ_self m, n⟩, ?_⟩
    -- passed.append((loop, min(at, at + step), 0))
    obtain ⟨xs1, hp1, rx1⟩ := g1.ls
    refine ⟨_, rfl, .inl ⟨rfl, _, SqL.of hp1⟩, _, rfl, _, rfl, _, rfl, _, rfl, _, _, rfl, rfl, _, _, rfl, le_line (by show 3 ≤ 1000; decide), fun t2 nt2 => ?_⟩
    rw [show (if at_ + step < at_ then at_ + step else at_) = mn at_ (at_ + step) from rfl]
    have s4 := same_new (o := .tup [.int (i : Nat), .int (mn at_ (at_ + step)), .int 0]) nt2
    refine ⟨p1, _, _, rfl, rfl, s4 _ _ hp1, small_len rx1 (by rw [List.length_map]; omega), ?_⟩
    have g4 : Gr H (upd (upd H3 t2 (.tup [.int (i : Nat), .int (mn at_ (at_ + step)), .int 0])) p1 (.lst (xs1 ++ [.ref t2]))) p1 ((xs ++ [(((i : Nat) : Int), mn at_ (at_ + step), (0 : Int))]).map dSpot) := by
      rw [List.map_append]
      exact Gr.app (g1.same.trans s4) g1.fresh (s4 _ _ hp1) (rx1.mono (ts_of s4)) (d := dSpot (((i : Nat) : Int), mn at_ (at_ + step), (0 : Int))) (tp_tup upd_same (ta_cons tp_int (ta_cons tp_int (ta_cons tp_int ta_nil))))
    have g5 := (g2.keep s4).other (o := .lst (xs1 ++ [.ref t2])) (s4 _ _ hp1) g1.fresh n12.symm
    generalize upd (upd H3 t2 (.tup [.int (i : Nat), .int (mn at_ (at_ + step)), .int 0])) p1 (.lst (xs1 ++ [.ref t2])) = H4 at g4 g5 ⊢
    -- at = at + step; if at < 1 or at > many: break
    refine ⟨_, rfl, _, rfl, _, _, rfl, rfl, ?_⟩
    refine ⟨_, rfl, _, _, rfl, rfl, _, rfl, ?_⟩
    by_cases hb : at_ + step < 1 ∨ at_ + step > (L.length : Int)
    · rw [if_pos hb] at eq
      have brk := fin H4 (xs ++ [(((i : Nat) : Int), mn at_ (at_ + step), (0 : Int))]) ys g4 g5 (by rw [← eq, List.append_nil]) (by rw [List.length_append, List.length_singleton]; omega) (by omega)
      by_cases hb1 : at_ + step < 1
      · rw [decide_eq_true hb1]
        refine iteT (iteT ?_)
        exact ⟨_, rfl, _, rfl, le_line (by show 2 ≤ 1000; decide), brk⟩
      · rw [decide_eq_false hb1]
        refine iteF ?_
        have hb2 : (ps.length : Int) < at_ + step := by omega
        refine ⟨_, rfl, _, rfl, _, _, rfl, rfl, true, congrArg V.bl (decide_eq_true hb2), iteT ?_⟩
        exact ⟨_, rfl, _, rfl, le_line (by show 2 ≤ 1000; decide), brk⟩
    rw [if_neg hb] at eq
    rw [decide_eq_false (fun z => hb (.inl z))]
    refine iteF ?_
    refine ⟨_, rfl, _, rfl, _, _, rfl, rfl, false, congrArg V.bl (decide_eq_false (by omega)), iteF ?_⟩
    -- more, others = spur_come_to(plan, hows, loop, at)
    obtain ⟨j, ej⟩ : ∃ j : Nat, at_ + step = (j : Int) + 1 := ⟨(at_ + step - 1).toNat, by omega⟩
    have hj : j < L.length := by omega
    have ex : L[j]? = some L[j] := List.getElem?_eq_getElem hj
    have mx : L[j] ∈ L := List.getElem_mem _
    have espl : spl L (at_ + step) = L[j].spur.length := by
      unfold spl
      rw [ej, Int.add_sub_cancel, Int.toNat_natCast, ex]
      rfl
    have S3 := bd.spur L mL _ mx
    refine ⟨_, rfl, _, rfl, _, rfl, _, rfl, _, h, Pn, F, i, j, L, L[j], by show [V.ref a, V.ref h, V.int (i : Nat), V.int (at_ + step)] = _; rw [ej], hvp.mono (ts_of g4.same), eL, ex, S3, g4.same _ _ hh, fun H5 t3 s5 pr => ?_⟩
    rw [← ej, ← espl] at pr
    rw [← espl] at S3
    have l3 := spurGo_len F (i : Nat) (at_ + step) (spl L (at_ + step)) 1
    obtain ⟨q1, q2, ht3, nq, gq1, gq2⟩ := pr
    refine ⟨t3, _, rfl, SqT.of ht3, rfl, _, _, rfl, _, _, rfl, rfl, ?_⟩
    have g6 := g4.keep s5
    have g7 := g5.keep s5
    generalize spurGo F (i : Nat) (at_ + step) (spl L (at_ + step)) 1 = sp at eq gq1 gq2 l3
    -- passed.extend(more)
    obtain ⟨xs6, hp6, rx6⟩ := g6.ls
    obtain ⟨zs1, hz1, rz1⟩ := gq1.ls
    have lx6 : xs6.length = xs.length + 1 := by rw [rx6.length, List.length_map, List.length_append, List.length_singleton]
    have lz1 : zs1.length = sp.length := by rw [rz1.length, List.length_map]
    refine ⟨_, rfl, .inl ⟨rfl, _, SqL.of hp6⟩, _, rfl, p1, q1, xs6, zs1, rfl, rfl, hp6, hz1, le_line (by omega), ?_⟩
    have n1q2 : q2 ≠ p1 := fun z => by
      obtain ⟨xs4, hp4, _⟩ := g4.ls
      rw [← z, gq2.fresh] at hp4
      cases hp4
    have n2q2 : q2 ≠ p2 := fun z => by
      obtain ⟨xs4, hp4, _⟩ := g5.ls
      rw [← z, gq2.fresh] at hp4
      cases hp4
    have g8 : Gr H (upd H5 p1 (.lst (xs6 ++ zs1))) p1 ((xs ++ [(((i : Nat) : Int), mn at_ (at_ + step), (0 : Int))] ++ sp).map dSpot) := by
      rw [List.map_append (l₁ := xs ++ _)]
      exact Gr.ext g6.same g6.fresh hp6 rx6 rz1
    have g9 := g7.other (o := .lst (xs6 ++ zs1)) hp6 g6.fresh n12.symm
    obtain ⟨zs2, hz2, rz2⟩ := gq2.ls
    have hz2' : (upd H5 p1 (.lst (xs6 ++ zs1))) q2 = some (.lst zs2) := (upd_ne n1q2).trans hz2
    have rz2' := rz2.mono (ts_lst (o := .lst (xs6 ++ zs1)) hp6)
    have lz2 : zs2.length = sp.length + 1 := by rw [rz2.length, List.length_map, List.length_cons]
    generalize upd H5 p1 (.lst (xs6 ++ zs1)) = H6 at g8 g9 hz2' rz2' ⊢
    -- spots.extend(others)
    obtain ⟨ys6, hp9, ry6⟩ := g9.ls
    have ly6 : ys6.length = ys.length := by rw [ry6.length, List.length_map]
    refine ⟨_, rfl, .inl ⟨rfl, _, SqL.of hp9⟩, _, rfl, p2, q2, ys6, zs2, rfl, rfl, hp9, hz2', le_line (by omega), ?_⟩
    have g10 : Gr H (upd H6 p2 (.lst (ys6 ++ zs2))) p2 ((ys ++ ((((i : Nat) : Int), at_ + step, (0 : Int)) :: sp)).map dSpot) := by
      rw [List.map_append]
      exact Gr.ext g9.same g9.fresh hp9 ry6 rz2'
    have g11 := g8.other (o := .lst (ys6 ++ zs2)) hp9 g9.fresh n12
    generalize upd H6 p2 (.lst (ys6 ++ zs2)) = H7 at g10 g11 ⊢
    -- if (loop, at) in stops: break
    refine ⟨_, rfl, _, rfl, le_line (by show 2 ≤ 1000; decide), fun t5 nt5 => ?_⟩
    have s7 := same_new (o := .tup [.int (i : Nat), .int (at_ + step)]) nt5
    have kk5 : (upd H7 t5 (.tup [.int (i : Nat), .int (at_ + step)])) t5 = some (.tup ((opK (((i : Nat) : Int), at_ + step)).map kV)) := upd_same
    refine ⟨_, rfl, st, _, rfl, DGet.t ((g11.keep s7).same _ _ hst) kk5, _, rfl, ?_⟩
    have g12 := g10.keep s7
    have g13 := g11.keep s7
    generalize upd H7 t5 (.tup [.int (i : Nat), .int (at_ + step)]) = H8 at g12 g13 ⊢
    rw [stopD_val]
    have lxs : (xs ++ [(((i : Nat) : Int), mn at_ (at_ + step), (0 : Int))] ++ sp).length ≤ xs.length + 4 := by rw [List.length_append, List.length_append, List.length_singleton]; omega
    have lys : (ys ++ ((((i : Nat) : Int), at_ + step, (0 : Int)) :: sp)).length ≤ ys.length + 4 := by rw [List.length_append, List.length_cons]; omega
    by_cases hG : (((i : Nat) : Int), at_ + step) ∈ G
    · rw [if_pos hG] at eq ⊢
      refine iteT ?_
      exact ⟨_, rfl, _, rfl, le_line (by show 2 ≤ 1000; decide), fin H8 _ _ g13 g12 (by rw [← eq, List.append_assoc]; rfl) (by omega) (by omega)⟩
    · rw [if_neg hG] at eq ⊢
      refine iteF ?_
      refine ⟨at_ + step, _, _, _, _, rfl, g13, g12, ?_, by omega, by omega, by omega, ?_⟩
      · rcases way with ⟨h1, h2, h3, h4⟩ | ⟨h1, h2, h3, h4⟩
        · refine .inl ⟨h1, ?_, ?_, ?_⟩ <;> omega
        · refine .inr ⟨h1, ?_, ?_, ?_⟩ <;> omega
      · refine Eq.trans (Prod.ext ?_ ?_) eq
        · simp only [List.append_assoc, List.cons_append, List.nil_append]
        · simp only [List.append_assoc, List.cons_append, List.nil_append]
abbrev C_come_to (P : Program) (w : World) (K : PySem.W.Frag) (mg : Str → Option Value) (base : Heap) := Cal P w K mg base 2 "come_to" ["plan", "hows", "stops", "loop", "place", "step"] sp_come_to
/-! ### steps_of -/
def sp_steps_of : Sp := fun vs H Q _ => ∃ (v : V) (u : V) (Pn : Plan) (i : Nat) (L : List Pl) (p : Int), vs = [v, u] ∧ Tp H (dPlan Pn) v ∧ Pn.loops[i]? = some L ∧ Tp H (dOp (((i : Nat) : Int), p)) u ∧
  ∀ t, H t = none → Q (.ref t) (upd H t (.lst ((stepsM L.length p).map V.int)))
theorem ok_steps_of {f : Addr} {fd : FuncData} (F0 : Fun K "steps_of" "steps_of" s_steps_of f fd) (B : Blt mg) : FnOk P w K mg base CX0 1 f fd ["plan", "opener"] sp_steps_of := by
  refine F0.ok sc_steps_of (fun vs H Q E h => ?_) (fun cdv A outer s H vs Q E hr h => ?_)
  · obtain ⟨_, _, _, _, _, _, rfl, _⟩ := h
    rfl
  · obtain ⟨v, u, Pn, i, L, p, rfl, hvp, eL, hu, q⟩ := h
    obtain ⟨a, b, c, x0, x2, ls, ps, rfl, ha, hb, ec, hc, rp⟩ := plan_loop (K := K) hvp eL
    have lp : ps.length = L.length := tall_len rp
    obtain ⟨t, _, rfl, ht, _, _, rfl, rfl, _, _, rfl, rfl, rfl⟩ := hu
    have nd := sc_steps_of.nd
    refine ⟨_, (pss_cons (ps_asg (pv 1) (pg_tup rfl (pgs_cons (pg_name (i := 2) nd rfl (Or.inl rfl)) (pgs_cons (pg_name (i := 3) nd rfl (Or.inl rfl)) pgs_nil))))
      (pss_cons (ps_if (pt_cmpR op_eq (pv 3) pe_int (nomark _))
        (pss_one (ps_ret (pe_lst (pa_cons pe_int pa_nil))))
        pss_nil)
      (pss_cons (ps_if (pt_cmpR op_gt (pv 3) (pe_callB call_len_seq (by rfl) B._len boot_len (pa_cons (pe_ix (r := rIxT K) ix_tup (pe_ix (r := rIxT K) ix_tup (pv 0) pe_int (fun _ _ => rfl)) (pv 2) (fun _ _ => rfl)) pa_nil)) (nomark _))
        (pss_one (ps_ret (pe_lst (pa_cons (pe_un un_neg pe_int) pa_nil))))
        pss_nil)
      (pss_one (ps_ret (pe_lst (pa_cons (pe_un un_neg pe_int) (pa_cons pe_int pa_nil)))))))), ?_⟩
    refine ⟨_, rfl, t, _, rfl, SqT.of ht, rfl, _, _, rfl, _, _, rfl, rfl, ?_⟩
    refine ⟨_, rfl, rfl, _, rfl, ?_⟩
    unfold stepsM at q
    by_cases h0 : p = 0
    · rw [if_pos h0] at q
      rw [decide_eq_true (show V.int p = V.int 0 from congrArg V.int h0)]
      refine iteT ?_
      exact ⟨le_line (by show 1 ≤ 1000; decide), q⟩
    · rw [if_neg h0] at q
      rw [decide_eq_false (show ¬ V.int p = V.int 0 from fun z => h0 (V.int.inj z))]
      refine iteF ?_
      refine ⟨_, rfl, _, rfl, a, _, 1, _, rfl, rfl, SqT.of ha, rfl, _, rfl, b, _, (i : Nat), _, rfl, rfl, SqT.of hb, atI_nat ec, c, ps, rfl, .inr (SqT.of hc), _, _, rfl, rfl, _, rfl, ?_⟩
      rw [lp]
      by_cases h1 : p > (L.length : Int)
      · rw [if_pos h1] at q
        rw [decide_eq_true (show (L.length : Int) < p from h1)]
        refine iteT ?_
        exact ⟨_, rfl, le_line (by show 1 ≤ 1000; decide), q⟩
      · rw [if_neg h1] at q
        rw [decide_eq_false (show ¬ (L.length : Int) < p from h1)]
        refine iteF ?_
        exact ⟨_, rfl, le_line (by show 2 ≤ 1000; decide), q⟩
abbrev C_steps_of (P : Program) (w : World) (K : PySem.W.Frag) (mg : Str → Option Value) (base : Heap) := Cal P w K mg base 1 "steps_of" ["plan", "opener"] sp_steps_of
/-! ### feels -/
/-- any([hows.get(s, "") == "short" for s in passed]) -/
theorem lc_short {K : PySem.W.Frag} {h p : Addr} {F : Hows} {xs : List V} {ss : List Spot} {j jh : Nat} {vs : List Nat} {σ : L2.St} {H1 : Hp} {D : Addr} {Qd : Hp → Prop} (hh : H1 h = some (.dT (howD F))) (hp : H1 p = some (.lst xs)) (rx : TpAll H1 (ss.map dSpot) xs) (nD : H1 D = none) (hl : ss.length ≤ 60)
    (hσ : ∀ x : V, wipe ((wipe σ vs).set j (some x)) vs = wipe σ vs ∧ ((wipe σ vs).set j (some x))[jh]? = some (some (.ref h)) ∧ ((wipe σ vs).set j (some x))[j]? = some (some x))
    (fin : ∀ H2, Same H1 H2 → H2 D = some (.lst ((ss.map (isShort F)).map V.bl)) → Qd H2) :
    ∃ W : Nat → Nat → Hp → Prop, (∃ m, W 0 m (upd H1 D (.lst []))) ∧ ∀ i m H, W i m H →
      ((Itl K p).stop i H ∧ Qd H) ∨ ((Itl K p).go i H ∧ ∃ Nx : Hp → Prop, (∀ H', Nx H' → ∃ m', m' < m ∧ W (i + 1) m' H') ∧ ∀ x H', (Itl K p).yld i H x H' → gName j x (wipe σ vs) H' fun σ2 H2 => wipe σ2 vs = wipe σ vs ∧ tYes σ2 H2 fun b H3 =>
        if b = true then tOp rEq (tDGet2 (tVar jh) (tVar j) (tC (V.str ""))) (tC (V.str "short")) σ2 H3 fun y H4 => ∃ acc, H4 D = some (.lst acc) ∧ acc.length < sizeLine ∧ Nx (upd H4 D (.lst (acc ++ [y]))) else Nx H3) := by
  have lx : xs.length = ss.length := tall_len rx
  refine lc_it (walk_list (xs := xs)) (fun i H2 => Same H1 H2 ∧ H2 D = some (.lst (((ss.take i).map (isShort F)).map V.bl))) ⟨same_new nD, upd_same⟩ (fun i H2 _ p2 => SqL.of (p2.1 _ _ hp)) ?_ ?_
  · rintro i x _ H2 hi ⟨s2, e2⟩ ⟨rfl, hx⟩
    obtain ⟨sp, es, ts⟩ := tall_map rx hx
    obtain ⟨t, rfl, ht⟩ := spot_key (ts.mono (ts_of s2))
    obtain ⟨w1, w2, w3⟩ := hσ (.ref t)
    refine ⟨w1, _, w2, h, rfl, .inr ⟨_, .inl (s2 _ _ hh)⟩, _, w3, _, DGet.t (s2 _ _ hh) ht, ?_⟩
    rw [howD_get]
    refine ⟨rfl, _, e2, ?_, same_mut s2 nD, ?_⟩
    · rw [List.length_map, List.length_map, List.length_take]
      exact small1000 (by omega)
    · rw [upd_same, take_snoc es, List.map_append, List.map_append]
      have e : decide (V.str (hv F sp) = V.str "short") = isShort F sp := by
        unfold isShort
        by_cases z : hv F sp = "short"
        · rw [decide_eq_true z, decide_eq_true (congrArg V.str z)]
        · rw [decide_eq_false z, decide_eq_false fun q => z (V.str.inj q)]
      rw [e]
      rfl
  · rintro H2 ⟨s2, e2⟩
    rw [lx, List.take_length] at e2
    exact fin H2 s2 e2
theorem any_map {α : Type} (f : α → Bool) (l : List α) : (l.map f).any id = l.any f := by
  induction l with
  | nil => rfl
  | cons x l ih => rw [List.map_cons, List.any_cons, List.any_cons, ih]; rfl
def sp_feels : Sp := fun vs H Q _ => ∃ (v : V) (h st : Addr) (u : V) (Pn : Plan) (F : Hows) (G : Stops) (i : Nat) (L : List Pl) (p : Int), vs = [v, .ref h, .ref st, u] ∧ Tp H (dPlan Pn) v ∧ Bnd Pn.loops ∧ Pn.loops[i]? = some L ∧ Tp H (dOp (((i : Nat) : Int), p)) u ∧
  0 ≤ p ∧ p ≤ (L.length : Int) + 1 ∧ H h = some (.dT (howD F)) ∧ H st = some (.dT (stopD G)) ∧ ∀ H', Same H H' → Q (.bl (feelsM F G L (((i : Nat) : Int), p))) H'
theorem ok_feels {f f1 f2 : Addr} {fd fd1 fd2 : FuncData} (F0 : Fun K "feels" "feels" s_feels f fd) (B : Blt mg) (c_steps_of : C_steps_of P w K mg base f1 fd1) (c_come_to : C_come_to P w K mg base f2 fd2) : FnOk P w K mg base CX0 3 f fd ["plan", "hows", "stops", "opener"] sp_feels := by
  refine F0.ok sc_feels (fun vs H Q E h => ?_) (fun cdv A outer s H vs Q E hr h => ?_)
  · obtain ⟨_, _, _, _, _, _, _, _, _, _, rfl, _⟩ := h
    rfl
  · obtain ⟨v, h, st, u, Pn, F, G, i, L, p, rfl, hvp, bd, eL, hop, hp0, hp1, hh, hst, q⟩ := h
    have hu := hu1_of hr
    have nd := sc_feels.nd
    refine ⟨_, (pss_cons (ps_for PassesOwn.never rfl (pi_list (pe_call c_steps_of.F (hr.mono (by decide)) (by rfl) c_steps_of.g c_steps_of.kp c_steps_of.b .nil pass0 (pa_cons (pv 0) (pa_cons (pv 3) pa_nil)))) (pg_name (i := 4) nd rfl (Or.inl rfl))
        (pss_cons (ps_asg (pe_call c_come_to.F (hr.mono (by decide)) (by rfl) c_come_to.g c_come_to.kp c_come_to.b .nil pass0 (pa_cons (pv 0) (pa_cons (pv 1) (pa_cons (pv 2) (pa_cons (pe_ix (r := rIxT K) ix_tup (pv 3) pe_int (fun _ _ => rfl)) (pa_cons (pe_ix (r := rIxT K) ix_tup (pv 3) pe_int (fun _ _ => rfl)) (pa_cons (pv 4) pa_nil))))))) (pg_tup rfl (pgs_cons (pg_name (i := 5) nd rfl (Or.inl rfl)) (pgs_cons (pg_name (i := 6) nd rfl (Or.inl rfl)) pgs_nil))))
        (pss_one (ps_if (pt_val (pe_callB (cr_any rfl) (by rfl) B._any boot_any (pa_cons (pe_lc (own := [("stretch", 7)]) rfl nd (pi_list (pv 5)) (blkOk_by (own := [("stretch", 7)]) (N := n_feels) (sc := defScope s_feels) (by decide +kernel)) (fun _ _ _ _ _ => (pg_name (i := 7) nd rfl (Or.inl rfl))) (fun _ _ _ _ _ => pts_nil) (fun _ _ _ _ _ => (pe_cmpR op_eq (pe_dget2 hu (pv 1) (pv 7) pe_str ⟨rfl, rfl, rfl, rfl⟩) pe_str (nomark _)))) pa_nil)))
          (pss_one (ps_ret pe_bl))
          pss_nil))))
      (pss_one (ps_ret pe_bl))), ?_⟩
    refine ⟨_, rfl, _, rfl, v, u, Pn, i, L, p, rfl, hvp, eL, hop, fun t nt => ?_⟩
    have s1 := same_new (o := .lst ((stepsM L.length p).map V.int)) nt
    have ht : (upd H t (.lst ((stepsM L.length p).map V.int))) t = some (.lst ((stepsM L.length p).map V.int)) := upd_same
    refine ⟨t, rfl, ⟨_, SqL.of ht⟩, for_it (walk_list (xs := (stepsM L.length p).map V.int)) (fun k σ H2 => ∃ y4 y5 y6 y7, σ = [some v, some (.ref h), some (.ref st), some u, y4, y5, y6, y7] ∧ Same (upd H t (.lst ((stepsM L.length p).map V.int))) H2 ∧
        ((stepsM L.length p).take k).any (fun s => (comeTo F G (i : Nat) L p s).1.any (isShort F)) = false) ⟨_, _, _, _, rfl, Same.refl _, rfl⟩ (fun k σ H2 _ ⟨_, _, _, _, _, s2, _⟩ => SqL.of (s2 _ _ ht)) ?_ ?_⟩
    · rintro k x σ _ H2 hk ⟨y4, y5, y6, y7, rfl, s2, no⟩ ⟨rfl, hx⟩
      have hx' : ((stepsM L.length p).map V.int)[k]? = some x := hx
      rw [List.getElem?_map] at hx'
      obtain ⟨sg, esg, rfl⟩ := Option.map_eq_some_iff.mp hx'
      have msg := List.mem_of_getElem? esg
      have way : OnWay L.length sg p (L.length + 1) := by
        unfold stepsM at msg
        by_cases h0 : p = 0
        · rw [if_pos h0] at msg
          have e : sg = 1 := by simpa using msg
          exact .inl ⟨e, by omega, by omega, by omega⟩
        · rw [if_neg h0] at msg
          by_cases h1 : p > (L.length : Int)
          · rw [if_pos h1] at msg
            have e : sg = -1 := by simpa using msg
            exact .inr ⟨e, by omega, by omega, by omega⟩
          · rw [if_neg h1] at msg
            have e : sg = -1 ∨ sg = 1 := by simpa using msg
            rcases e with e | e
            · exact .inr ⟨e, by omega, by omega, by omega⟩
            · exact .inl ⟨e, by omega, by omega, by omega⟩
      have sH2 := s1.trans s2
      obtain ⟨tu, _, rfl, hu2, _, _, rfl, rfl, _, _, rfl, rfl, rfl⟩ := hop.mono (ts_of sH2)
      refine ⟨_, rfl, _, rfl, _, rfl, _, rfl, tu, _, 0, _, rfl, rfl, SqT.of hu2, rfl, _, rfl, tu, _, 1, _, rfl, rfl, SqT.of hu2, rfl, _, rfl, v, h, st, Pn, F, G, i, L, p, sg, rfl, hvp.mono (ts_of sH2), bd, eL, way, sH2 _ _ hh, sH2 _ _ hst, fun H3 t3 s3 pr l1 l2 => ?_⟩
      obtain ⟨q1, q2, ht3, nq, gq1, gq2⟩ := pr
      refine ⟨t3, _, rfl, SqT.of ht3, rfl, _, _, rfl, _, _, rfl, rfl, ?_⟩
      obtain ⟨xs, hq1, rq1⟩ := gq1.ls
      refine ⟨_, rfl, q1, rfl, ⟨xs, SqL.of hq1⟩, fun D nD => ?_⟩
      refine lc_short (F := F) (ss := (comeTo F G (i : Nat) L p sg).1) (s3 _ _ (sH2 _ _ hh)) hq1 rq1 nD l1 (fun x => ⟨rfl, rfl, rfl⟩) fun H4 s4 e4 => ?_
      refine ⟨D, _, rfl, SqL.of e4, ?_⟩
      rw [any_map]
      cases hs : (comeTo F G (i : Nat) L p sg).1.any (isShort F) with
      | true =>
        refine ⟨true, rfl, iteT ?_⟩
        have e : feelsM F G L (((i : Nat) : Int), p) = true := List.any_eq_true.mpr ⟨sg, msg, hs⟩
        have z := q H4 (sH2.trans (s3.trans s4))
        rw [e] at z
        exact z
      | false =>
        refine ⟨false, rfl, iteF ?_⟩
        refine ⟨_, _, _, _, rfl, s2.trans (s3.trans s4), ?_⟩
        rw [take_snoc esg, List.any_append, no, List.any_cons, hs]
        rfl
    · rintro σ H2 ⟨_, _, _, _, rfl, s2, no⟩
      rw [List.length_map, List.take_length] at no
      have e : feelsM F G L (((i : Nat) : Int), p) = false := no
      have z := q H2 (s1.trans s2)
      rw [e] at z
      exact z
abbrev C_feels (P : Program) (w : World) (K : PySem.W.Frag) (mg : Str → Option Value) (base : Heap) := Cal P w K mg base 3 "feels" ["plan", "hows", "stops", "opener"] sp_feels
/-! ### heard_by -/
def sp_heard_by : Sp := fun vs H Q _ => ∃ (v : V) (h st : Addr) (Pn : Plan) (F : Hows) (G : Stops) (i : Nat) (L : List Pl) (e : Str), vs = [v, .ref h, .ref st, .int (i : Nat), .str e] ∧ Tp H (dPlan Pn) v ∧ Bnd Pn.loops ∧ Pn.loops[i]? = some L ∧
  H h = some (.dT (howD F)) ∧ H st = some (.dT (stopD G)) ∧ ∀ H' p, Gr H H' p ((heardM F G (i : Nat) L e).map dSpot) → (heardM F G (i : Nat) L e).length ≤ 60 → Q (.ref p) H'
theorem ok_heard_by {f f1 : Addr} {fd fd1 : FuncData} (F0 : Fun K "heard_by" "heard_by" s_heard_by f fd) (B : Blt mg) (c_come_to : C_come_to P w K mg base f1 fd1) : FnOk P w K mg base CX0 3 f fd ["plan", "hows", "stops", "loop", "end"] sp_heard_by := by
  refine F0.ok sc_heard_by (fun vs H Q E h => ?_) (fun cdv A outer s H vs Q E hr h => ?_)
  · obtain ⟨_, _, _, _, _, _, _, _, _, rfl, _⟩ := h
    rfl
  · obtain ⟨v, h, st, Pn, F, G, i, L, e, rfl, hvp, bd, eL, hh, hst, q⟩ := h
    have hu := hu1_of hr
    obtain ⟨a, b, c, x0, x2, ls, ps, rfl, ha, hb, ec, hc, rp⟩ := plan_loop (K := K) hvp eL
    have lp : ps.length = L.length := tall_len rp
    have nd := sc_heard_by.nd
    refine ⟨_, (pss_cons (ps_set (i := 5) nd rfl (Or.inl rfl) pe_int)
      (pss_cons (ps_set (i := 6) nd rfl (Or.inl rfl) pe_int)
      (pss_cons (ps_if (pt_cmpR op_eq (pv 4) pe_str (nomark _))
        (pss_cons (ps_set (i := 5) nd rfl (Or.inl rfl) (pe_op op_add (pe_callB call_len_seq (by rfl) B._len boot_len (pa_cons (pe_ix (r := rIxT K) ix_tup (pe_ix (r := rIxT K) ix_tup (pv 0) pe_int (fun _ _ => rfl)) (pv 3) (fun _ _ => rfl)) pa_nil)) pe_int))
        (pss_one (ps_set (i := 6) nd rfl (Or.inl rfl) (pe_un un_neg pe_int))))
        pss_nil)
      (pss_cons (ps_if (pt_cmp (pc_din hu (pe_tup (pa_cons (pv 3) (pa_cons (pv 5) pa_nil))) (pv 2)))
        (pss_one (ps_ret (pe_lst pa_nil)))
        pss_nil)
      (pss_cons (ps_asg (pe_call c_come_to.F (hr.mono (by decide)) (by rfl) c_come_to.g c_come_to.kp c_come_to.b .nil pass0 (pa_cons (pv 0) (pa_cons (pv 1) (pa_cons (pv 2) (pa_cons (pv 3) (pa_cons (pv 5) (pa_cons (pv 6) pa_nil))))))) (pg_tup rfl (pgs_cons (pg_name (i := 7) nd rfl (Or.inl rfl)) (pgs_cons (pg_name (i := 8) nd rfl (Or.inl rfl)) pgs_nil))))
      (pss_cons (ps_if (pt_val (pe_callB (cr_any rfl) (by rfl) B._any boot_any (pa_cons (pe_lc (own := [("stretch", 9)]) rfl nd (pi_list (pv 7)) (blkOk_by (own := [("stretch", 9)]) (N := n_heard_by) (sc := defScope s_heard_by) (by decide +kernel)) (fun _ _ _ _ _ => (pg_name (i := 9) nd rfl (Or.inl rfl))) (fun _ _ _ _ _ => pts_nil) (fun _ _ _ _ _ => (pe_cmpR op_eq (pe_dget2 hu (pv 1) (pv 9) pe_str ⟨rfl, rfl, rfl, rfl⟩) pe_str (nomark _)))) pa_nil)))
        (pss_one (ps_ret (pe_lst pa_nil)))
        pss_nil)
      (pss_one (ps_ret (pv 8))))))))), ?_⟩
    refine ⟨_, rfl, rfl, _, rfl, ?_⟩
    obtain ⟨place, epl⟩ : ∃ place : Int, place = if e = "B" then (L.length : Int) + 1 else 0 := ⟨_, rfl⟩
    obtain ⟨step, est⟩ : ∃ step : Int, step = if e = "B" then -1 else 1 := ⟨_, rfl⟩
    have way : OnWay L.length step place (L.length + 1) := by
      by_cases he : e = "B"
      · rw [if_pos he] at epl est
        exact .inr ⟨est, by omega, by omega, by omega⟩
      · rw [if_neg he] at epl est
        exact .inl ⟨est, by omega, by omega, by omega⟩
    have eM : heardM F G (i : Nat) L e = if (((i : Nat) : Int), place) ∈ G then [] else if (comeTo F G (i : Nat) L place step).1.any (isShort F) then [] else (comeTo F G (i : Nat) L place step).2 := by
      unfold heardM
      rw [← epl, ← est]
    rw [eM] at q
    by_cases he : e = "B"
    · rw [if_pos he] at epl est
      rw [decide_eq_true (show V.str e = V.str "B" from congrArg V.str he)]
      refine iteT ?_
      refine ⟨_, rfl, a, _, 1, _, rfl, rfl, SqT.of ha, rfl, _, rfl, b, _, (i : Nat), _, rfl, rfl, SqT.of hb, atI_nat ec, c, ps, rfl, .inr (SqT.of hc), _, _, rfl, rfl, _, rfl, ?_⟩
      rw [lp]
      subst epl est
      refine ⟨_, rfl, _, rfl, le_line (by show 2 ≤ 1000; decide), fun t nt => ?_⟩
      have s1 := same_new (o := .tup [.int (i : Nat), .int ((L.length : Int) + 1)]) nt
      have kk : (upd H t (.tup [.int (i : Nat), .int ((L.length : Int) + 1)])) t = some (.tup ((opK (((i : Nat) : Int), ((L.length : Int) + 1))).map kV)) := upd_same
      refine ⟨_, rfl, st, _, rfl, DGet.t (s1 _ _ hst) kk, _, rfl, ?_⟩
      generalize upd H t (.tup [.int (i : Nat), .int ((L.length : Int) + 1)]) = H1 at s1 ⊢
      rw [stopD_val]
      by_cases hG : (((i : Nat) : Int), ((L.length : Int) + 1)) ∈ G
      · rw [if_pos hG] at q ⊢
        refine iteT ⟨Nat.zero_le _, fun p np => ?_⟩
        exact q _ p ((Gr.new np).base s1) (Nat.zero_le _)
      rw [if_neg hG] at q ⊢
      refine iteF ?_
      refine ⟨_, rfl, _, rfl, _, rfl, _, rfl, _, rfl, _, rfl, _, h, st, Pn, F, G, i, L, ((L.length : Int) + 1), (-1), rfl, hvp.mono (ts_of s1), bd, eL, way, s1 _ _ hh, s1 _ _ hst, fun H3 t3 s3 pr l1 l2 => ?_⟩
      obtain ⟨q1, q2, ht3, nq, gq1, gq2⟩ := pr
      refine ⟨t3, _, rfl, SqT.of ht3, rfl, _, _, rfl, _, _, rfl, rfl, ?_⟩
      obtain ⟨xs, hq1, rq1⟩ := gq1.ls
      refine ⟨_, rfl, q1, rfl, ⟨xs, SqL.of hq1⟩, fun D nD => ?_⟩
      refine lc_short (F := F) (ss := (comeTo F G (i : Nat) L ((L.length : Int) + 1) (-1)).1) (s3 _ _ (s1 _ _ hh)) hq1 rq1 nD l1 (fun x => ⟨rfl, rfl, rfl⟩) fun H4 s4 e4 => ?_
      refine ⟨D, _, rfl, SqL.of e4, ?_⟩
      rw [any_map]
      cases hs : (comeTo F G (i : Nat) L ((L.length : Int) + 1) (-1)).1.any (isShort F) with
      | true =>
        rw [hs, if_pos rfl] at q
        refine ⟨true, rfl, iteT ⟨Nat.zero_le _, fun p np => ?_⟩⟩
        exact q _ p ((Gr.new np).base (s1.trans (s3.trans s4))) (Nat.zero_le _)
      | false =>
        rw [hs, if_neg Bool.false_ne_true] at q
        refine ⟨false, rfl, iteF ?_⟩
        exact ⟨_, rfl, q H4 q2 ((gq2.keep s4).base s1) l2⟩
    · rw [if_neg he] at epl est
      rw [decide_eq_false (show ¬ V.str e = V.str "B" from fun z => he (V.str.inj z))]
      subst epl est
      refine iteF ?_
      refine ⟨_, rfl, _, rfl, le_line (by show 2 ≤ 1000; decide), fun t nt => ?_⟩
      have s1 := same_new (o := .tup [.int (i : Nat), .int 0]) nt
      have kk : (upd H t (.tup [.int (i : Nat), .int 0])) t = some (.tup ((opK (((i : Nat) : Int), 0)).map kV)) := upd_same
      refine ⟨_, rfl, st, _, rfl, DGet.t (s1 _ _ hst) kk, _, rfl, ?_⟩
      generalize upd H t (.tup [.int (i : Nat), .int 0]) = H1 at s1 ⊢
      rw [stopD_val]
      by_cases hG : (((i : Nat) : Int), 0) ∈ G
      · rw [if_pos hG] at q ⊢
        refine iteT ⟨Nat.zero_le _, fun p np => ?_⟩
        exact q _ p ((Gr.new np).base s1) (Nat.zero_le _)
      rw [if_neg hG] at q ⊢
      refine iteF ?_
      refine ⟨_, rfl, _, rfl, _, rfl, _, rfl, _, rfl, _, rfl, _, h, st, Pn, F, G, i, L, 0, 1, rfl, hvp.mono (ts_of s1), bd, eL, way, s1 _ _ hh, s1 _ _ hst, fun H3 t3 s3 pr l1 l2 => ?_⟩
      obtain ⟨q1, q2, ht3, nq, gq1, gq2⟩ := pr
      refine ⟨t3, _, rfl, SqT.of ht3, rfl, _, _, rfl, _, _, rfl, rfl, ?_⟩
      obtain ⟨xs, hq1, rq1⟩ := gq1.ls
      refine ⟨_, rfl, q1, rfl, ⟨xs, SqL.of hq1⟩, fun D nD => ?_⟩
      refine lc_short (F := F) (ss := (comeTo F G (i : Nat) L 0 1).1) (s3 _ _ (s1 _ _ hh)) hq1 rq1 nD l1 (fun x => ⟨rfl, rfl, rfl⟩) fun H4 s4 e4 => ?_
      refine ⟨D, _, rfl, SqL.of e4, ?_⟩
      rw [any_map]
      cases hs : (comeTo F G (i : Nat) L 0 1).1.any (isShort F) with
      | true =>
        rw [hs, if_pos rfl] at q
        refine ⟨true, rfl, iteT ⟨Nat.zero_le _, fun p np => ?_⟩⟩
        exact q _ p ((Gr.new np).base (s1.trans (s3.trans s4))) (Nat.zero_le _)
      | false =>
        rw [hs, if_neg Bool.false_ne_true] at q
        refine ⟨false, rfl, iteF ?_⟩
        exact ⟨_, rfl, q H4 q2 ((gq2.keep s4).base s1) l2⟩
abbrev C_heard_by (P : Program) (w : World) (K : PySem.W.Frag) (mg : Str → Option Value) (base : Heap) := Cal P w K mg base 3 "heard_by" ["plan", "hows", "stops", "loop", "end"] sp_heard_by
end
end K12
/-! K8: the class Wires. -/
namespace K12
open PySem PySem.Spec PyProof.Rows L2
/-! ### comparing spots and openers -/
theorem shaped_list {ds : List PyData} (h : ∀ d ∈ ds, d.canLay0 = true ∧ d.depth ≤ 60) : SeqAt.shaped (.list ds) = true := by
  have h1 : PyData.canLayAll0 ds = true ∧ PyData.depthAll ds ≤ 60 := by
    induction ds with
    | nil => exact ⟨rfl, by simp [PyData.depthAll]⟩
    | cons d ds ih =>
      obtain ⟨a, b⟩ := ih fun e he => h e (List.mem_cons_of_mem _ he)
      obtain ⟨c, e⟩ := h d List.mem_cons_self
      refine ⟨by simp [PyData.canLayAll0, a, c], ?_⟩
      simp only [PyData.depthAll]
      omega
  simp [SeqAt.shaped, PyData.canLay0, PyData.depth, h1.1]
  omega
theorem flat_spot (s : Spot) : (dSpot s).canLay0 = true ∧ (dSpot s).depth ≤ 60 := by
  simp [dSpot, PyData.canLay0, PyData.canLayAll0, PyData.depth, PyData.depthAll]
theorem flat_op (s : Int × Int) : (dOp s).canLay0 = true ∧ (dOp s).depth ≤ 60 := by
  simp [dOp, PyData.canLay0, PyData.canLayAll0, PyData.depth, PyData.depthAll]
theorem shaped_of {d : PyData} (h : d.canLay0 = true ∧ d.depth ≤ 60) : SeqAt.shaped d = true := by
  simp [SeqAt.shaped, h.1]
  omega
theorem shaped_spots (l : List Spot) : SeqAt.shaped (.list (l.map dSpot)) = true := shaped_list fun d h => by
  obtain ⟨s, _, rfl⟩ := List.mem_map.mp h
  exact flat_spot s
theorem shaped_ops (l : List (Int × Int)) : SeqAt.shaped (.list (l.map dOp)) = true := shaped_list fun d h => by
  obtain ⟨s, _, rfl⟩ := List.mem_map.mp h
  exact flat_op s
theorem eqv_spot (x y : Spot) : (dSpot x).eqv (dSpot y) = decide (x = y) := by
  obtain ⟨a, b, c⟩ := x
  obtain ⟨a', b', c'⟩ := y
  rw [Bool.eq_iff_iff]
  simp [dSpot, PyData.eqv, PyData.eqvAll]
theorem eqv_op (x y : Int × Int) : (dOp x).eqv (dOp y) = decide (x = y) := by
  obtain ⟨a, b⟩ := x
  obtain ⟨a', b'⟩ := y
  rw [Bool.eq_iff_iff]
  simp [dOp, PyData.eqv, PyData.eqvAll]
theorem any_in {α : Type} [DecidableEq α] {f : α → PyData} (he : ∀ x y, (f x).eqv (f y) = decide (x = y)) {s : α} {l : List α} (h : s ∈ l) : ((l.map f).any fun z => z.eqv (f s)) = true :=
  List.any_eq_true.mpr ⟨f s, List.mem_map_of_mem h, by rw [he]; exact decide_eq_true rfl⟩
theorem any_notin {α : Type} [DecidableEq α] {f : α → PyData} (he : ∀ x y, (f x).eqv (f y) = decide (x = y)) {s : α} {l : List α} (h : s ∉ l) : ((l.map f).any fun z => z.eqv (f s)) = false := by
  rw [Bool.eq_false_iff]
  intro z
  obtain ⟨y, hy, e⟩ := List.any_eq_true.mp z
  obtain ⟨x, hx, rfl⟩ := List.mem_map.mp hy
  rw [he] at e
  exact h (of_decide_eq_true e ▸ hx)
theorem eqvAll_eq {α : Type} [DecidableEq α] {f : α → PyData} (he : ∀ x y, (f x).eqv (f y) = decide (x = y)) : ∀ l m : List α, PyData.eqvAll (l.map f) (m.map f) = decide (l = m)
  | [], [] => rfl
  | [], y :: m => by simp [PyData.eqvAll]
  | x :: l, [] => by simp [PyData.eqvAll]
  | x :: l, y :: m => by
    rw [Bool.eq_iff_iff]
    simp [PyData.eqvAll, he, eqvAll_eq he l m]
theorem eqv_spots (l m : List Spot) : (PyData.list (l.map dSpot)).eqv (.list (m.map dSpot)) = decide (l = m) := by
  show PyData.eqvAll _ _ = _
  exact eqvAll_eq eqv_spot l m
theorem eqv_ops (l m : List (Int × Int)) : (PyData.list (l.map dOp)).eqv (.list (m.map dOp)) = decide (l = m) := by
  show PyData.eqvAll _ _ = _
  exact eqvAll_eq eqv_op l m
theorem dp_list {K : PySem.W.Frag} {H : Hp} {p : Addr} {xs : List V} {ds : List PyData} (h : H p = some (.lst xs)) (r : TpAll H ds xs) : Dp K H (.ref p) (.list ds) := Dp.lst (SqL.of h) r.dp
/-! ### sorted lists -/
def codeS (s : Spot) : Int := s.1 * 10000 + s.2.1 * 100 + s.2.2
def codeO (o : Int × Int) : Int := o.1 * 100 + o.2
theorem codeS_eq (s : Spot) : _root_.TS.code 100 [s.1, s.2.1, s.2.2] = codeS s := by
  unfold codeS
  simp [_root_.TS.code]
  omega
theorem codeO_eq (o : Int × Int) : _root_.TS.code 100 [o.1, o.2] = codeO o := by
  unfold codeO
  simp [_root_.TS.code]
def BdS (s : Spot) : Prop := (0 ≤ s.1 ∧ s.1 < 100) ∧ (0 ≤ s.2.1 ∧ s.2.1 < 100) ∧ 0 ≤ s.2.2 ∧ s.2.2 < 100
def BdO (o : Int × Int) : Prop := (0 ≤ o.1 ∧ o.1 < 100) ∧ 0 ≤ o.2 ∧ o.2 < 100
theorem tall_perm {α : Type} {f : α → PyData} {H : Hp} {xs ys : List V} (h : xs.Perm ys) : ∀ ss : List α, TpAll H (ss.map f) xs → ∃ tt, ss.Perm tt ∧ TpAll H (tt.map f) ys := by
  induction h with
  | nil =>
    intro ss h
    have : ss = [] := by
      have := h.length
      rw [List.length_map] at this
      exact List.length_eq_zero_iff.mp this.symm
    subst this
    exact ⟨[], .nil, h⟩
  | cons x _ ih =>
    intro ss h
    cases ss with
    | nil => exact absurd h (by intro z; cases z)
    | cons s ss =>
      obtain ⟨v, vs, e, h1, h2⟩ := h
      cases e
      obtain ⟨tt, p, r⟩ := ih ss h2
      exact ⟨s :: tt, p.cons s, ta_cons h1 r⟩
  | swap x y l =>
    intro ss h
    match ss, h with
    | [], h => exact absurd h (by intro z; cases z)
    | [s], h =>
      obtain ⟨v, vs, e, h1, h2⟩ := h
      cases e
      exact absurd h2 (by intro z; cases z)
    | s :: s2 :: ss, h =>
      obtain ⟨v, vs, e, h1, ⟨v2, vs2, e2, h3, h4⟩⟩ := h
      cases e
      cases e2
      exact ⟨s2 :: s :: ss, .swap _ _ _, ta_cons h3 (ta_cons h1 h4)⟩
  | trans _ _ ih1 ih2 =>
    intro ss h
    obtain ⟨t1, p1, r1⟩ := ih1 ss h
    obtain ⟨t2, p2, r2⟩ := ih2 t1 r1
    exact ⟨t2, p1.trans p2, r2⟩
theorem tall_pair {α : Type} {f : α → PyData} {H : Hp} {R : V → V → Prop} {S : α → α → Prop} (hRS : ∀ s t x y, Tp H (f s) x → Tp H (f t) y → R x y → S s t) {ys : List V} {tt : List α} (r : TpAll H (tt.map f) ys) (h : ys.Pairwise R) : tt.Pairwise S := by
  induction tt generalizing ys with
  | nil => exact .nil
  | cons s tt ih =>
    obtain ⟨v, vs, rfl, h1, h2⟩ := r
    rw [List.pairwise_cons] at h ⊢
    refine ⟨fun t ht => ?_, ih h2 h.2⟩
    obtain ⟨i, hi, e⟩ := List.getElem_of_mem ht
    obtain ⟨y, ey, ty⟩ := h2.get (i := i) (d := f t) (by rw [List.getElem?_map, List.getElem?_eq_getElem hi, e]; rfl)
    exact hRS s t v y h1 ty (h.1 y (List.mem_of_getElem? ey))
theorem tupI_spot {K : PySem.W.Frag} {H : Hp} {s : Spot} {x : V} (h : Tp H (dSpot s) x) : TupI K H x [s.1, s.2.1, s.2.2] := by
  obtain ⟨t, rfl, ht⟩ := spot_key h
  exact ⟨t, rfl, SqT.of ht⟩
theorem tupI_op {K : PySem.W.Frag} {H : Hp} {s : Int × Int} {x : V} (h : Tp H (dOp s) x) : TupI K H x [s.1, s.2] := by
  obtain ⟨t, rfl, ht⟩ := op_key h
  exact ⟨t, rfl, SqT.of ht⟩
theorem sorted_spots {K : PySem.W.Frag} {H : Hp} {Q : VK} {a : Addr} {xs : List V} {ss : List Spot} (ha : H a = some (.lst xs)) (r : TpAll H (ss.map dSpot) xs) (l : ss.length < 64) (bd : ∀ s ∈ ss, BdS s)
    (q : ∀ (tt : List Spot) (p : Addr) (ys : List V), ss.Perm tt → tt.Pairwise (fun x y => codeS x ≤ codeS y) → H p = none → TpAll H (tt.map dSpot) ys → Q (.ref p) (upd H p (.lst ys))) : rSortU K 3 100 [.ref a] H Q := by
  refine ⟨a, xs, rfl, SqL.of ha, by rw [r.length, List.length_map]; exact l, fun x hx => ?_, fun ys p perm pw np => ?_⟩
  · obtain ⟨i, hi, e⟩ := List.getElem_of_mem hx
    obtain ⟨d, ed, td⟩ := r.back (i := i) (v := x) (by rw [List.getElem?_eq_getElem hi, e])
    rw [List.getElem?_map] at ed
    obtain ⟨s, es, rfl⟩ := Option.map_eq_some_iff.mp ed
    refine ⟨_, tupI_spot td, rfl, ?_⟩
    obtain ⟨b1, b2, b3⟩ := bd s (List.mem_of_getElem? es)
    intro m hm
    simp only [List.mem_cons, List.not_mem_nil, or_false] at hm
    rcases hm with rfl | rfl | rfl
    · exact b1
    · exact b2
    · exact b3
  · obtain ⟨tt, pp, rr⟩ := tall_perm perm.symm ss r
    refine q tt p ys pp (tall_pair (fun s t x y hx hy h => ?_) rr pw) np rr
    have z := h _ _ (tupI_spot (K := K) hx) (tupI_spot (K := K) hy)
    rw [codeS_eq, codeS_eq] at z
    exact z
theorem sorted_ops {K : PySem.W.Frag} {H : Hp} {Q : VK} {a : Addr} {xs : List V} {ss : List (Int × Int)} (ha : H a = some (.lst xs)) (r : TpAll H (ss.map dOp) xs) (l : ss.length < 64) (bd : ∀ s ∈ ss, BdO s)
    (q : ∀ (tt : List (Int × Int)) (p : Addr) (ys : List V), ss.Perm tt → tt.Pairwise (fun x y => codeO x ≤ codeO y) → H p = none → TpAll H (tt.map dOp) ys → Q (.ref p) (upd H p (.lst ys))) : rSortU K 2 100 [.ref a] H Q := by
  refine ⟨a, xs, rfl, SqL.of ha, by rw [r.length, List.length_map]; exact l, fun x hx => ?_, fun ys p perm pw np => ?_⟩
  · obtain ⟨i, hi, e⟩ := List.getElem_of_mem hx
    obtain ⟨d, ed, td⟩ := r.back (i := i) (v := x) (by rw [List.getElem?_eq_getElem hi, e])
    rw [List.getElem?_map] at ed
    obtain ⟨s, es, rfl⟩ := Option.map_eq_some_iff.mp ed
    refine ⟨_, tupI_op td, rfl, ?_⟩
    obtain ⟨b1, b2⟩ := bd s (List.mem_of_getElem? es)
    intro m hm
    simp only [List.mem_cons, List.not_mem_nil, or_false] at hm
    rcases hm with rfl | rfl
    · exact b1
    · exact b2
  · obtain ⟨tt, pp, rr⟩ := tall_perm perm.symm ss r
    refine q tt p ys pp (tall_pair (fun s t x y hx hy h => ?_) rr pw) np rr
    have z := h _ _ (tupI_op (K := K) hx) (tupI_op (K := K) hy)
    rw [codeO_eq, codeO_eq] at z
    exact z
/-! ### the spots of a plan rise -/
theorem devsPl_in {l p : Int} {x : Pl} {d : DevAt} (h : d ∈ devsPl l p x) : d.1.1 = l ∧ d.1.2.1 = p ∧ 0 ≤ d.1.2.2 ∧ d.1.2.2 ≤ x.spur.length := by
  unfold devsPl at h
  rcases List.mem_append.mp h with h | h
  · split at h
    · cases h
    · obtain rfl := List.mem_singleton.mp h
      exact ⟨rfl, rfl, Int.le_refl _, Int.natCast_nonneg _⟩
  · obtain ⟨i, z, e, m⟩ := (fmI_mem _).mp h
    obtain rfl := List.mem_singleton.mp m
    have hi := (List.getElem?_eq_some_iff.mp e).1
    refine ⟨rfl, rfl, ?_, ?_⟩ <;> show _ ≤ _ <;> simp only [] <;> omega
theorem devsLoop_in {l : Int} {L : List Pl} {d : DevAt} (h : d ∈ devsLoop l L) : d.1.1 = l ∧ ∃ (j : Nat) (x : Pl), L[j]? = some x ∧ d.1.2.1 = (j : Int) + 1 ∧ d ∈ devsPl l ((j : Int) + 1) x := by
  obtain ⟨j, x, e, m⟩ := (fmI_mem _).mp h
  rw [Nat.zero_add] at m
  obtain ⟨a, b, _⟩ := devsPl_in m
  exact ⟨a, j, x, e, b, m⟩
theorem devsOf_in {Ls : List (List Pl)} {d : DevAt} (h : d ∈ devsOf Ls) : ∃ (i : Nat) (L : List Pl), Ls[i]? = some L ∧ d.1.1 = (i : Int) ∧ d ∈ devsLoop (i : Int) L := by
  obtain ⟨i, L, e, m⟩ := (fmI_mem _).mp h
  rw [Nat.zero_add] at m
  exact ⟨i, L, e, (devsLoop_in m).1, m⟩
theorem devsOf_bd {Ls : List (List Pl)} (b : Bnd Ls) {d : DevAt} (h : d ∈ devsOf Ls) : (0 ≤ d.1.1 ∧ d.1.1 < 3) ∧ (1 ≤ d.1.2.1 ∧ d.1.2.1 ≤ 12) ∧ 0 ≤ d.1.2.2 ∧ d.1.2.2 ≤ 3 := by
  obtain ⟨i, L, e, a, m⟩ := devsOf_in h
  obtain ⟨_, j, x, ex, b1, m2⟩ := devsLoop_in m
  obtain ⟨_, _, c1, c2⟩ := devsPl_in m2
  have h1 := (List.getElem?_eq_some_iff.mp e).1
  have h2 := (List.getElem?_eq_some_iff.mp ex).1
  have h3 := b.loops
  have h4 := b.lens L (List.mem_of_getElem? e)
  have h5 := b.spur L (List.mem_of_getElem? e) x (List.mem_of_getElem? ex)
  omega
theorem devsOf_lt {Ls : List (List Pl)} (b : Bnd Ls) : (devsOf Ls).Pairwise fun x y => codeS x.1 < codeS y.1 := by
  refine fmI_pair _ (fun i L e => ?_) (fun i j L M x y hij e1 e2 m1 m2 => ?_)
  · refine fmI_pair _ (fun j x e2 => ?_) (fun j k x z a c hjk e3 e4 m3 m4 => ?_)
    · show (devsPl ((0 + i : Nat) : Int) (((0 + j : Nat) : Int) + 1) x).Pairwise _
      have sp := b.spur L (List.mem_of_getElem? e) x (List.mem_of_getElem? e2)
      unfold devsPl
      rw [List.pairwise_append]
      refine ⟨?_, fmI_pair _ (fun k z _ => List.pairwise_singleton _ _) (fun k m z u a c hkm _ _ m3 m4 => ?_), fun a ha c hc => ?_⟩
      · split
        · exact .nil
        · exact List.pairwise_singleton _ _
      · obtain rfl := List.mem_singleton.mp m3
        obtain rfl := List.mem_singleton.mp m4
        unfold codeS
        dsimp only
        omega
      · obtain ⟨k, z, _, m⟩ := (fmI_mem _).mp hc
        obtain rfl := List.mem_singleton.mp m
        split at ha
        · cases ha
        · obtain rfl := List.mem_singleton.mp ha
          unfold codeS
          dsimp only
          omega
    · obtain ⟨p1, p2, p3, p4⟩ := devsPl_in m3
      obtain ⟨q1, q2, q3, q4⟩ := devsPl_in m4
      have s1 := b.spur L (List.mem_of_getElem? e) x (List.mem_of_getElem? e3)
      have s2 := b.spur L (List.mem_of_getElem? e) z (List.mem_of_getElem? e4)
      unfold codeS
      omega
  · obtain ⟨p1, j1, x1, e3, b3, m3⟩ := devsLoop_in m1
    obtain ⟨q1, j2, x2, e4, b4, m4⟩ := devsLoop_in m2
    obtain ⟨_, _, p3, p4⟩ := devsPl_in m3
    obtain ⟨_, _, q3, q4⟩ := devsPl_in m4
    have s1 := b.spur L (List.mem_of_getElem? e1) x1 (List.mem_of_getElem? e3)
    have s2 := b.spur M (List.mem_of_getElem? e2) x2 (List.mem_of_getElem? e4)
    have h1 := b.lens L (List.mem_of_getElem? e1)
    have h2 := b.lens M (List.mem_of_getElem? e2)
    have h3 := (List.getElem?_eq_some_iff.mp e3).1
    have h4 := (List.getElem?_eq_some_iff.mp e4).1
    unfold codeS
    omega
theorem devsOf_nd {Ls : List (List Pl)} (b : Bnd Ls) : ((devsOf Ls).map (·.1)).Nodup := by
  unfold List.Nodup
  rw [List.pairwise_map]
  refine (devsOf_lt b).imp fun {x y} h e => ?_
  rw [e] at h
  omega
theorem strOf_in {Ls : List (List Pl)} {s : Spot} : s ∈ strOf Ls ↔ ∃ (i : Nat) (L : List Pl), Ls[i]? = some L ∧ (s = ((i : Int), 0, 0) ∨ ∃ (j : Nat) (x : Pl) (k : Nat), L[j]? = some x ∧ k ≤ x.spur.length ∧ s = ((i : Int), (j : Int) + 1, (k : Int))) := by
  unfold strOf
  rw [fmI_mem]
  refine exists_congr fun i => exists_congr fun L => and_congr_right fun e => ?_
  rw [Nat.zero_add]
  unfold strLoop
  rw [List.mem_cons, fmI_mem]
  refine or_congr_right ?_
  constructor
  · rintro ⟨j, x, ex, m⟩
    rw [Nat.zero_add] at m
    obtain ⟨k, hk, rfl⟩ := List.mem_map.mp m
    rw [List.mem_range] at hk
    exact ⟨j, x, k, ex, by omega, rfl⟩
  · rintro ⟨j, x, k, ex, hk, rfl⟩
    refine ⟨j, x, ex, ?_⟩
    rw [Nat.zero_add]
    exact List.mem_map.mpr ⟨k, List.mem_range.mpr (by omega), rfl⟩
theorem strOf_bd {Ls : List (List Pl)} (b : Bnd Ls) {s : Spot} (h : s ∈ strOf Ls) : (0 ≤ s.1 ∧ s.1 < 3) ∧ (0 ≤ s.2.1 ∧ s.2.1 ≤ 12) ∧ 0 ≤ s.2.2 ∧ s.2.2 ≤ 3 := by
  obtain ⟨i, L, e, h⟩ := strOf_in.mp h
  have h1 := (List.getElem?_eq_some_iff.mp e).1
  have h3 := b.loops
  have h4 := b.lens L (List.mem_of_getElem? e)
  rcases h with rfl | ⟨j, x, k, ex, hk, rfl⟩
  · dsimp only
    omega
  · have h2 := (List.getElem?_eq_some_iff.mp ex).1
    have h5 := b.spur L (List.mem_of_getElem? e) x (List.mem_of_getElem? ex)
    dsimp only
    omega
theorem opsOf_in {Ls : List (List Pl)} {o : Int × Int} : o ∈ opsOf Ls ↔ ∃ (i : Nat) (L : List Pl), Ls[i]? = some L ∧ (o = ((i : Int), 0) ∨ o = ((i : Int), (L.length : Int) + 1) ∨ ∃ (j : Nat) (x : Pl), L[j]? = some x ∧ x.kind = opener ∧ o = ((i : Int), (j : Int) + 1)) := by
  unfold opsOf
  rw [fmI_mem]
  refine exists_congr fun i => exists_congr fun L => and_congr_right fun e => ?_
  rw [Nat.zero_add]
  unfold opsLoop
  rw [List.mem_cons, List.mem_append, List.mem_singleton]
  refine or_congr_right ?_
  rw [or_comm]
  refine or_congr_right ?_
  unfold opsIn
  rw [fmI_mem]
  refine exists_congr fun j => exists_congr fun x => and_congr_right fun ex => ?_
  rw [Nat.zero_add]
  split
  · rename_i hk
    rw [List.mem_singleton]
    exact ⟨fun q => ⟨hk, q⟩, fun q => q.2⟩
  · rename_i hk
    exact ⟨fun q => by (cases q), fun q => absurd q.1 hk⟩
theorem opsOf_bd {Ls : List (List Pl)} (b : Bnd Ls) {o : Int × Int} (h : o ∈ opsOf Ls) : (0 ≤ o.1 ∧ o.1 < 3) ∧ 0 ≤ o.2 ∧ o.2 ≤ 13 := by
  obtain ⟨i, L, e, h⟩ := opsOf_in.mp h
  have h1 := (List.getElem?_eq_some_iff.mp e).1
  have h3 := b.loops
  have h4 := b.lens L (List.mem_of_getElem? e)
  rcases h with rfl | rfl | ⟨j, x, ex, _, rfl⟩
  · dsimp only
    omega
  · dsimp only
    omega
  · have h2 := (List.getElem?_eq_some_iff.mp ex).1
    dsimp only
    omega
/-! ### the object -/
def wf (v : V) (h st dv : Addr) : List (Str × V) := putF "devices_there" (.ref dv) (putF "stops" (.ref st) (putF "hows" (.ref h) (putF "plan" v [])))
theorem putF_len (f : Str) (v : V) : ∀ fs : List (Str × V), (putF f v fs).length ≤ fs.length + 1
  | [] => Nat.le_refl _
  | g :: fs => by
    obtain ⟨n, u⟩ := g
    show (if n = f then (n, v) :: fs else (n, u) :: putF f v fs).length ≤ _
    split
    · exact Nat.le_succ _
    · rw [List.length_cons, List.length_cons]
      exact Nat.succ_le_succ (putF_len f v fs)
section
variable {v : V} {h st dv : Addr}
theorem wf_plan : (wf v h st dv).lookup ("plan" : Str) = some v := by
  unfold wf
  rw [lookup_putF, if_neg (by decide +kernel), lookup_putF, if_neg (by decide +kernel), lookup_putF, if_neg (by decide +kernel), lookup_putF, if_pos rfl]
theorem wf_hows : (wf v h st dv).lookup ("hows" : Str) = some (.ref h) := by
  unfold wf
  rw [lookup_putF, if_neg (by decide +kernel), lookup_putF, if_neg (by decide +kernel), lookup_putF, if_pos rfl]
theorem wf_stops : (wf v h st dv).lookup ("stops" : Str) = some (.ref st) := by
  unfold wf
  rw [lookup_putF, if_neg (by decide +kernel), lookup_putF, if_pos rfl]
theorem wf_dev : (wf v h st dv).lookup ("devices_there" : Str) = some (.ref dv) := by
  unfold wf
  rw [lookup_putF, if_pos rfl]
theorem wf_no {m : Str} (h1 : ¬ m = "plan") (h2 : ¬ m = "hows") (h3 : ¬ m = "stops") (h4 : ¬ m = "devices_there") : (wf v h st dv).lookup m = none := by
  unfold wf
  rw [lookup_putF, if_neg h4, lookup_putF, if_neg h3, lookup_putF, if_neg h2, lookup_putF, if_neg h1]
  rfl
end
/-- what lies elsewhere stands -/
def Ex (m : Addr) (H H' : Hp) : Prop := ∀ a u, a ≠ m → H a = some u → H' a = some u
theorem ex_of {m : Addr} {H H' : Hp} (s : Same H H') : Ex m H H' := fun a u _ h => s a u h
theorem Ex.trans {m : Addr} {H H1 H2 : Hp} (s : Ex m H H1) (t : Ex m H1 H2) : Ex m H H2 := fun a u n h => t a u n (s a u n h)
theorem ex_upd {m : Addr} {H : Hp} {o : HO} : Ex m H (upd H m o) := fun a u n h => (upd_ne n).trans h
theorem Ex.ts {m : Addr} {H H' : Hp} {o : HO} (s : Ex m H H') (h : H m = some o) (n : ∀ xs, o ≠ .tup xs) : TS H H' := fun a xs e => s a _ (ne_of e h fun z => n xs z.symm) e
abbrev Kv (H : Hp) (d : DevAt) (kv : List L2.Key × V) : Prop := kv.1 = spotK d.1 ∧ Tp H (.tuple [.str d.2.1, .int d.2.2]) kv.2
structure WAt (C : Addr) (H : Hp) (o : Addr) (v : V) (h st dv : Addr) (Pn : Plan) (F : Hows) (G : Stops) (kvs : List (List L2.Key × V)) : Prop where
  ob : ∃ dx, H o = some (.ins C dx (wf v h st dv))
  pl : Tp H (dPlan Pn) v
  ok : PlanOk Pn
  hh : H h = some (.dT (howD F))
  hst : H st = some (.dT (stopD G))
  hdv : H dv = some (.dT kvs)
  kv : Paired (Kv H) (devsOf Pn.loops) kvs
  n1 : h ≠ st
  n2 : h ≠ dv
  n3 : st ≠ dv
theorem pimp {α β : Type} {R S : α → β → Prop} (i : ∀ a b, R a b → S a b) {as : List α} {bs : List β} (p : Paired R as bs) : Paired S as bs := by
  induction p with
  | nil => exact .nil
  | cons h _ ih => exact .cons (i _ _ h) ih
section
variable {C : Addr} {H H' : Hp} {o h st dv : Addr} {v : V} {Pn : Plan} {F F' : Hows} {G G' : Stops} {kvs : List (List L2.Key × V)}
theorem kv_mono' (s : TS H H') {ds : List DevAt} {kvs : List (List L2.Key × V)} (p : Paired (Kv H) ds kvs) : Paired (Kv H') ds kvs := pimp (fun _ _ q => ⟨q.1, q.2.mono s⟩) p
theorem kv_mono (s : TS H H') (p : Paired (Kv H) (devsOf Pn.loops) kvs) : Paired (Kv H') (devsOf Pn.loops) kvs := pimp (fun _ _ q => ⟨q.1, q.2.mono s⟩) p
theorem WAt.mono (w : WAt C H o v h st dv Pn F G kvs) (s : Same H H') : WAt C H' o v h st dv Pn F G kvs :=
  let ⟨dx, e⟩ := w.ob
  ⟨⟨dx, s _ _ e⟩, w.pl.mono (ts_of s), w.ok, s _ _ w.hh, s _ _ w.hst, s _ _ w.hdv, kv_mono (ts_of s) w.kv, w.n1, w.n2, w.n3⟩
theorem WAt.exh (w : WAt C H o v h st dv Pn F G kvs) (s : Ex h H H') (e2 : H' h = some (.dT (howD F'))) : WAt C H' o v h st dv Pn F' G kvs :=
  let ⟨dx, e⟩ := w.ob
  have t := s.ts w.hh (by intro _ z; cases z)
  ⟨⟨dx, s _ _ (ne_of e w.hh (by intro z; cases z)) e⟩, w.pl.mono t, w.ok, e2, s _ _ w.n1.symm w.hst, s _ _ w.n2.symm w.hdv, kv_mono t w.kv, w.n1, w.n2, w.n3⟩
theorem WAt.exs (w : WAt C H o v h st dv Pn F G kvs) (s : Ex st H H') (e2 : H' st = some (.dT (stopD G'))) : WAt C H' o v h st dv Pn F G' kvs :=
  let ⟨dx, e⟩ := w.ob
  have t := s.ts w.hst (by intro _ z; cases z)
  ⟨⟨dx, s _ _ (ne_of e w.hst (by intro z; cases z)) e⟩, w.pl.mono t, w.ok, s _ _ w.n1 w.hh, e2, s _ _ w.n3.symm w.hdv, kv_mono t w.kv, w.n1, w.n2, w.n3⟩
end
theorem nit {α : Type} {ns : List α} {i : Nat} {n : α} (nd : ns.Nodup) (h : ns[i]? = some n) : n ∉ ns.take i := fun m => by
  obtain ⟨j, hj, e⟩ := List.getElem_of_mem m
  rw [List.length_take] at hj
  rw [List.getElem_take] at e
  have hi := (List.getElem?_eq_some_iff.mp h).1
  have e2 := (List.getElem?_eq_some_iff.mp h).2
  have := (List.getElem_inj (h₀ := by omega) (h₁ := hi) nd).mp (e.trans e2.symm)
  omega
theorem kv_none {H : Hp} {s : Spot} {ds : List DevAt} {kvs : List (List L2.Key × V)} (p : Paired (Kv H) ds kvs) (h : s ∉ ds.map (·.1)) : valV kvs (spotK s) = none := by
  induction p with
  | nil => rfl
  | cons hd _ ih =>
    rw [List.map_cons, List.mem_cons, not_or] at h
    rw [valV_neg (fun e => h.1 (spotK_inj (e.symm.trans hd.1)).symm.symm), ih h.2]
theorem kv_some {H : Hp} {d : DevAt} {ds : List DevAt} {kvs : List (List L2.Key × V)} (p : Paired (Kv H) ds kvs) (nd : (ds.map (·.1)).Nodup) (h : d ∈ ds) : ∃ u, valV kvs (spotK d.1) = some u ∧ Tp H (.tuple [.str d.2.1, .int d.2.2]) u := by
  induction p with
  | nil => cases h
  | @cons a b as bs hd _ ih =>
    rw [List.map_cons, List.nodup_cons] at nd
    rcases List.mem_cons.mp h with rfl | h
    · exact ⟨_, valV_pos hd.1, hd.2⟩
    · obtain ⟨u, e, t⟩ := ih nd.2 h
      refine ⟨u, ?_, t⟩
      rw [valV_neg (fun e2 => nd.1 ?_), e]
      have : a.1 = d.1 := spotK_inj (hd.1.symm.trans e2)
      rw [this]
      exact List.mem_map_of_mem h
theorem psnoc {α β : Type} {R : α → β → Prop} {as : List α} {bs : List β} {a : α} {b : β} (p : Paired R as bs) (h : R a b) : Paired R (as ++ [a]) (bs ++ [b]) := by
  induction p with
  | nil => exact .cons h .nil
  | cons h1 _ ih => exact .cons h1 ih
theorem plen {α β : Type} {R : α → β → Prop} {as : List α} {bs : List β} (p : Paired R as bs) : bs.length = as.length := by
  induction p with
  | nil => rfl
  | cons _ _ ih => rw [List.length_cons, List.length_cons, ih]
/-- what the walk asks of the class -/
structure Wcl (K : PySem.W.Frag) (mg : Str → Option Value) (C : Addr) : Prop where
  cl : Cls K C
  nP : NoAttr K C "plan"
  nH : NoAttr K C "hows"
  nS : NoAttr K C "stops"
  nD : NoAttr K C "devices_there"
  g : mg "Wires" = some (.ref C)
/-- a method -/
structure Mal (P : Program) (w : World) (K : PySem.W.Frag) (mg : Str → Option Value) (base : Heap) (C : Addr) (k : Nat) (x : Str) (ps : List Str) (sp : Sp) (f : Addr) (fd : FuncData) : Prop where
  F : FnOk P w K mg base CX0 k f fd ps sp
  m : Meth K C x f
  b : Binds K fd ps []
section
variable {P : Program} {w : World} {K : PySem.W.Frag} {mg : Str → Option Value} {base : Heap} {aK aT cC : Addr}
abbrev s_init : Stmt := inClass (top 47) 0
abbrev n_init : List Str := ["self", "plan", "spot", "kind", "address"]
theorem sc_init : FnScope n_init ["self", "plan"] (defScope s_init) := ⟨rfl, rfl, rfl, by decide +kernel, rfl, by decide +kernel, by decide +kernel⟩
abbrev s_need_stretch : Stmt := inClass (top 47) 1
abbrev n_need_stretch : List Str := ["self", "stretch"]
theorem sc_need_stretch : FnScope n_need_stretch ["self", "stretch"] (defScope s_need_stretch) := ⟨rfl, rfl, rfl, by decide +kernel, rfl, by decide +kernel, by decide +kernel⟩
abbrev s_cut : Stmt := inClass (top 47) 3
abbrev n_cut : List Str := ["self", "stretch"]
theorem sc_cut : FnScope n_cut ["self", "stretch"] (defScope s_cut) := ⟨rfl, rfl, rfl, by decide +kernel, rfl, by decide +kernel, by decide +kernel⟩
abbrev s_short : Stmt := inClass (top 47) 4
abbrev n_short : List Str := ["self", "stretch"]
theorem sc_short : FnScope n_short ["self", "stretch"] (defScope s_short) := ⟨rfl, rfl, rfl, by decide +kernel, rfl, by decide +kernel, by decide +kernel⟩
abbrev s_mend : Stmt := inClass (top 47) 5
abbrev n_mend : List Str := ["self", "stretch"]
theorem sc_mend : FnScope n_mend ["self", "stretch"] (defScope s_mend) := ⟨rfl, rfl, rfl, by decide +kernel, rfl, by decide +kernel, by decide +kernel⟩
abbrev s_there : Stmt := inClass (top 47) 9
abbrev n_there : List Str := ["self", "spot"]
theorem sc_there : FnScope n_there ["self"] (defScope s_there) := ⟨rfl, rfl, rfl, by decide +kernel, rfl, by decide +kernel, by decide +kernel⟩
abbrev s_parted : Stmt := inClass (top 47) 10
abbrev n_parted : List Str := ["self"]
theorem sc_parted : FnScope n_parted ["self"] (defScope s_parted) := ⟨rfl, rfl, rfl, by decide +kernel, rfl, by decide +kernel, by decide +kernel⟩
abbrev s_change : Stmt := inClass (top 47) 11
abbrev n_change : List Str := ["self", "opener"]
theorem sc_change : FnScope n_change ["self", "opener"] (defScope s_change) := ⟨rfl, rfl, rfl, by decide +kernel, rfl, by decide +kernel, by decide +kernel⟩
abbrev s_act : Stmt := inClass (top 47) 12
abbrev n_act : List Str := ["self", "opener"]
theorem sc_act : FnScope n_act ["self", "opener"] (defScope s_act) := ⟨rfl, rfl, rfl, by decide +kernel, rfl, by decide +kernel, by decide +kernel⟩
abbrev s_come_to_rest : Stmt := inClass (top 47) 14
abbrev n_come_to_rest : List Str := ["self", "row", "every", "opener"]
theorem sc_come_to_rest : FnScope n_come_to_rest ["self"] (defScope s_come_to_rest) := ⟨rfl, rfl, rfl, by decide +kernel, rfl, by decide +kernel, by decide +kernel⟩
abbrev s_heard : Stmt := inClass (top 47) 15
abbrev n_heard : List Str := ["self", "loop", "end", "some", "spot"]
theorem sc_heard : FnScope n_heard ["self", "loop", "end"] (defScope s_heard) := ⟨rfl, rfl, rfl, by decide +kernel, rfl, by decide +kernel, by decide +kernel⟩
/-! ### __init__ -/
def sp_init (C : Addr) : Sp := fun vs H Q _ => ∃ (p dx : Addr) (v : V) (Pn : Plan), vs = [.ref p, v] ∧ H p = some (.ins C dx []) ∧ Tp H (dPlan Pn) v ∧ PlanOk Pn ∧
  ∀ (H' : Hp) (h st dv : Addr) (kvs : List (List L2.Key × V)), Ex p H H' → WAt C H' p v h st dv Pn [] [] kvs → Q .non H'
theorem ok_init {f f1 f2 : Addr} {fd fd1 fd2 : FuncData} (F0 : Fun K "__init__" "Wires.__init__" s_init f fd) (B : Blt mg) (C : Wcl K mg cC) (c_is_let_by : C_is_let_by P w K mg base f1 fd1) (c_devices : C_devices P w K mg base f2 fd2) : FnOk P w K mg base CX0 7 f fd ["self", "plan"] (sp_init cC) := by
  refine F0.ok sc_init (fun vs H Q E h => ?_) (fun cdv A outer s H vs Q E hr h => ?_)
  · obtain ⟨_, _, _, _, rfl, _⟩ := h
    rfl
  · obtain ⟨p, dx, v, Pn, rfl, hp, hvp, ok, q⟩ := h
    have hu := hu1_of hr
    have nd := sc_init.nd
    refine ⟨_, (pss_cons (ps_if (pt_not (pt_val (pe_call c_is_let_by.F (hr.mono (by decide)) (by rfl) c_is_let_by.g c_is_let_by.kp c_is_let_by.b .nil pass0 (pa_cons (pv 1) pa_nil))))
        (pss_one ps_never)
        pss_nil)
      (pss_cons (ps_fld (pv 0) (pv 1) rfl)
      (pss_cons (ps_fld (pv 0) pe_dnewT rfl)
      (pss_cons (ps_fld (pv 0) pe_dnewT rfl)
      (pss_cons (ps_fld (pv 0) pe_dnewT rfl)
      (pss_one (ps_for PassesOwn.never rfl (pi_list (pe_call c_devices.F (hr.mono (by decide)) (by rfl) c_devices.g c_devices.kp c_devices.b .nil pass0 (pa_cons (pv 1) pa_nil))) (pg_tup rfl (pgs_cons (pg_name (i := 2) nd rfl (Or.inl rfl)) (pgs_cons (pg_name (i := 3) nd rfl (Or.inl rfl)) (pgs_cons (pg_name (i := 4) nd rfl (Or.inl rfl)) pgs_nil))))
        (pss_one (ps_dput hu (pe_fldK (K := K) rfl (pv 0) rfl) (pv 2) (pe_tup (pa_cons (pv 3) (pa_cons (pv 4) pa_nil))) rfl))))))))), ?_⟩
    refine ⟨_, rfl, v, Pn, rfl, hvp, ok, fun H1 s1 => ⟨true, rfl, iteF ?_⟩⟩
    have hp1 := s1 _ _ hp
    refine ⟨_, rfl, _, rfl, p, cC, dx, _, rfl, hp1, C.cl, C.nP, Nat.zero_lt_succ _, ?_⟩
    have e1 : Ex p H (upd H1 p (.ins cC dx (putF "plan" v []))) := (ex_of s1).trans ex_upd
    have hp2 : (upd H1 p (.ins cC dx (putF "plan" v []))) p = some (.ins cC dx (putF "plan" v [])) := upd_same
    have t1 : TS H (upd H1 p (.ins cC dx (putF "plan" v []))) := (ts_of s1).trans (ts_ins hp1)
    generalize upd H1 p (.ins cC dx (putF "plan" v [])) = H2 at e1 hp2 t1 ⊢
    intro h nh
    have nph : p ≠ h := ne_of_none hp2 nh
    refine ⟨_, rfl, p, cC, dx, _, rfl, by rw [upd_ne nph]; exact hp2, C.cl, C.nH, Nat.lt_of_le_of_lt (putF_len _ _ _) (by show 1 < 1000; decide), ?_⟩
    have e2 : Ex p H (upd (upd H2 h (.dT [])) p (.ins cC dx (putF "hows" (.ref h) (putF "plan" v [])))) := e1.trans ((ex_of (same_new nh)).trans ex_upd)
    have t2 : TS H (upd (upd H2 h (.dT [])) p (.ins cC dx (putF "hows" (.ref h) (putF "plan" v [])))) := t1.trans ((ts_of (same_new nh)).trans (ts_ins (by rw [upd_ne nph]; exact hp2)))
    have hh : (upd (upd H2 h (.dT [])) p (.ins cC dx (putF "hows" (.ref h) (putF "plan" v [])))) h = some (.dT []) := by rw [upd_ne nph.symm, upd_same]
    have hp3 : (upd (upd H2 h (.dT [])) p (.ins cC dx (putF "hows" (.ref h) (putF "plan" v [])))) p = some (.ins cC dx (putF "hows" (.ref h) (putF "plan" v []))) := upd_same
    generalize upd (upd H2 h (.dT [])) p (.ins cC dx (putF "hows" (.ref h) (putF "plan" v []))) = H3 at e2 t2 hh hp3 ⊢
    intro st ns
    have nps : p ≠ st := ne_of_none hp3 ns
    have nhs : h ≠ st := ne_of_none hh ns
    refine ⟨_, rfl, p, cC, dx, _, rfl, by rw [upd_ne nps]; exact hp3, C.cl, C.nS, Nat.lt_of_le_of_lt (putF_len _ _ _) (Nat.lt_of_le_of_lt (Nat.succ_le_succ (putF_len _ _ _)) (by show 2 < 1000; decide)), ?_⟩
    have e3 : Ex p H (upd (upd H3 st (.dT [])) p (.ins cC dx (putF "stops" (.ref st) (putF "hows" (.ref h) (putF "plan" v []))))) := e2.trans ((ex_of (same_new ns)).trans ex_upd)
    have t3 : TS H (upd (upd H3 st (.dT [])) p (.ins cC dx (putF "stops" (.ref st) (putF "hows" (.ref h) (putF "plan" v []))))) := t2.trans ((ts_of (same_new ns)).trans (ts_ins (by rw [upd_ne nps]; exact hp3)))
    have hh3 : (upd (upd H3 st (.dT [])) p (.ins cC dx (putF "stops" (.ref st) (putF "hows" (.ref h) (putF "plan" v []))))) h = some (.dT []) := by rw [upd_ne nph.symm, upd_ne nhs, hh]
    have hst3 : (upd (upd H3 st (.dT [])) p (.ins cC dx (putF "stops" (.ref st) (putF "hows" (.ref h) (putF "plan" v []))))) st = some (.dT []) := by rw [upd_ne nps.symm, upd_same]
    have hp4 : (upd (upd H3 st (.dT [])) p (.ins cC dx (putF "stops" (.ref st) (putF "hows" (.ref h) (putF "plan" v []))))) p = some (.ins cC dx (putF "stops" (.ref st) (putF "hows" (.ref h) (putF "plan" v [])))) := upd_same
    generalize upd (upd H3 st (.dT [])) p (.ins cC dx (putF "stops" (.ref st) (putF "hows" (.ref h) (putF "plan" v [])))) = H4 at e3 t3 hh3 hst3 hp4 ⊢
    intro dv nv
    have npv : p ≠ dv := ne_of_none hp4 nv
    have nhv : h ≠ dv := ne_of_none hh3 nv
    have nsv : st ≠ dv := ne_of_none hst3 nv
    refine ⟨_, rfl, p, cC, dx, _, rfl, by rw [upd_ne npv]; exact hp4, C.cl, C.nD, Nat.lt_of_le_of_lt (putF_len _ _ _) (Nat.lt_of_le_of_lt (Nat.succ_le_succ (putF_len _ _ _)) (Nat.lt_of_le_of_lt (Nat.succ_le_succ (Nat.succ_le_succ (putF_len _ _ _))) (by show 3 < 1000; decide))), ?_⟩
    have e4 : Ex p H (upd (upd H4 dv (.dT [])) p (.ins cC dx (wf v h st dv))) := e3.trans ((ex_of (same_new nv)).trans ex_upd)
    have t4 : TS H (upd (upd H4 dv (.dT [])) p (.ins cC dx (wf v h st dv))) := t3.trans ((ts_of (same_new nv)).trans (ts_ins (by rw [upd_ne npv]; exact hp4)))
    have hh4 : (upd (upd H4 dv (.dT [])) p (.ins cC dx (wf v h st dv))) h = some (.dT []) := by rw [upd_ne nph.symm, upd_ne nhv, hh3]
    have hst4 : (upd (upd H4 dv (.dT [])) p (.ins cC dx (wf v h st dv))) st = some (.dT []) := by rw [upd_ne nps.symm, upd_ne nsv, hst3]
    have hdv4 : (upd (upd H4 dv (.dT [])) p (.ins cC dx (wf v h st dv))) dv = some (.dT []) := by rw [upd_ne npv.symm, upd_same]
    have hp5 : (upd (upd H4 dv (.dT [])) p (.ins cC dx (wf v h st dv))) p = some (.ins cC dx (wf v h st dv)) := upd_same
    show _
    unfold wf at *
    generalize upd (upd H4 dv (.dT [])) p (.ins cC dx _) = H5 at e4 t4 hh4 hst4 hdv4 hp5 ⊢
    have hvp5 := hvp.mono t4
    refine ⟨_, rfl, v, Pn, rfl, hvp5, ok.bnd, fun H6 p6 g6 => ?_⟩
    obtain ⟨xs, hp6, r6⟩ := g6.ls
    have s6 := g6.same
    refine ⟨p6, rfl, ⟨_, SqL.of hp6⟩, for_it (walk_list (xs := xs)) (fun k σ H' => ∃ y2 y3 y4 kvs, σ = [some (.ref p), some v, y2, y3, y4] ∧ Ex dv H6 H' ∧ H' dv = some (.dT kvs) ∧ Paired (Kv H') ((devsOf Pn.loops).take k) kvs) ⟨_, _, _, _, rfl, ex_of (Same.refl _), s6 _ _ hdv4, .nil⟩ (fun k σ H' _ ⟨_, _, _, _, _, e, d, _⟩ => SqL.of (e _ _ (ne_of hp6 (s6 _ _ hdv4) (by intro z; cases z)) hp6)) ?_ ?_⟩
    · rintro k x σ _ H' hk ⟨y2, y3, y4, kvs, rfl, ex, hd, pk⟩ ⟨rfl, hx⟩
      obtain ⟨d, ed, td⟩ := tall_map r6 hx
      have t6 : TS H6 H' := ex.ts (s6 _ _ hdv4) (by intro _ z; cases z)
      obtain ⟨t, sv, rfl, ht, hs⟩ := devAt_of (td.mono t6)
      refine ⟨t, _, rfl, SqT.of ht, rfl, _, _, rfl, _, _, rfl, _, _, rfl, rfl, ?_⟩
      refine ⟨_, rfl, _, rfl, le_line (by show 2 ≤ 1000; decide), fun u nu => ?_⟩
      have su := same_new (o := .tup [.str d.2.1, .int d.2.2]) nu
      have tu : Tp (upd H' u (.tup [.str d.2.1, .int d.2.2])) (.tuple [.str d.2.1, .int d.2.2]) (.ref u) := tp_tup upd_same (ta_cons tp_str (ta_cons tp_int ta_nil))
      have ndv : dv ≠ u := ne_of_none hd nu
      have ex2 : Ex dv H6 (upd H' u (.tup [.str d.2.1, .int d.2.2])) := ex.trans (ex_of su)
      generalize upd H' u (.tup [.str d.2.1, .int d.2.2]) = H7 at su tu ex2 ⊢
      have hp7 := ex2 _ _ npv (s6 _ _ hp5)
      obtain ⟨st2, rfl, hst2⟩ := spot_key (hs.mono (ts_of su))
      have kn : valV kvs (spotK d.1) = none := by
        refine kv_none pk ?_
        rw [List.map_take]
        exact nit (devsOf_nd ok.bnd) (by rw [List.getElem?_map, ed]; rfl)
      refine ⟨_, rfl, p, cC, dx, _, _, rfl, hp7, C.cl, C.nD, wf_dev, _, rfl, dv, _, rfl, DPut.t (k := spotK d.1) (su _ _ hd) hst2 (small1000 ?_), ?_⟩
      · rw [plen pk, List.length_take]
        have := ok.few.2
        omega
      refine ⟨_, _, _, _, rfl, ex2.trans ex_upd, upd_same, ?_⟩
      rw [putK_new _ kn, take_snoc ed]
      have t8 : TS H7 (upd H7 dv (.dT (kvs ++ [(spotK d.1, V.ref u)]))) := ts_dT (su _ _ hd)
      exact psnoc (kv_mono' ((ts_of su).trans t8) pk) ⟨rfl, tu.mono t8⟩
    · rintro σ H' ⟨y2, y3, y4, kvs, rfl, ex, hd, pk⟩
      rw [tall_len r6, List.take_length] at pk
      have t6 : TS H6 H' := ex.ts (s6 _ _ hdv4) (by intro _ z; cases z)
      refine q H' h st dv kvs ?_ ⟨⟨dx, ex _ _ npv (s6 _ _ hp5)⟩, (hvp5.mono (ts_of s6)).mono t6, ok, ex _ _ nhv (s6 _ _ hh4), ex _ _ nsv (s6 _ _ hst4), hd, pk, nhs, nhv, nsv⟩
      intro a u na hu
      refine ex _ _ ?_ (s6 _ _ (e4 _ _ na hu))
      intro z
      subst z
      exact absurd (e3 _ _ na hu) (by rw [nv]; intro z; cases z)
/-! ### need_stretch -/
def sp_need_stretch (C : Addr) : Sp := fun vs H Q _ => ∃ (o h st dv : Addr) (u v : V) (s : Spot) (Pn : Plan) (F : Hows) (G : Stops) (kvs : List (List L2.Key × V)), vs = [.ref o, u] ∧ WAt C H o v h st dv Pn F G kvs ∧ Tp H (dSpot s) u ∧ s ∈ strOf Pn.loops ∧ ∀ H', Same H H' → Q .non H'
theorem ok_need_stretch {f f1 f2 : Addr} {fd fd1 fd2 : FuncData} (F0 : Fun K "need_stretch" "Wires.need_stretch" s_need_stretch f fd) (B : Blt mg) (G : Con K mg aK aT) (C : Wcl K mg cC) (c_are_whole : C_are_whole P w K mg base f1 fd1) (c_stretches : C_stretches P w K mg base f2 fd2) : FnOk P w K mg base CX0 3 f fd ["self", "stretch"] (sp_need_stretch cC) := by
  refine F0.ok sc_need_stretch (fun vs H Q E h => ?_) (fun cdv A outer s H vs Q E hr h => ?_)
  · obtain ⟨_, _, _, _, _, _, _, _, _, _, _, rfl, _⟩ := h
    rfl
  · obtain ⟨o, h, st, dv, u, v, sp, Pn, Fh, Gs, kvs, rfl, wa, hsp, hin, q⟩ := h
    have hu65 := hu65_of hr
    have nd := sc_need_stretch.nd
    refine ⟨_, (pss_one (ps_if (PW.pt (pw_or (pt_not (pt_val (pe_call c_are_whole.F (hr.mono (by decide)) (by rfl) c_are_whole.g c_are_whole.kp c_are_whole.b .nil pass0 (pa_cons (pv 1) (pa_cons pe_int (pa_cons pe_int (pa_cons (pe_gint (by rfl) G._MOST_NUMBER) pa_nil))))))) (pw_or1 (pt_cmpR (r := rNotInD K) (op_notInD hu65) (pv 1) (pe_call c_stretches.F (hr.mono (by decide)) (by rfl) c_stretches.g c_stretches.kp c_stretches.b .nil pass0 (pa_cons (pe_fldK (K := K) rfl (pv 0) rfl) pa_nil)) (by rfl)))))
        (pss_one ps_never)
        pss_nil)), ?_⟩
    obtain ⟨⟨a1, a2⟩, ⟨b1, b2⟩, c1, c2⟩ := strOf_bd wa.ok.bnd hin
    obtain ⟨t, rfl, ht⟩ := spot_key hsp
    refine ⟨_, rfl, _, [sp.1, sp.2.1, sp.2.2], 3, 0, 99, rfl, ⟨t, rfl, ht⟩, rfl, by decide, ?_, fun H1 s1 => ⟨true, rfl, iteF ?_⟩⟩
    · intro n hn
      simp only [List.mem_cons, List.not_mem_nil, or_false] at hn
      omega
    have wa1 := wa.mono s1
    obtain ⟨dx, eo⟩ := wa1.ob
    refine ⟨_, rfl, _, rfl, o, cC, dx, _, _, rfl, eo, C.cl, C.nP, wf_plan, v, Pn, rfl, wa1.pl, wa1.ok.bnd, fun H2 p2 g2 => ?_⟩
    obtain ⟨xs, hp2, r2⟩ := g2.ls
    refine ⟨dSpot sp, _, (hsp.mono (ts_of (s1.trans g2.same))).dp, dp_list hp2 r2, shaped_of (flat_spot _), shaped_spots _, false, ?_, iteF ?_⟩
    · rw [any_in eqv_spot hin]
      rfl
    exact q _ (s1.trans g2.same)
abbrev M_need_stretch (P : Program) (w : World) (K : PySem.W.Frag) (mg : Str → Option Value) (base : Heap) (C : Addr) := Mal P w K mg base C 3 "need_stretch" ["self", "stretch"] (sp_need_stretch C)
/-! ### cut, short, mend -/
theorem howD_put (s : Spot) (x : Str) : putK (howD []) (spotK s) (V.str x) = howD [(s, x)] := rfl
theorem howD_drop (s : Spot) (x : Str) : dropK (howD [(s, x)]) (spotK s) = howD [] := by
  unfold dropK howD
  rw [List.map_cons, List.filter_cons_of_neg (by simp)]
  rfl
def sp_cut (C : Addr) (z : Str) : Sp := fun vs H Q _ => ∃ (o h st dv : Addr) (u v : V) (s : Spot) (Pn : Plan) (G : Stops) (kvs : List (List L2.Key × V)), vs = [.ref o, u] ∧ WAt C H o v h st dv Pn [] G kvs ∧ Tp H (dSpot s) u ∧ s ∈ strOf Pn.loops ∧
  ∀ H', Ex h H H' → WAt C H' o v h st dv Pn [(s, z)] G kvs → Q .non H'
theorem ok_cut {f f1 : Addr} {fd fd1 : FuncData} (F0 : Fun K "cut" "Wires.cut" s_cut f fd) (C : Wcl K mg cC) (c_need_stretch : M_need_stretch P w K mg base cC f1 fd1) : FnOk P w K mg base CX0 4 f fd ["self", "stretch"] (sp_cut cC "cut") := by
  refine F0.ok sc_cut (fun vs H Q E h => ?_) (fun cdv A outer s H vs Q E hr h => ?_)
  · obtain ⟨_, _, _, _, _, _, _, _, _, _, rfl, _⟩ := h
    rfl
  · obtain ⟨o, h, st, dv, u, v, sp, Pn, Gs, kvs, rfl, wa, hsp, hin, q⟩ := h
    have hu := hu1_of hr
    have nd := sc_cut.nd
    refine ⟨_, (pss_cons (ps_expr (pe_meth (pv 0) C.cl c_need_stretch.m c_need_stretch.F (hr.mono (by decide)) c_need_stretch.b .nil pass0 (pa_cons (pv 1) pa_nil)))
      (pss_one (ps_dput hu (pe_fldK (K := K) rfl (pv 0) rfl) (pv 1) pe_str rfl))), ?_⟩
    obtain ⟨dx, eo⟩ := wa.ob
    refine ⟨_, rfl, o, dx, _, rfl, eo, wf_no (by decide +kernel) (by decide +kernel) (by decide +kernel) (by decide +kernel), _, rfl, o, h, st, dv, u, v, sp, Pn, [], Gs, kvs, rfl, wa, hsp, hin, fun H1 s1 => ?_⟩
    have wa1 := wa.mono s1
    obtain ⟨t, rfl, ht⟩ := spot_key (hsp.mono (ts_of s1))
    refine ⟨_, rfl, o, cC, dx, _, _, rfl, s1 _ _ eo, C.cl, C.nH, wf_hows, _, rfl, h, _, rfl, DPut.t (k := spotK sp) wa1.hh ht (small1000 (Nat.zero_le _)), ?_⟩
    exact q _ ((ex_of s1).trans ex_upd) (wa1.exh ex_upd upd_same)
theorem ok_short {f f1 : Addr} {fd fd1 : FuncData} (F0 : Fun K "short" "Wires.short" s_short f fd) (C : Wcl K mg cC) (c_need_stretch : M_need_stretch P w K mg base cC f1 fd1) : FnOk P w K mg base CX0 4 f fd ["self", "stretch"] (sp_cut cC "short") := by
  refine F0.ok sc_short (fun vs H Q E h => ?_) (fun cdv A outer s H vs Q E hr h => ?_)
  · obtain ⟨_, _, _, _, _, _, _, _, _, _, rfl, _⟩ := h
    rfl
  · obtain ⟨o, h, st, dv, u, v, sp, Pn, Gs, kvs, rfl, wa, hsp, hin, q⟩ := h
    have hu := hu1_of hr
    have nd := sc_short.nd
    refine ⟨_, (pss_cons (ps_expr (pe_meth (pv 0) C.cl c_need_stretch.m c_need_stretch.F (hr.mono (by decide)) c_need_stretch.b .nil pass0 (pa_cons (pv 1) pa_nil)))
      (pss_one (ps_dput hu (pe_fldK (K := K) rfl (pv 0) rfl) (pv 1) pe_str rfl))), ?_⟩
    obtain ⟨dx, eo⟩ := wa.ob
    refine ⟨_, rfl, o, dx, _, rfl, eo, wf_no (by decide +kernel) (by decide +kernel) (by decide +kernel) (by decide +kernel), _, rfl, o, h, st, dv, u, v, sp, Pn, [], Gs, kvs, rfl, wa, hsp, hin, fun H1 s1 => ?_⟩
    have wa1 := wa.mono s1
    obtain ⟨t, rfl, ht⟩ := spot_key (hsp.mono (ts_of s1))
    refine ⟨_, rfl, o, cC, dx, _, _, rfl, s1 _ _ eo, C.cl, C.nH, wf_hows, _, rfl, h, _, rfl, DPut.t (k := spotK sp) wa1.hh ht (small1000 (Nat.zero_le _)), ?_⟩
    exact q _ ((ex_of s1).trans ex_upd) (wa1.exh ex_upd upd_same)
def sp_mend (C : Addr) : Sp := fun vs H Q _ => ∃ (o h st dv : Addr) (u v : V) (s : Spot) (z : Str) (Pn : Plan) (G : Stops) (kvs : List (List L2.Key × V)), vs = [.ref o, u] ∧ WAt C H o v h st dv Pn [(s, z)] G kvs ∧ Tp H (dSpot s) u ∧ s ∈ strOf Pn.loops ∧
  ∀ H', Ex h H H' → WAt C H' o v h st dv Pn [] G kvs → Q .non H'
theorem ok_mend {f f1 : Addr} {fd fd1 : FuncData} (F0 : Fun K "mend" "Wires.mend" s_mend f fd) (C : Wcl K mg cC) (c_need_stretch : M_need_stretch P w K mg base cC f1 fd1) : FnOk P w K mg base CX0 4 f fd ["self", "stretch"] (sp_mend cC) := by
  refine F0.ok sc_mend (fun vs H Q E h => ?_) (fun cdv A outer s H vs Q E hr h => ?_)
  · obtain ⟨_, _, _, _, _, _, _, _, _, _, _, rfl, _⟩ := h
    rfl
  · obtain ⟨o, h, st, dv, u, v, sp, z, Pn, Gs, kvs, rfl, wa, hsp, hin, q⟩ := h
    have hu := hu1_of hr
    have nd := sc_mend.nd
    refine ⟨_, (pss_cons (ps_expr (pe_meth (pv 0) C.cl c_need_stretch.m c_need_stretch.F (hr.mono (by decide)) c_need_stretch.b .nil pass0 (pa_cons (pv 1) pa_nil)))
      (pss_one (ps_expr (pe_bm PySem.F.plainAttrs_dict PySem.F.slot_dict_pop PySem.F.type_dict_pop (DX.mt_popT hu) (pe_fldK (K := K) rfl (pv 0) rfl) (pa_cons (pv 1) (pa_cons pe_str pa_nil)))))), ?_⟩
    obtain ⟨dx, eo⟩ := wa.ob
    refine ⟨_, rfl, o, dx, _, rfl, eo, wf_no (by decide +kernel) (by decide +kernel) (by decide +kernel) (by decide +kernel), _, rfl, o, h, st, dv, u, v, sp, Pn, _, Gs, kvs, rfl, wa, hsp, hin, fun H1 s1 => ?_⟩
    have wa1 := wa.mono s1
    obtain ⟨t, rfl, ht⟩ := spot_key (hsp.mono (ts_of s1))
    refine ⟨_, rfl, o, cC, dx, _, _, rfl, s1 _ _ eo, C.cl, C.nH, wf_hows, .inr (.inr (.inl ⟨rfl, .inr ⟨_, wa1.hh⟩⟩)), _, rfl, ?_⟩
    refine ⟨h, _, spotK sp, t, _, rfl, rfl, wa1.hh, ht, fun u e => ?_, fun e => ?_⟩
    · rw [howD_drop]
      exact q _ ((ex_of s1).trans ex_upd) (wa1.exh ex_upd upd_same)
    · rw [howD_val] at e
      simp [flook] at e
abbrev M_cut (P : Program) (w : World) (K : PySem.W.Frag) (mg : Str → Option Value) (base : Heap) (C : Addr) := Mal P w K mg base C 4 "cut" ["self", "stretch"] (sp_cut C "cut")
abbrev M_short (P : Program) (w : World) (K : PySem.W.Frag) (mg : Str → Option Value) (base : Heap) (C : Addr) := Mal P w K mg base C 4 "short" ["self", "stretch"] (sp_cut C "short")
abbrev M_mend (P : Program) (w : World) (K : PySem.W.Frag) (mg : Str → Option Value) (base : Heap) (C : Addr) := Mal P w K mg base C 4 "mend" ["self", "stretch"] (sp_mend C)
/-! ### there -/
theorem keys_spots {H : Hp} {ds : List DevAt} {kvs : List (List L2.Key × V)} {bs : List Addr} (p : Paired (Kv H) ds kvs) (k : IsKeys H kvs bs) : TpAll H ((ds.map (·.1)).map dSpot) (bs.map V.ref) := by
  induction p generalizing bs with
  | nil => cases k; exact ta_nil
  | cons h _ ih =>
    cases k with
    | cons h2 k =>
      rw [h.1] at h2
      exact ta_cons (tp_tup h2 (ta_cons tp_int (ta_cons tp_int (ta_cons tp_int ta_nil)))) (ih k)
theorem sorted_eq {α : Type} {c : α → Int} {l t : List α} (h : l.Pairwise fun x y => c x < c y) (p : l.Perm t) (s : t.Pairwise fun x y => c x ≤ c y) : t = l := by
  refine (List.Perm.eq_of_pairwise (le := fun x y => c x ≤ c y) (fun a b ha hb h1 h2 => ?_) (h.imp fun z => Int.le_of_lt z) s p).symm
  have hb2 := p.mem_iff.mpr hb
  obtain ⟨i, hi, rfl⟩ := List.getElem_of_mem ha
  obtain ⟨j, hj, rfl⟩ := List.getElem_of_mem hb2
  rcases Nat.lt_trichotomy i j with z | z | z
  · have := List.pairwise_iff_getElem.mp h i j hi hj z
    omega
  · subst z; rfl
  · have := List.pairwise_iff_getElem.mp h j i hj hi z
    omega
def sp_there (C : Addr) : Sp := fun vs H Q _ => ∃ (o h st dv : Addr) (v : V) (Pn : Plan) (F : Hows) (G : Stops) (kvs : List (List L2.Key × V)), vs = [.ref o] ∧ WAt C H o v h st dv Pn F G kvs ∧ ∀ H' p, Gr H H' p ((devsOf Pn.loops).map dDevAt) → Q (.ref p) H'
theorem ok_there {f : Addr} {fd : FuncData} (F0 : Fun K "there" "Wires.there" s_there f fd) (B : Blt mg) (C : Wcl K mg cC) : FnOk P w K mg base CX0 1 f fd ["self"] (sp_there cC) := by
  refine F0.ok sc_there (fun vs H Q E h => ?_) (fun cdv A outer s H vs Q E hr h => ?_)
  · obtain ⟨_, _, _, _, _, _, _, _, _, rfl, _⟩ := h
    rfl
  · obtain ⟨o, h, st, dv, v, Pn, Fh, Gs, kvs, rfl, wa, q⟩ := h
    have hu := hu1_of hr
    have nd := sc_there.nd
    refine ⟨_, (pss_one (ps_ret (pe_lc (own := [("spot", 1)]) rfl nd (pi_list (pe_callB (cr_sortT (d := 3) (B := 100) (by decide)) (by rfl) B._sorted boot_sorted (pa_cons (pe_callTy (call_list_dT rfl) (by rfl) B._list boot_list (pa_cons (pe_fldK (K := K) rfl (pv 0) rfl) pa_nil)) pa_nil))) (blkOk_by (own := [("spot", 1)]) (N := n_there) (sc := defScope s_there) (by decide +kernel)) (fun _ _ _ _ _ => (pg_name (i := 1) nd rfl (Or.inl rfl))) (fun _ _ _ _ _ => pts_nil) (fun _ _ _ _ _ => (pe_op (r := rCatA K) op_catA (pe_tup (pa_cons (pv 1) pa_nil)) (pe_dget hu (pe_fldK (K := K) rfl (pv 0) rfl) (pv 1) (fun _ _ => rfl))))))), ?_⟩
    obtain ⟨dx, eo⟩ := wa.ob
    have few := wa.ok.few.2
    refine ⟨_, rfl, o, cC, dx, _, _, rfl, eo, C.cl, C.nD, wf_dev, dv, kvs, rfl, .inl wa.hdv, fun p bs np ik => ?_⟩
    have s1 := same_new (o := .lst (bs.map V.ref)) np
    have r1 := (keys_spots wa.kv ik).mono (ts_of s1)
    have hp : (upd H p (.lst (bs.map V.ref))) p = some (.lst (bs.map V.ref)) := upd_same
    generalize upd H p (.lst (bs.map V.ref)) = H1 at s1 r1 hp ⊢
    dsimp only [tNil, tCons]
    refine sorted_spots hp r1 (by rw [List.length_map]; omega) (fun s hs => ?_) fun tt p2 ys pm pw np2 r2 => ?_
    · obtain ⟨d, hd, rfl⟩ := List.mem_map.mp hs
      obtain ⟨a, b, c⟩ := devsOf_bd wa.ok.bnd hd
      unfold BdS
      omega
    have e : tt = (devsOf Pn.loops).map (·.1) := sorted_eq (c := codeS) (List.pairwise_map.mpr (devsOf_lt wa.ok.bnd)) pm pw
    subst e
    have s2 := s1.trans (same_new (o := .lst ys) np2)
    have r2 := r2.mono (ts_new (o := .lst ys) np2)
    have hp2 : (upd H1 p2 (.lst ys)) p2 = some (.lst ys) := upd_same
    generalize upd H1 p2 (.lst ys) = H2 at s2 r2 hp2 ⊢
    refine ⟨p2, rfl, ⟨_, SqL.of hp2⟩, fun D nD => ?_⟩
    refine lc_it (walk_list (xs := ys)) (fun i H3 => Gr H2 H3 D (((devsOf Pn.loops).take i).map dDevAt)) (Gr.new nD) (fun i H3 _ g => SqL.of (g.same _ _ hp2)) ?_ ?_
    · rintro i x _ H3 hi g ⟨rfl, hx⟩
      obtain ⟨s, es, ts⟩ := tall_map r2 hx
      rw [List.getElem?_map] at es
      obtain ⟨d, ed, rfl⟩ := Option.map_eq_some_iff.mp es
      obtain ⟨u, eu, tu⟩ := kv_some wa.kv (devsOf_nd wa.ok.bnd) (List.mem_of_getElem? ed)
      have t3 := ts_of (s2.trans g.same)
      have wa3 := wa.mono (s2.trans g.same)
      obtain ⟨dx, eo⟩ := wa3.ob
      obtain ⟨t, rfl, ht⟩ := spot_key (ts.mono (ts_of g.same))
      refine ⟨rfl, _, rfl, le_line (by show 1 ≤ 1000; decide), fun t1 n1 => ?_⟩
      have s4 := same_new (o := .tup [V.ref t]) n1
      have h1 : (upd H3 t1 (.tup [V.ref t])) t1 = some (.tup [V.ref t]) := upd_same
      have g4 := g.keep s4
      have tsp := ((ts.mono (ts_of g.same)).mono (ts_of s4))
      generalize upd H3 t1 (.tup [V.ref t]) = H4 at s4 h1 g4 tsp ⊢
      refine ⟨_, rfl, o, cC, dx, _, _, rfl, s4 _ _ eo, C.cl, C.nD, wf_dev, _, rfl, dv, u, rfl, ?_, ?_⟩
      · have z := DGet.t (k := spotK d.1) (s4 _ _ wa3.hdv) (s4 _ _ ht)
        rw [eu] at z
        exact z
      obtain ⟨b, _, rfl, hb, _, _, rfl, rfl, _, _, rfl, rfl, rfl⟩ := (tu.mono t3).mono (ts_of s4)
      refine ⟨t1, b, _, _, rfl, rfl, SqT.of h1, SqT.of hb, le_line (by show 3 ≤ 1000; decide), fun z => (by cases z), fun _ z => (by cases z), fun _ _ p5 n5 => ?_⟩
      obtain ⟨xs, hD, rD⟩ := g4.ls
      have s5 := same_new (o := .tup ([V.ref t] ++ [.str d.2.1, .int d.2.2])) n5
      refine ⟨xs, s5 _ _ hD, small_len rD (by rw [List.length_map, List.length_take]; omega), ?_⟩
      rw [take_snoc ed, List.map_append]
      exact Gr.app (g4.same.trans s5) g4.fresh (s5 _ _ hD) (rD.mono (ts_of s5)) (d := dDevAt d) (tp_tup upd_same (ta_cons (tsp.mono (ts_of s5)) (ta_cons tp_str (ta_cons tp_int ta_nil))))
    · intro H3 g
      have l2 : ys.length = (devsOf Pn.loops).length := by rw [tall_len r2, List.length_map]
      rw [l2, List.take_length] at g
      exact q _ D (g.base s2)
/-! ### parted -/
theorem keys_ops {H : Hp} {G : Stops} {bs : List Addr} (k : IsKeys H (stopD G) bs) : TpAll H (G.map dOp) (bs.map V.ref) := by
  induction G generalizing bs with
  | nil => cases k; exact ta_nil
  | cons g G ih =>
    cases k with
    | cons h2 k => exact ta_cons (tp_tup h2 (ta_cons tp_int (ta_cons tp_int ta_nil))) (ih k)
def sp_parted (C : Addr) : Sp := fun vs H Q _ => ∃ (o h st dv : Addr) (v : V) (Pn : Plan) (F : Hows) (G : Stops) (kvs : List (List L2.Key × V)), vs = [.ref o] ∧ WAt C H o v h st dv Pn F G kvs ∧ G.length < 64 ∧ (∀ o ∈ G, BdO o) ∧
  ∀ H' p tt, Gr H H' p (tt.map dOp) → G.Perm tt → tt.Pairwise (fun x y => codeO x ≤ codeO y) → Q (.ref p) H'
theorem ok_parted {f : Addr} {fd : FuncData} (F0 : Fun K "parted" "Wires.parted" s_parted f fd) (B : Blt mg) (C : Wcl K mg cC) : FnOk P w K mg base CX0 1 f fd ["self"] (sp_parted cC) := by
  refine F0.ok sc_parted (fun vs H Q E h => ?_) (fun cdv A outer s H vs Q E hr h => ?_)
  · obtain ⟨_, _, _, _, _, _, _, _, _, rfl, _⟩ := h
    rfl
  · obtain ⟨o, h, st, dv, v, Pn, Fh, Gs, kvs, rfl, wa, hl, hb, q⟩ := h
    have nd := sc_parted.nd
    refine ⟨_, (pss_one (ps_ret (pe_callB (cr_sortT (d := 2) (B := 100) (by decide)) (by rfl) B._sorted boot_sorted (pa_cons (pe_callTy (call_list_dT rfl) (by rfl) B._list boot_list (pa_cons (pe_fldK (K := K) rfl (pv 0) rfl) pa_nil)) pa_nil)))), ?_⟩
    obtain ⟨dx, eo⟩ := wa.ob
    refine ⟨_, rfl, o, cC, dx, _, _, rfl, eo, C.cl, C.nS, wf_stops, st, _, rfl, .inl wa.hst, fun p bs np ik => ?_⟩
    have s1 := same_new (o := .lst (bs.map V.ref)) np
    have r1 := (keys_ops ik).mono (ts_of s1)
    have hp : (upd H p (.lst (bs.map V.ref))) p = some (.lst (bs.map V.ref)) := upd_same
    generalize upd H p (.lst (bs.map V.ref)) = H1 at s1 r1 hp ⊢
    show rSortU K 2 100 [V.ref p] H1 _
    refine sorted_ops hp r1 hl hb fun tt p2 ys pm pw np2 r2 => ?_
    exact q _ p2 tt (Gr.base ⟨same_new np2, np2, _, upd_same, r2.mono (ts_new np2)⟩ s1) pm pw
/-! ### heard -/
def heardIn (F : Hows) (G : Stops) (Ls : List (List Pl)) (i : Nat) (L : List Pl) (e : Str) : List Spot := (heardM F G (i : Nat) L e).filter fun s => decide (s ∈ (devsOf Ls).map (·.1))
def sp_heard (C : Addr) : Sp := fun vs H Q _ => ∃ (o h st dv : Addr) (v : V) (Pn : Plan) (F : Hows) (G : Stops) (kvs : List (List L2.Key × V)) (i : Nat) (L : List Pl) (e : Str), vs = [.ref o, .int (i : Nat), .str e] ∧ WAt C H o v h st dv Pn F G kvs ∧ Pn.loops[i]? = some L ∧
  ∀ H' p tt, Gr H H' p (tt.map dSpot) → (heardIn F G Pn.loops i L e).Perm tt → tt.Pairwise (fun x y => codeS x ≤ codeS y) → Q (.ref p) H'
theorem ok_heard {f f1 : Addr} {fd fd1 : FuncData} (F0 : Fun K "heard" "Wires.heard" s_heard f fd) (B : Blt mg) (C : Wcl K mg cC) (c_heard_by : C_heard_by P w K mg base f1 fd1) : FnOk P w K mg base CX0 4 f fd ["self", "loop", "end"] (sp_heard cC) := by
  refine F0.ok sc_heard (fun vs H Q E h => ?_) (fun cdv A outer s H vs Q E hr h => ?_)
  · obtain ⟨_, _, _, _, _, _, _, _, _, _, _, _, rfl, _⟩ := h
    rfl
  · obtain ⟨o, h, st, dv, v, Pn, Fh, Gs, kvs, i, L, e, rfl, wa, eL, q⟩ := h
    have hu := hu1_of hr
    have nd := sc_heard.nd
    refine ⟨_, (pss_cons (ps_set (i := 3) nd rfl (Or.inl rfl) (pe_call c_heard_by.F (hr.mono (by decide)) (by rfl) c_heard_by.g c_heard_by.kp c_heard_by.b .nil pass0 (pa_cons (pe_fldK (K := K) rfl (pv 0) rfl) (pa_cons (pe_fldK (K := K) rfl (pv 0) rfl) (pa_cons (pe_fldK (K := K) rfl (pv 0) rfl) (pa_cons (pv 1) (pa_cons (pv 2) pa_nil)))))))
      (pss_one (ps_ret (pe_callB (cr_sortT (d := 3) (B := 100) (by decide)) (by rfl) B._sorted boot_sorted (pa_cons (pe_lc (own := [("spot", 4)]) rfl nd (pi_list (pv 3)) (blkOk_by (own := [("spot", 4)]) (N := n_heard) (sc := defScope s_heard) (by decide +kernel)) (fun _ _ _ _ _ => (pg_name (i := 4) nd rfl (Or.inl rfl))) (fun _ _ _ _ _ => (pts_one (pt_cmp (pc_din hu (pv 4) (pe_fldK (K := K) rfl (pv 0) rfl))))) (fun _ _ _ _ _ => (pv 4))) pa_nil))))), ?_⟩
    obtain ⟨dx, eo⟩ := wa.ob
    refine ⟨_, rfl, o, cC, dx, _, _, rfl, eo, C.cl, C.nP, wf_plan, _, rfl, o, cC, dx, _, _, rfl, eo, C.cl, C.nH, wf_hows, _, rfl, o, cC, dx, _, _, rfl, eo, C.cl, C.nS, wf_stops, _, rfl, _, rfl, v, h, st, Pn, Fh, Gs, i, L, e, rfl, wa.pl, wa.ok.bnd, eL, wa.hh, wa.hst, fun H1 p1 g1 l1 => ?_⟩
    obtain ⟨xs, hp1, r1⟩ := g1.ls
    refine ⟨_, rfl, p1, rfl, ⟨_, SqL.of hp1⟩, fun D nD => ?_⟩
    refine lc_it (walk_list (xs := xs)) (fun k H3 => Gr H1 H3 D ((((heardM Fh Gs (i : Nat) L e).take k).filter fun s => decide (s ∈ (devsOf Pn.loops).map (·.1))).map dSpot)) (Gr.new nD) (fun k H3 _ g => SqL.of (g.same _ _ hp1)) ?_ ?_
    · rintro k x _ H3 hk g ⟨rfl, hx⟩
      obtain ⟨s, es, ts⟩ := tall_map r1 hx
      have wa3 := wa.mono (g1.same.trans g.same)
      obtain ⟨dx, eo⟩ := wa3.ob
      have ts3 := ts.mono (ts_of g.same)
      obtain ⟨t, rfl, ht⟩ := spot_key ts3
      refine ⟨rfl, _, rfl, _, rfl, o, cC, dx, _, _, rfl, eo, C.cl, C.nD, wf_dev, dv, _, rfl, DGet.t (k := spotK s) wa3.hdv ht, _, rfl, ?_⟩
      rw [take_snoc es, List.filter_append]
      by_cases hm : s ∈ (devsOf Pn.loops).map (·.1)
      · obtain ⟨d, hd, rfl⟩ := List.mem_map.mp hm
        obtain ⟨u, eu, -⟩ := kv_some wa3.kv (devsOf_nd wa.ok.bnd) hd
        rw [eu]
        refine iteT ?_
        obtain ⟨ys, hD, rD⟩ := g.ls
        have l2 : ((((heardM Fh Gs (i : Nat) L e).take k).filter fun s => decide (s ∈ (devsOf Pn.loops).map (·.1))).map dSpot).length ≤ 60 := by
          rw [List.length_map]
          exact Nat.le_trans (List.length_filter_le _ _) (by rw [List.length_take]; omega)
        refine ⟨_, rfl, ys, hD, small_len rD (by omega), ?_⟩
        rw [List.map_append, List.filter_cons_of_pos (by exact decide_eq_true hm)]
        exact Gr.app g.same g.fresh hD rD (d := dSpot d.1) ts3
      · rw [kv_none wa3.kv hm]
        refine iteF ?_
        rw [List.filter_cons_of_neg (by rw [decide_eq_false hm]; decide), List.filter_nil, List.append_nil]
        exact g
    · intro H3 g
      rw [tall_len r1, List.take_length] at g
      obtain ⟨ys, hD, rD⟩ := g.ls
      show rSortU K 3 100 [V.ref D] H3 _
      refine sorted_spots hD rD (Nat.lt_of_le_of_lt (List.length_filter_le _ _) (by omega)) (fun s hs => ?_) fun tt p2 zs pm pw np2 r2 => ?_
      · have hm := of_decide_eq_true (List.mem_filter.mp hs).2
        obtain ⟨d, hd, rfl⟩ := List.mem_map.mp hm
        obtain ⟨a, b, c⟩ := devsOf_bd wa.ok.bnd hd
        unfold BdS
        omega
      exact q _ p2 tt (Gr.base ⟨same_new np2, np2, _, upd_same, r2.mono (ts_new np2)⟩ (g1.same.trans g.same)) pm pw
/-! ### change -/
def tog (G : Stops) (o : Int × Int) : Stops := if o ∈ G then G.filter (fun x => decide (x ≠ o)) else G ++ [o]
theorem stopD_drop (o : Int × Int) : ∀ G : Stops, dropK (stopD G) (opK o) = stopD (G.filter fun x => decide (x ≠ o))
  | [] => rfl
  | g :: G => by
    have ih := stopD_drop o G
    unfold dropK stopD at ih ⊢
    by_cases e : g = o
    · rw [List.map_cons, List.filter_cons_of_neg (by subst e; simp), List.filter_cons_of_neg (by simp [e]), ih]
    · rw [List.map_cons, List.filter_cons_of_pos (by simp only [decide_eq_true_eq]; exact fun z => e (opK_inj z)), List.filter_cons_of_pos (by simp [e]), List.map_cons, ih]
theorem stopD_put {o : Int × Int} {G : Stops} (h : o ∉ G) : putK (stopD G) (opK o) (V.bl true) = stopD (G ++ [o]) := by
  have e : valV (stopD G) (opK o) = none := by rw [stopD_val, if_neg h]
  rw [putK_new _ e]
  unfold stopD
  rw [List.map_append]
  rfl
def sp_change (C : Addr) : Sp := fun vs H Q _ => ∃ (o h st dv : Addr) (u v : V) (op : Int × Int) (Pn : Plan) (F : Hows) (G : Stops) (kvs : List (List L2.Key × V)), vs = [.ref o, u] ∧ WAt C H o v h st dv Pn F G kvs ∧ Tp H (dOp op) u ∧ G.length < 1000 ∧
  ∀ H', Ex st H H' → WAt C H' o v h st dv Pn F (tog G op) kvs → Q .non H'
theorem ok_change {f : Addr} {fd : FuncData} (F0 : Fun K "change" "Wires.change" s_change f fd) (C : Wcl K mg cC) : FnOk P w K mg base CX0 1 f fd ["self", "opener"] (sp_change cC) := by
  refine F0.ok sc_change (fun vs H Q E h => ?_) (fun cdv A outer s H vs Q E hr h => ?_)
  · obtain ⟨_, _, _, _, _, _, _, _, _, _, _, rfl, _⟩ := h
    rfl
  · obtain ⟨o, h, st, dv, u, v, op, Pn, Fh, Gs, kvs, rfl, wa, hop, hl, q⟩ := h
    have hu := hu1_of hr
    have nd := sc_change.nd
    refine ⟨_, (pss_one (ps_if (pt_cmp (pc_din hu (pv 1) (pe_fldK (K := K) rfl (pv 0) rfl)))
        (pss_one (ps_expr (pe_bm PySem.F.plainAttrs_dict PySem.F.slot_dict_pop PySem.F.type_dict_pop (mt_popT1 hu) (pe_fldK (K := K) rfl (pv 0) rfl) (pa_cons (pv 1) pa_nil))))
        (pss_one (ps_dput hu (pe_fldK (K := K) rfl (pv 0) rfl) (pv 1) pe_bl rfl)))), ?_⟩
    obtain ⟨dx, eo⟩ := wa.ob
    obtain ⟨t, rfl, ht⟩ := op_key hop
    refine ⟨_, rfl, _, rfl, o, cC, dx, _, _, rfl, eo, C.cl, C.nS, wf_stops, st, _, rfl, DGet.t (k := opK op) wa.hst ht, _, rfl, ?_⟩
    rw [stopD_val]
    unfold tog at q
    by_cases hm : op ∈ Gs
    · rw [if_pos hm] at q ⊢
      refine iteT ?_
      refine ⟨_, rfl, o, cC, dx, _, _, rfl, eo, C.cl, C.nS, wf_stops, .inr (.inr (.inl ⟨rfl, .inr ⟨_, wa.hst⟩⟩)), _, rfl, ?_⟩
      refine ⟨st, _, opK op, t, V.bl true, rfl, rfl, wa.hst, ht, by rw [stopD_val, if_pos hm], ?_⟩
      rw [stopD_drop]
      exact q _ ex_upd (wa.exs ex_upd upd_same)
    · rw [if_neg hm] at q ⊢
      refine iteF ?_
      refine ⟨_, rfl, o, cC, dx, _, _, rfl, eo, C.cl, C.nS, wf_stops, _, rfl, st, _, rfl, DPut.t (k := opK op) wa.hst ht (by unfold stopD; rw [List.length_map]; exact small1000 (by omega)), ?_⟩
      rw [stopD_put hm]
      exact q _ ex_upd (wa.exs ex_upd upd_same)
abbrev M_change (P : Program) (w : World) (K : PySem.W.Frag) (mg : Str → Option Value) (base : Heap) (C : Addr) := Mal P w K mg base C 1 "change" ["self", "opener"] (sp_change C)
/-! ### act -/
def lp (Ls : List (List Pl)) (o : Int × Int) : List Pl := (Ls[o.1.toNat]?).getD []
def feelsP (F : Hows) (G : Stops) (Ls : List (List Pl)) (o : Int × Int) : Bool := feelsM F G (lp Ls o) o
def actM (F : Hows) (Ls : List (List Pl)) (G : Stops) (o : Int × Int) : Stops := if feelsP F G Ls o = decide (o ∈ G) then G else tog G o
/-- an opener's loop -/
theorem op_loop {Ls : List (List Pl)} {o : Int × Int} (h : o ∈ opsOf Ls) : ∃ (i : Nat) (p : Int), o = ((i : Int), p) ∧ Ls[i]? = some (lp Ls o) ∧ 0 ≤ p ∧ p ≤ ((lp Ls o).length : Int) + 1 := by
  obtain ⟨i, L, e, h⟩ := opsOf_in.mp h
  have e2 : ∀ p : Int, lp Ls ((i : Int), p) = L := fun p => by
    unfold lp
    dsimp only
    rw [Int.toNat_natCast, e]
    rfl
  rcases h with rfl | rfl | ⟨j, x, ex, _, rfl⟩
  · refine ⟨i, _, rfl, ?_, ?_, ?_⟩ <;> (try rw [e2]) <;> first | exact e | omega
  · refine ⟨i, _, rfl, ?_, ?_, ?_⟩ <;> (try rw [e2]) <;> first | exact e | omega
  · have h2 := (List.getElem?_eq_some_iff.mp ex).1
    refine ⟨i, _, rfl, ?_, ?_, ?_⟩ <;> (try rw [e2]) <;> first | exact e | omega
/-- the parted openers are openers of the plan -/
def Sub (Ls : List (List Pl)) (G : Stops) : Prop := G.Nodup ∧ ∀ o ∈ G, o ∈ opsOf Ls
theorem Sub.len {Ls : List (List Pl)} {G : Stops} (s : Sub Ls G) (b : Bnd Ls) : G.length ≤ 42 := Nat.le_trans (List.Nodup.length_le_of_subset s.1 fun o h => s.2 o h) (opsOf_len b)
theorem Sub.tog {Ls : List (List Pl)} {G : Stops} (s : Sub Ls G) {o : Int × Int} (h : o ∈ opsOf Ls) : Sub Ls (tog G o) := by
  unfold K12.tog
  split
  · exact ⟨s.1.filter _, fun x hx => s.2 x (List.mem_filter.mp hx).1⟩
  · rename_i hn
    refine ⟨?_, fun x hx => ?_⟩
    · rw [List.nodup_append]
      refine ⟨s.1, List.pairwise_singleton _ _, fun a ha b hb e => ?_⟩
      obtain rfl := List.mem_singleton.mp hb
      exact hn (e ▸ ha)
    · rcases List.mem_append.mp hx with hx | hx
      · exact s.2 x hx
      · exact List.mem_singleton.mp hx ▸ h
def sp_act (C : Addr) : Sp := fun vs H Q _ => ∃ (o h st dv : Addr) (u v : V) (op : Int × Int) (Pn : Plan) (F : Hows) (G : Stops) (kvs : List (List L2.Key × V)), vs = [.ref o, u] ∧ WAt C H o v h st dv Pn F G kvs ∧ Tp H (dOp op) u ∧ op ∈ opsOf Pn.loops ∧ Sub Pn.loops G ∧
  ∀ H' b, Ex st H H' → WAt C H' o v h st dv Pn F (actM F Pn.loops G op) kvs → Q (.bl b) H'
theorem ok_act {f f1 f2 f3 f4 : Addr} {fd fd1 fd2 fd3 fd4 : FuncData} (F0 : Fun K "act" "Wires.act" s_act f fd) (G : Con K mg aK aT) (C : Wcl K mg cC) (c_are_whole : C_are_whole P w K mg base f1 fd1) (c_openers : C_openers P w K mg base f2 fd2) (c_feels : C_feels P w K mg base f3 fd3) (c_change : M_change P w K mg base cC f4 fd4) : FnOk P w K mg base CX0 4 f fd ["self", "opener"] (sp_act cC) := by
  refine F0.ok sc_act (fun vs H Q E h => ?_) (fun cdv A outer s H vs Q E hr h => ?_)
  · obtain ⟨_, _, _, _, _, _, _, _, _, _, _, rfl, _⟩ := h
    rfl
  · obtain ⟨o, h, st, dv, u, v, op, Pn, Fh, Gs, kvs, rfl, wa, hop, hin, sub, q⟩ := h
    have hu := hu1_of hr
    have hu65 := hu65_of hr
    have nd := sc_act.nd
    refine ⟨_, (pss_cons (ps_if (PW.pt (pw_or (pt_not (pt_val (pe_call c_are_whole.F (hr.mono (by decide)) (by rfl) c_are_whole.g c_are_whole.kp c_are_whole.b .nil pass0 (pa_cons (pv 1) (pa_cons pe_int (pa_cons pe_int (pa_cons (pe_gint (by rfl) G._MOST_NUMBER) pa_nil))))))) (pw_or1 (pt_cmpR (r := rNotInD K) (op_notInD hu65) (pv 1) (pe_call c_openers.F (hr.mono (by decide)) (by rfl) c_openers.g c_openers.kp c_openers.b .nil pass0 (pa_cons (pe_fldK (K := K) rfl (pv 0) rfl) pa_nil)) (by rfl)))))
        (pss_one ps_never)
        pss_nil)
      (pss_cons (ps_if (pt_cmpR op_eq (pe_call c_feels.F (hr.mono (by decide)) (by rfl) c_feels.g c_feels.kp c_feels.b .nil pass0 (pa_cons (pe_fldK (K := K) rfl (pv 0) rfl) (pa_cons (pe_fldK (K := K) rfl (pv 0) rfl) (pa_cons (pe_fldK (K := K) rfl (pv 0) rfl) (pa_cons (pv 1) pa_nil))))) (pe_cmp (pc_din hu (pv 1) (pe_fldK (K := K) rfl (pv 0) rfl))) (nomark _))
        (pss_one (ps_ret pe_bl))
        pss_nil)
      (pss_cons (ps_expr (pe_meth (pv 0) C.cl c_change.m c_change.F (hr.mono (by decide)) c_change.b .nil pass0 (pa_cons (pv 1) pa_nil)))
      (pss_one (ps_ret pe_bl))))), ?_⟩
    obtain ⟨⟨a1, a2⟩, b1, b2⟩ := opsOf_bd wa.ok.bnd hin
    obtain ⟨t, rfl, ht⟩ := op_key hop
    refine ⟨_, rfl, _, [op.1, op.2], 2, 0, 99, rfl, ⟨t, rfl, ht⟩, rfl, by decide, ?_, fun H1 s1 => ⟨true, rfl, iteF ?_⟩⟩
    · intro n hn
      simp only [List.mem_cons, List.not_mem_nil, or_false] at hn
      omega
    have wa1 := wa.mono s1
    obtain ⟨dx, eo⟩ := wa1.ob
    refine ⟨_, rfl, _, rfl, o, cC, dx, _, _, rfl, eo, C.cl, C.nP, wf_plan, v, Pn, rfl, wa1.pl, wa1.ok.bnd, fun H2 p2 g2 => ?_⟩
    obtain ⟨xs, hp2, r2⟩ := g2.ls
    have s2 := s1.trans g2.same
    have hop2 := hop.mono (ts_of s2)
    refine ⟨dOp op, _, hop2.dp, dp_list hp2 r2, shaped_of (flat_op _), shaped_ops _, false, ?_, iteF ?_⟩
    · rw [any_in eqv_op hin]
      rfl
    obtain ⟨i, p, rfl, eL, p0, p1⟩ := op_loop hin
    have wa2 := wa.mono s2
    have eo2 := g2.same _ _ eo
    refine ⟨_, rfl, o, cC, dx, _, _, rfl, eo2, C.cl, C.nP, wf_plan, _, rfl, o, cC, dx, _, _, rfl, eo2, C.cl, C.nH, wf_hows, _, rfl, o, cC, dx, _, _, rfl, eo2, C.cl, C.nS, wf_stops, _, rfl, v, h, st, _, Pn, Fh, Gs, i, lp Pn.loops ((i : Int), p), p, rfl, wa2.pl, wa2.ok.bnd, eL, hop2, p0, p1, wa2.hh, wa2.hst, fun H3 s3 => ?_⟩
    have wa3 := wa2.mono s3
    have eo3 := s3 _ _ eo2
    have hop3 := hop2.mono (ts_of s3)
    have ht3 := s3 _ _ (s2 _ _ ht)
    refine ⟨_, rfl, _, rfl, o, cC, dx, _, _, rfl, eo3, C.cl, C.nS, wf_stops, st, _, rfl, DGet.t (k := opK ((i : Int), p)) wa3.hst ht3, ?_⟩
    rw [stopD_val]
    have eb : (if ((i : Int), p) ∈ Gs then some (V.bl true) else none).isSome = decide (((i : Int), p) ∈ Gs) := by
      by_cases hm : ((i : Int), p) ∈ Gs
      · rw [if_pos hm, decide_eq_true hm]; rfl
      · rw [if_neg hm, decide_eq_false hm]; rfl
    rw [eb]
    have ea : actM Fh Pn.loops Gs ((i : Int), p) = if feelsM Fh Gs (lp Pn.loops ((i : Int), p)) ((i : Int), p) = decide (((i : Int), p) ∈ Gs) then Gs else tog Gs ((i : Int), p) := rfl
    rw [ea] at q
    refine ⟨rfl, _, rfl, ?_⟩
    by_cases hf : feelsM Fh Gs (lp Pn.loops ((i : Int), p)) ((i : Int), p) = decide (((i : Int), p) ∈ Gs)
    · rw [if_pos hf] at q
      rw [decide_eq_true (show V.bl _ = V.bl _ from congrArg V.bl hf)]
      exact iteT (q _ false (ex_of (s2.trans s3)) wa3)
    · rw [if_neg hf] at q
      rw [decide_eq_false (show ¬ V.bl _ = V.bl _ from fun z => hf (V.bl.inj z))]
      refine iteF ?_
      refine ⟨_, rfl, o, dx, _, rfl, eo3, wf_no (by decide +kernel) (by decide +kernel) (by decide +kernel) (by decide +kernel), _, rfl, o, h, st, dv, _, v, ((i : Int), p), Pn, Fh, Gs, kvs, rfl, wa3, hop3, ?_, fun H4 e4 w4 => ?_⟩
      · have := sub.len wa.ok.bnd
        omega
      exact q _ true ((ex_of (s2.trans s3)).trans e4) w4
abbrev M_act (P : Program) (w : World) (K : PySem.W.Frag) (mg : Str → Option Value) (base : Heap) (C : Addr) := Mal P w K mg base C 4 "act" ["self", "opener"] (sp_act C)
abbrev M_parted (P : Program) (w : World) (K : PySem.W.Frag) (mg : Str → Option Value) (base : Heap) (C : Addr) := Mal P w K mg base C 1 "parted" ["self"] (sp_parted C)
/-! ### come_to_rest -/
theorem ex_mut {m r : Addr} {H H' : Hp} {u : HO} (e : Ex m H H') (n : H r = none) : Ex m H (upd H' r u) := fun a x h1 h2 => (upd_ne (ne_of_none h2 n)).trans (e a x h1 h2)
theorem WAt.lst {C : Addr} {H : Hp} {o h st dv r : Addr} {v : V} {Pn : Plan} {F : Hows} {G : Stops} {kvs : List (List L2.Key × V)} {xs ys : List V} (w : WAt C H o v h st dv Pn F G kvs) (e : H r = some (.lst xs)) : WAt C (upd H r (.lst ys)) o v h st dv Pn F G kvs :=
  let ⟨dx, e1⟩ := w.ob
  ⟨⟨dx, (upd_ne (ne_of e1 e (by intro z; cases z))).trans e1⟩, w.pl.mono (ts_lst e), w.ok, (upd_ne (ne_of w.hh e (by intro z; cases z))).trans w.hh, (upd_ne (ne_of w.hst e (by intro z; cases z))).trans w.hst, (upd_ne (ne_of w.hdv e (by intro z; cases z))).trans w.hdv, kv_mono (ts_lst e) w.kv, w.n1, w.n2, w.n3⟩
def addM (F : Hows) (Ls : List (List Pl)) (G : Stops) (o : Int × Int) : Stops := if o ∉ G ∧ feelsP F (opsOf Ls) Ls o = true then tog G o else G
def rest1 (F : Hows) (Ls : List (List Pl)) (G : Stops) : Stops := (opsOf Ls).foldl (addM F Ls) G
theorem Sub.add {Ls : List (List Pl)} {F : Hows} {G : Stops} (s : Sub Ls G) {o : Int × Int} (h : o ∈ opsOf Ls) : Sub Ls (addM F Ls G o) := by
  unfold addM
  split
  · exact s.tog h
  · exact s
theorem Sub.act {Ls : List (List Pl)} {F : Hows} {G : Stops} (s : Sub Ls G) {o : Int × Int} (h : o ∈ opsOf Ls) : Sub Ls (actM F Ls G o) := by
  unfold actM
  split
  · exact s
  · exact s.tog h
theorem Sub.fold {Ls : List (List Pl)} {f : Stops → Int × Int → Stops} (hf : ∀ G o, Sub Ls G → o ∈ opsOf Ls → Sub Ls (f G o)) : ∀ (l : List (Int × Int)) {G : Stops}, Sub Ls G → (∀ o ∈ l, o ∈ opsOf Ls) → Sub Ls (l.foldl f G)
  | [], _, s, _ => s
  | x :: l, G, s, h => Sub.fold hf l (hf G x s (h x List.mem_cons_self)) fun o ho => h o (List.mem_cons_of_mem _ ho)
theorem opsOf_lt {Ls : List (List Pl)} (b : Bnd Ls) : (opsOf Ls).Pairwise fun x y => codeO x < codeO y := by
  refine fmI_pair _ (fun i L e => ?_) (fun i j L M x y hij e1 e2 m1 m2 => ?_)
  · show (opsLoop ((0 + i : Nat) : Int) L).Pairwise _
    unfold opsLoop opsIn
    rw [List.pairwise_cons, List.pairwise_append]
    refine ⟨fun a ha => ?_, fmI_pair _ (fun k z _ => ?_) (fun k m z u a c hkm _ _ m3 m4 => ?_), List.pairwise_singleton _ _, fun a ha c hc => ?_⟩
    · rcases List.mem_append.mp ha with ha | ha
      · obtain ⟨k, z, _, m⟩ := (fmI_mem _).mp ha
        split at m
        · obtain rfl := List.mem_singleton.mp m
          unfold codeO
          dsimp only
          omega
        · cases m
      · obtain rfl := List.mem_singleton.mp ha
        unfold codeO
        dsimp only
        omega
    · split
      · exact List.pairwise_singleton _ _
      · exact .nil
    · split at m3
      · split at m4
        · obtain rfl := List.mem_singleton.mp m3
          obtain rfl := List.mem_singleton.mp m4
          unfold codeO
          dsimp only
          omega
        · cases m4
      · cases m3
    · obtain rfl := List.mem_singleton.mp hc
      obtain ⟨k, z, ez, m⟩ := (fmI_mem _).mp ha
      have := (List.getElem?_eq_some_iff.mp ez).1
      split at m
      · obtain rfl := List.mem_singleton.mp m
        unfold codeO
        dsimp only
        omega
      · cases m
  · have h1 : ∀ {k : Nat} {N : List Pl} {z : Int × Int}, N.length ≤ 12 → z ∈ opsLoop ((0 + k : Nat) : Int) N → z.1 = (k : Int) ∧ 0 ≤ z.2 ∧ z.2 ≤ 13 := fun {k N z} hN hz => by
      unfold opsLoop opsIn at hz
      rcases List.mem_cons.mp hz with rfl | hz
      · dsimp only; omega
      · rcases List.mem_append.mp hz with hz | hz
        · obtain ⟨k, u, eu, m⟩ := (fmI_mem _).mp hz
          have := (List.getElem?_eq_some_iff.mp eu).1
          split at m
          · obtain rfl := List.mem_singleton.mp m
            dsimp only; omega
          · cases m
        · obtain rfl := List.mem_singleton.mp hz
          dsimp only; omega
    have a1 := h1 (b.lens L (List.mem_of_getElem? e1)) m1
    have a2 := h1 (b.lens M (List.mem_of_getElem? e2)) m2
    unfold codeO
    omega
theorem lt_nodup {α : Type} {c : α → Int} {l : List α} (h : l.Pairwise fun x y => c x < c y) : l.Nodup := h.imp fun {x y} z e => by
  rw [e] at z
  omega
theorem stop_keys (G : Stops) (h : G.Nodup) : ((stopD G).map (·.1)).Nodup := by
  unfold stopD
  rw [List.map_map]
  show (G.map opK).Nodup
  unfold List.Nodup at *
  rw [List.pairwise_map]
  exact h.imp fun {x y} n e => n (opK_inj e)
def sp_come_to_rest (C : Addr) : Sp := fun vs H Q _ => ∃ (o h st dv : Addr) (v : V) (Pn : Plan) (F : Hows) (G : Stops) (kvs : List (List L2.Key × V)), vs = [.ref o] ∧ WAt C H o v h st dv Pn F G kvs ∧ Sub Pn.loops G ∧
  ∀ H' r tt, Ex st H H' → (rest1 F Pn.loops G).Perm tt → tt.Pairwise (fun x y => codeO x ≤ codeO y) → WAt C H' o v h st dv Pn F (tt.foldl (actM F Pn.loops) (rest1 F Pn.loops G)) kvs → Q (.ref r) H'
theorem ok_come_to_rest {f f1 f2 f3 f4 f5 : Addr} {fd fd1 fd2 fd3 fd4 fd5 : FuncData} (F0 : Fun K "come_to_rest" "Wires.come_to_rest" s_come_to_rest f fd) (B : Blt mg) (C : Wcl K mg cC) (c_openers : C_openers P w K mg base f1 fd1) (c_feels : C_feels P w K mg base f2 fd2) (c_change : M_change P w K mg base cC f3 fd3) (c_parted : M_parted P w K mg base cC f4 fd4) (c_act : M_act P w K mg base cC f5 fd5) : FnOk P w K mg base CX0 5 f fd ["self"] (sp_come_to_rest cC) := by
  refine F0.ok sc_come_to_rest (fun vs H Q E h => ?_) (fun cdv A outer s H vs Q E hr h => ?_)
  · obtain ⟨_, _, _, _, _, _, _, _, _, rfl, _⟩ := h
    rfl
  · obtain ⟨o, h, st, dv, v, Pn, Fh, Gs, kvs, rfl, wa, sub, q⟩ := h
    have hu := hu1_of hr
    have hu2 := hu2_of hr
    have nd := sc_come_to_rest.nd
    refine ⟨_, (pss_cons (ps_set (i := 1) nd rfl (Or.inl rfl) (pe_lst pa_nil))
      (pss_cons (ps_set (i := 2) nd rfl (Or.inl rfl) (pe_callTy (call_dictT rfl hu2) (by rfl) B._dict boot_dict (pa_cons (pe_lc (own := [("opener", 3)]) rfl nd (pi_list (pe_call c_openers.F (hr.mono (by decide)) (by rfl) c_openers.g c_openers.kp c_openers.b .nil pass0 (pa_cons (pe_fldK (K := K) rfl (pv 0) rfl) pa_nil))) (blkOk_by (own := [("opener", 3)]) (N := n_come_to_rest) (sc := defScope s_come_to_rest) (by decide +kernel)) (fun _ _ _ _ _ => (pg_name (i := 3) nd rfl (Or.inl rfl))) (fun _ _ _ _ _ => pts_nil) (fun _ _ _ _ _ => (pe_tup (pa_cons (pv 3) (pa_cons pe_bl pa_nil))))) pa_nil)))
      (pss_cons (ps_for PassesOwn.never rfl (pi_list (pe_call c_openers.F (hr.mono (by decide)) (by rfl) c_openers.g c_openers.kp c_openers.b .nil pass0 (pa_cons (pe_fldK (K := K) rfl (pv 0) rfl) pa_nil))) (pg_name (i := 3) nd rfl (Or.inl rfl))
        (pss_one (ps_if (PW.pt (pw_and (pt_cmp (pc_dnotin hu (pv 3) (pe_fldK (K := K) rfl (pv 0) rfl))) (pw_and1 (pt_val (pe_call c_feels.F (hr.mono (by decide)) (by rfl) c_feels.g c_feels.kp c_feels.b .nil pass0 (pa_cons (pe_fldK (K := K) rfl (pv 0) rfl) (pa_cons (pe_fldK (K := K) rfl (pv 0) rfl) (pa_cons (pv 2) (pa_cons (pv 3) pa_nil)))))))))
          (pss_cons (ps_expr (pe_bm PySem.F.plainAttrs_list PySem.F.slot_list_append PySem.F.type_list_append mt_append (pv 1) (pa_cons (pv 3) pa_nil)))
          (pss_one (ps_expr (pe_meth (pv 0) C.cl c_change.m c_change.F (hr.mono (by decide)) c_change.b .nil pass0 (pa_cons (pv 3) pa_nil)))))
          pss_nil)))
      (pss_cons (ps_for PassesOwn.never rfl (pi_list (pe_meth0 (pv 0) C.cl c_parted.m c_parted.F (hr.mono (by decide)) c_parted.b .nil pass0)) (pg_name (i := 3) nd rfl (Or.inl rfl))
        (pss_one (ps_if (pt_val (pe_meth (pv 0) C.cl c_act.m c_act.F (hr.mono (by decide)) c_act.b .nil pass0 (pa_cons (pv 3) pa_nil)))
          (pss_one (ps_expr (pe_bm PySem.F.plainAttrs_list PySem.F.slot_list_append PySem.F.type_list_append mt_append (pv 1) (pa_cons (pv 3) pa_nil))))
          pss_nil)))
      (pss_one (ps_ret (pv 1))))))), ?_⟩
    have bd := wa.ok.bnd
    have lops := opsOf_len bd
    refine ⟨Nat.zero_le _, fun r nr => ?_⟩
    have s1 := same_new (o := .lst []) nr
    have r1 : (upd H r (.lst [])) r = some (.lst []) := upd_same
    have wa1 := wa.mono s1
    generalize upd H r (.lst []) = H1 at s1 r1 wa1 ⊢
    obtain ⟨dx, eo⟩ := wa1.ob
    refine ⟨_, rfl, o, cC, dx, _, _, rfl, eo, C.cl, C.nP, wf_plan, v, Pn, rfl, wa1.pl, bd, fun H2 p2 g2 => ?_⟩
    obtain ⟨xs, hp2, rx⟩ := g2.ls
    refine ⟨p2, rfl, ⟨_, SqL.of hp2⟩, fun D nD => ?_⟩
    refine lc_it (walk_list (xs := xs)) (fun i H3 => Same H2 H3 ∧ ∃ ts : List (Addr × Addr), H3 D = some (.lst (ts.map fun t => V.ref t.1)) ∧ Paired (fun t kv => H3 t.1 = some (.tup [V.ref t.2, kv.2]) ∧ H3 t.2 = some (.tup (kv.1.map kV))) ts (stopD ((opsOf Pn.loops).take i))) ⟨same_new nD, [], upd_same, .nil⟩ (fun i H3 _ p => SqL.of (p.1 _ _ hp2)) ?_ ?_
    · rintro i x _ H3 hi ⟨s3, ts, hD, pr⟩ ⟨rfl, hx⟩
      obtain ⟨op, eop, top⟩ := tall_map rx hx
      obtain ⟨t, rfl, ht⟩ := op_key (top.mono (ts_of s3))
      refine ⟨rfl, _, rfl, le_line (by show 2 ≤ 1000; decide), fun t1 n1 => ?_⟩
      have s4 := same_new (o := .tup [V.ref t, V.bl true]) n1
      have h1 : (upd H3 t1 (.tup [V.ref t, V.bl true])) t1 = some (.tup [V.ref t, V.bl true]) := upd_same
      generalize upd H3 t1 (.tup [V.ref t, V.bl true]) = H4 at s4 h1 ⊢
      have hD4 := s4 _ _ hD
      have lt : ts.length ≤ 42 := by
        have z := plen pr
        unfold stopD at z
        rw [List.length_map, List.length_take] at z
        omega
      refine ⟨_, hD4, by rw [List.length_map]; exact small1000 (by omega), same_mut (s3.trans s4) nD, ts ++ [(t1, t)], ?_, ?_⟩
      · rw [upd_same, List.map_append]
        rfl
      · rw [take_snoc eop]
        unfold stopD
        rw [List.map_append]
        have up : ∀ {a : Addr} {ys : List V}, H3 a = some (.tup ys) → (upd H4 D (.lst ((ts.map fun t => V.ref t.1) ++ [V.ref t1]))) a = some (.tup ys) := fun {a ys} e => ts_lst hD4 _ _ (s4 _ _ e)
        exact psnoc (pimp (fun _ _ z => ⟨up z.1, up z.2⟩) pr) ⟨ts_lst hD4 _ _ h1, up ht⟩
    · rintro H3 ⟨s3, ts, hD, pr⟩
      rw [tall_len rx, List.take_length] at pr
      have s13 := g2.same.trans s3
      refine ⟨D, ts, _, rfl, SqL.of hD, pr, stop_keys _ (lt_nodup (opsOf_lt bd)), fun e ne => ?_⟩
      have s4 := same_new (o := .dT (stopD (opsOf Pn.loops))) ne
      have he : (upd H3 e (.dT (stopD (opsOf Pn.loops)))) e = some (.dT (stopD (opsOf Pn.loops))) := upd_same
      generalize upd H3 e (.dT (stopD (opsOf Pn.loops))) = H4 at s4 he ⊢
      have s14 := s13.trans s4
      have wa4 := wa1.mono s14
      have nest : e ≠ st := fun z => absurd (s13 _ _ wa1.hst) (by rw [← z, ne]; intro y; cases y)
      obtain ⟨dx, eo⟩ := wa4.ob
      refine ⟨_, rfl, o, cC, dx, _, _, rfl, eo, C.cl, C.nP, wf_plan, v, Pn, rfl, wa4.pl, bd, fun H5 p5 g5 => ?_⟩
      obtain ⟨xs5, hp5, rx5⟩ := g5.ls
      have s15 := s14.trans g5.same
      have hr5 := s15 _ _ r1
      have np5r : p5 ≠ r := fun z => absurd (s14 _ _ r1) (by rw [← z, g5.fresh]; intro y; cases y)
      have wa5 := wa4.mono g5.same
      have he5 := g5.same _ _ he
      refine ⟨p5, rfl, ⟨_, SqL.of hp5⟩, for_it (walk_list (xs := xs5)) (fun k σ H' => ∃ y rs, σ = [some (.ref o), some (.ref r), some (.ref e), y] ∧ Ex st H H' ∧ WAt cC H' o v h st dv Pn Fh (((opsOf Pn.loops).take k).foldl (addM Fh Pn.loops) Gs) kvs ∧ H' r = some (.lst rs) ∧ rs.length ≤ k ∧ H' e = some (.dT (stopD (opsOf Pn.loops))) ∧ H' p5 = some (.lst xs5) ∧ TS H5 H')
        ⟨_, [], rfl, ex_of (s1.trans s15), wa5, hr5, Nat.le_refl _, he5, hp5, TS.refl _⟩ (fun k σ H' _ ⟨_, _, _, _, _, _, _, _, z, _⟩ => SqL.of z) ?_ ?_⟩
      · rintro k x σ _ H' hk ⟨y, rs, rfl, ex, wk, hrk, lrs, hek, hpk, tk⟩ ⟨rfl, hx⟩
        obtain ⟨op, eop, top⟩ := tall_map rx5 hx
        have topk := top.mono tk
        have mop := List.mem_of_getElem? eop
        have kl5 := (List.getElem?_eq_some_iff.mp eop).1
        obtain ⟨t, rfl, ht⟩ := op_key topk
        obtain ⟨dx, eo⟩ := wk.ob
        have subk : Sub Pn.loops (((opsOf Pn.loops).take k).foldl (addM Fh Pn.loops) Gs) := Sub.fold (fun G o s h => s.add h) _ sub fun o ho => List.mem_of_mem_take ho
        rw [take_snoc eop, List.foldl_append]
        refine ⟨_, rfl, _, rfl, o, cC, dx, _, _, rfl, eo, C.cl, C.nS, wf_stops, st, _, rfl, DGet.t (k := opK op) wk.hst ht, _, rfl, ?_⟩
        rw [stopD_val]
        have go : ∀ G, [op].foldl (addM Fh Pn.loops) G = addM Fh Pn.loops G op := fun _ => rfl
        rw [go]
        generalize ((opsOf Pn.loops).take k).foldl (addM Fh Pn.loops) Gs = Gk at wk subk ⊢
        unfold addM
        by_cases hm : op ∈ Gk
        · rw [if_pos hm, if_neg (fun z => z.1 hm)]
          refine iteF ?_
          exact ⟨_, rs, rfl, ex, wk, hrk, Nat.le_succ_of_le lrs, hek, hpk, tk⟩
        · rw [if_neg hm]
          refine iteT ?_
          obtain ⟨i, p, rfl, eL, p0, p1⟩ := op_loop mop
          refine ⟨_, rfl, o, cC, dx, _, _, rfl, eo, C.cl, C.nP, wf_plan, _, rfl, o, cC, dx, _, _, rfl, eo, C.cl, C.nH, wf_hows, _, rfl, _, rfl, v, h, e, _, Pn, Fh, opsOf Pn.loops, i, lp Pn.loops ((i : Int), p), p, rfl, wk.pl, bd, eL, topk, p0, p1, wk.hh, hek, fun H6 s6 => ?_⟩
          have wa6 := wk.mono s6
          by_cases hf : feelsM Fh (opsOf Pn.loops) (lp Pn.loops ((i : Int), p)) ((i : Int), p) = true
          · rw [hf]
            refine ⟨true, rfl, iteT ?_⟩
            rw [if_pos ⟨hm, hf⟩]
            have hr6 := s6 _ _ hrk
            refine ⟨_, rfl, .inl ⟨rfl, _, SqL.of hr6⟩, _, rfl, r, _, _, rfl, rfl, hr6, small1000 (by omega), ?_⟩
            have wa7 := wa6.lst (ys := rs ++ [V.ref t]) hr6
            have t7 : TS H6 (upd H6 r (.lst (rs ++ [V.ref t]))) := ts_lst hr6
            have r7 : (upd H6 r (.lst (rs ++ [V.ref t]))) r = some (.lst (rs ++ [V.ref t])) := upd_same
            have e7 : (upd H6 r (.lst (rs ++ [V.ref t]))) e = some (.dT (stopD (opsOf Pn.loops))) := (upd_ne (ne_of (s6 _ _ hek) hr6 (by intro z; cases z))).trans (s6 _ _ hek)
            have p7 : (upd H6 r (.lst (rs ++ [V.ref t]))) p5 = some (.lst xs5) := (upd_ne np5r).trans (s6 _ _ hpk)
            have x7 : Ex st H (upd H6 r (.lst (rs ++ [V.ref t]))) := ex_mut (ex.trans (ex_of s6)) nr
            have t57 := (tk.trans (ts_of s6)).trans t7
            have top7 := (topk.mono (ts_of s6)).mono t7
            generalize upd H6 r (.lst (rs ++ [V.ref t])) = H7 at wa7 r7 e7 p7 x7 t57 top7 ⊢
            obtain ⟨dx, eo⟩ := wa7.ob
            refine ⟨_, rfl, o, dx, _, rfl, eo, wf_no (by decide +kernel) (by decide +kernel) (by decide +kernel) (by decide +kernel), _, rfl, o, h, st, dv, _, v, ((i : Int), p), Pn, Fh, Gk, kvs, rfl, wa7, top7, ?_, fun H8 e8 w8 => ?_⟩
            · have := subk.len bd
              omega
            refine ⟨_, rs ++ [V.ref t], rfl, x7.trans e8, w8, e8 _ _ (ne_of r7 wa7.hst (by intro z; cases z)) r7, by rw [List.length_append, List.length_singleton]; omega, e8 _ _ nest e7, e8 _ _ (ne_of p7 wa7.hst (by intro z; cases z)) p7, t57.trans (e8.ts wa7.hst (by intro _ z; cases z))⟩
          · rw [Bool.not_eq_true] at hf
            rw [hf]
            refine ⟨false, rfl, iteF ?_⟩
            rw [if_neg (fun z => absurd (z.2.symm.trans hf) (by decide))]
            exact ⟨_, rs, rfl, ex.trans (ex_of s6), wa6, s6 _ _ hrk, Nat.le_succ_of_le lrs, s6 _ _ hek, s6 _ _ hpk, tk.trans (ts_of s6)⟩
      · rintro σ H6 ⟨y, rs, rfl, ex, wk, hrk, lrs, hek, hpk, tk⟩
        have l5 : xs5.length = (opsOf Pn.loops).length := tall_len rx5
        rw [l5] at lrs
        rw [l5, List.take_length] at wk
        have subk : Sub Pn.loops (rest1 Fh Pn.loops Gs) := Sub.fold (fun G o s h => s.add h) _ sub fun o ho => ho
        obtain ⟨dx, eo⟩ := wk.ob
        refine ⟨_, rfl, o, dx, _, rfl, eo, wf_no (by decide +kernel) (by decide +kernel) (by decide +kernel) (by decide +kernel), o, h, st, dv, v, Pn, Fh, _, kvs, rfl, wk, ?_, ?_, fun H7 p7 tt g7 pm pw => ?_⟩
        · have := subk.len bd
          exact Nat.lt_of_le_of_lt this (by decide)
        · intro z hz
          obtain ⟨a, b⟩ := opsOf_bd bd (subk.2 z hz)
          unfold BdO
          omega
        obtain ⟨zs, hp7, rz⟩ := g7.ls
        have ltt : tt.length ≤ 42 := by
          rw [← pm.length_eq]
          exact subk.len bd
        have hr7 := g7.same _ _ hrk
        have np7r : p7 ≠ r := fun z => absurd hrk (by rw [← z, g7.fresh]; intro y; cases y)
        refine ⟨p7, rfl, ⟨_, SqL.of hp7⟩, for_it (walk_list (xs := zs)) (fun k σ H' => ∃ y rs, σ = [some (.ref o), some (.ref r), some (.ref e), y] ∧ Ex st H H' ∧ WAt cC H' o v h st dv Pn Fh ((tt.take k).foldl (actM Fh Pn.loops) (rest1 Fh Pn.loops Gs)) kvs ∧ H' r = some (.lst rs) ∧ rs.length ≤ 42 + k ∧ H' p7 = some (.lst zs) ∧ TS H7 H')
          ⟨_, rs, rfl, ex.trans (ex_of g7.same), wk.mono g7.same, hr7, by omega, hp7, TS.refl _⟩ (fun k σ H' _ ⟨_, _, _, _, _, _, _, z, _⟩ => SqL.of z) ?_ ?_⟩
        · rintro k x σ _ H' hk ⟨y, rs, rfl, ex, wk, hrk, lrs, hpk, tk⟩ ⟨rfl, hx⟩
          obtain ⟨op, eop, top⟩ := tall_map rz hx
          have topk := top.mono tk
          have kl : k < tt.length := by rw [tall_len rz] at hk; exact hk
          have mop := subk.2 op (pm.mem_iff.mpr (List.mem_of_getElem? eop))
          obtain ⟨t, rfl, ht⟩ := op_key topk
          obtain ⟨dx, eo⟩ := wk.ob
          have subk2 : Sub Pn.loops ((tt.take k).foldl (actM Fh Pn.loops) (rest1 Fh Pn.loops Gs)) := Sub.fold (fun G o s h => s.act h) _ subk fun o ho => subk.2 o (pm.mem_iff.mpr (List.mem_of_mem_take ho))
          rw [take_snoc eop, List.foldl_append]
          have go : ∀ G, [op].foldl (actM Fh Pn.loops) G = actM Fh Pn.loops G op := fun _ => rfl
          rw [go]
          generalize (tt.take k).foldl (actM Fh Pn.loops) (rest1 Fh Pn.loops Gs) = Gk at wk subk2 ⊢
          refine ⟨_, rfl, o, dx, _, rfl, eo, wf_no (by decide +kernel) (by decide +kernel) (by decide +kernel) (by decide +kernel), _, rfl, o, h, st, dv, _, v, op, Pn, Fh, Gk, kvs, rfl, wk, topk, mop, subk2, fun H8 b e8 w8 => ⟨b, rfl, ?_⟩⟩
          have nrst : r ≠ st := ne_of hrk wk.hst (by intro z; cases z)
          have r8 := e8 _ _ nrst hrk
          have p8 := e8 _ _ (ne_of hpk wk.hst (by intro z; cases z)) hpk
          have t8 := tk.trans (e8.ts wk.hst (by intro _ z; cases z))
          cases b with
          | true =>
            refine iteT ?_
            refine ⟨_, rfl, .inl ⟨rfl, _, SqL.of r8⟩, _, rfl, r, _, _, rfl, rfl, r8, small1000 (by omega), ?_⟩
            exact ⟨_, _, rfl, ex_mut (ex.trans e8) nr, w8.lst r8, upd_same, by rw [List.length_append, List.length_singleton]; omega, (upd_ne np7r).trans p8, t8.trans (ts_lst r8)⟩
          | false =>
            refine iteF ?_
            exact ⟨_, _, rfl, ex.trans e8, w8, r8, by omega, p8, t8⟩
        · rintro σ H8 ⟨y, rs, rfl, ex, wk, hrk, lrs, hpk, tk⟩
          rw [tall_len rz, List.take_length] at wk
          exact ⟨_, rfl, q _ r tt ex pm pw wk⟩
end
end K12
/-! K9: the law's own plan, from the bag of digits. -/
namespace K12
open PySem PySem.Spec PyProof.Rows L2
/-! ### the bag -/
def BagN (H : Hp) (p : Addr) (n : Nat) : Prop := ∃ b0 b1 b2 : Int, H p = some (.lst [.int b0, .int b1, .int b2]) ∧ 0 ≤ b0 ∧ (0 ≤ b1 ∧ b1 < 4294967296) ∧ 0 ≤ b2 ∧ b2 ≤ n
theorem BagN.le {H : Hp} {p : Addr} {n m : Nat} (b : BagN H p n) (h : n ≤ m) : BagN H p m :=
  let ⟨b0, b1, b2, e, h0, h1, h2, h3⟩ := b
  ⟨b0, b1, b2, e, h0, h1, h2, by omega⟩
theorem BagN.keep {H H' : Hp} {p : Addr} {n : Nat} (b : BagN H p n) (s : Same H H') : BagN H' p n :=
  let ⟨b0, b1, b2, e, h⟩ := b
  ⟨b0, b1, b2, s _ _ e, h⟩
theorem BagN.ls {H : Hp} {p : Addr} {n : Nat} (b : BagN H p n) : ∃ xs, H p = some (.lst xs) :=
  let ⟨_, _, _, e, _⟩ := b
  ⟨_, e⟩
theorem BagN.ts {H H' : Hp} {p : Addr} {n : Nat} (b : BagN H p n) (s : Ex p H H') : TS H H' :=
  let ⟨_, e⟩ := b.ls
  s.ts e (by intro _ z; cases z)
/-- a bag elsewhere -/
theorem BagN.mut {H : Hp} {p r : Addr} {n : Nat} {o : HO} (b : BagN H p n) (h : p ≠ r) : BagN (upd H r o) p n :=
  let ⟨b0, b1, b2, e, q⟩ := b
  ⟨b0, b1, b2, (upd_ne h).trans e, q⟩
theorem sql_keep {K : PySem.W.Frag} {H H' : Hp} {a : Addr} {xs : List V} (h : SqL K H a xs) (s : ∀ o, H a = some o → H' a = some o) : SqL K H' a xs := by
  rcases h with h | h
  · rcases h with h | ⟨o, h⟩
    · exact .inl (.inl (s _ h))
    · exact .inl (.inr ⟨o, s _ h⟩)
  · exact .inr h
section
variable {P : Program} {w : World} {K : PySem.W.Frag} {mg : Str → Option Value} {base : Heap} {aK aT cC : Addr}
abbrev s_law_bag : Stmt := top 49
abbrev n_law_bag : List Str := ["_law_script", "_law_k", "_law_cell"]
theorem sc_law_bag : FnScope n_law_bag ["_law_script", "_law_k"] (defScope s_law_bag) := ⟨rfl, rfl, rfl, by decide +kernel, rfl, by decide +kernel, by decide +kernel⟩
abbrev s_law_take : Stmt := top 50
abbrev n_law_take : List Str := ["_law_bag_here", "_law_many", "_law_digit", "_law_primes", "_law_step", "_law_base", "_law_found"]
theorem sc_law_take : FnScope n_law_take ["_law_bag_here", "_law_many"] (defScope s_law_take) := ⟨rfl, rfl, rfl, by decide +kernel, rfl, by decide +kernel, by decide +kernel⟩
abbrev s_law_name : Stmt := top 51
abbrev n_law_name : List Str := ["_law_bag_here", "_law_letters", "_law_place"]
theorem sc_law_name : FnScope n_law_name ["_law_bag_here"] (defScope s_law_name) := ⟨rfl, rfl, rfl, by decide +kernel, rfl, by decide +kernel, by decide +kernel⟩
abbrev s_law_names : Stmt := top 52
abbrev n_law_names : List Str := ["_law_bag_here", "_law_many", "_law_found", "_law_place", "_law_name_here", "_law_one"]
theorem sc_law_names : FnScope n_law_names ["_law_bag_here", "_law_many"] (defScope s_law_names) := ⟨rfl, rfl, rfl, by decide +kernel, rfl, by decide +kernel, by decide +kernel⟩
abbrev s_law_loop : Stmt := top 53
abbrev n_law_loop : List Str := ["_law_bag_here", "_law_numbers", "_law_most_places", "_law_places", "_law_at", "_law_many", "_law_some", "_law_way"]
theorem sc_law_loop : FnScope n_law_loop ["_law_bag_here", "_law_numbers", "_law_most_places"] (defScope s_law_loop) := ⟨rfl, rfl, rfl, by decide +kernel, rfl, by decide +kernel, by decide +kernel⟩
abbrev s_law_parts : Stmt := top 54
abbrev n_law_parts : List Str := ["_law_places", "_law_found", "_law_kind", "_law_address", "_law_spur"]
theorem sc_law_parts : FnScope n_law_parts ["_law_places"] (defScope s_law_parts) := ⟨rfl, rfl, rfl, by decide +kernel, rfl, by decide +kernel, by decide +kernel⟩
abbrev s_law_plan : Stmt := top 55
abbrev n_law_plan : List Str := ["_law_bag_here", "_law_most_loops", "_law_most_places", "_law_start", "_law_stride", "_law_numbers", "_law_own", "_law_first", "_law_at", "_law_loops", "_law_loop_here", "_law_most", "_law_told", "_law_places", "_law_kind", "_law_address", "_law_spur", "_law_zones", "_law_names_here", "_law_name_here", "_law_some", "_law_k", "_law_other", "_law_number"]
theorem sc_law_plan : FnScope n_law_plan ["_law_bag_here", "_law_most_loops", "_law_most_places"] (defScope s_law_plan) := ⟨rfl, rfl, rfl, by decide +kernel, rfl, by decide +kernel, by decide +kernel⟩
def sp_law_bag (K : PySem.W.Frag) : Sp := fun vs H Q _ => ∃ (a : Addr) (ns : List Int) (k : Nat), vs = [.ref a, .int (k : Nat)] ∧ SqL K H a (ns.map V.int) ∧ k < 64 ∧ ∀ H' p, Same H H' → H p = none → BagN H' p 0 → Q (.ref p) H'
theorem ok_law_bag {f : Addr} {fd : FuncData} (F0 : Fun K "_law_bag" "_law_bag" s_law_bag f fd) (B : Blt mg) : FnOk P w K mg base CX0 1 f fd ["_law_script", "_law_k"] (sp_law_bag K) := by
  refine F0.ok sc_law_bag (fun vs H Q E h => ?_) (fun cdv A outer s H vs Q E hr h => ?_)
  · obtain ⟨_, _, _, rfl, _⟩ := h
    rfl
  · obtain ⟨a, ns, k, rfl, ha, hk, q⟩ := h
    have nd := sc_law_bag.nd
    refine ⟨_, (pss_cons (ps_set (i := 2) nd rfl (Or.inl rfl) (pe_op op_add (pe_op op_add (pe_op op_mul (pe_op op_mul pe_int (pv 1)) (pv 1)) (pe_op op_mul pe_int (pv 1))) pe_int))
      (pss_cons (ps_if (pt_cmpR op_lt (pv 1) (pe_callB call_len_seq (by rfl) B._len boot_len (pa_cons (pv 0) pa_nil)) (nomark _))
        (pss_one (ps_set (i := 2) nd rfl (Or.inl rfl) (pe_ix (r := rIxL K) ix_list (pv 0) (pv 1) (fun _ _ => rfl))))
        pss_nil)
      (pss_one (ps_ret (pe_lst (pa_cons (pe_op op_mul (pe_callB call_abs (by rfl) B._abs boot_abs (pa_cons (pv 2) pa_nil)) (pe_callTy call_int1 (by rfl) B._int boot_int (pa_cons (pe_cmpR op_ge (pe_callB call_abs (by rfl) B._abs boot_abs (pa_cons (pv 2) pa_nil)) (pe_op op_pow pe_int pe_int) (nomark _)) pa_nil))) (pa_cons (pe_op op_add (pe_op op_mod (pv 2) pe_int) (pe_op op_mul pe_int (pv 1))) (pa_cons pe_int pa_nil)))))))), ?_⟩
    have bag : ∀ (c : Int) (p : Addr), H p = none → BagN (upd H p (.lst [.int ((if c < 0 then -c else c) * (if decide ((10 : Int) ^ (18 : Int).toNat ≤ (if c < 0 then -c else c)) = true then 1 else 0)), .int (c % 2147483647 + 37 * (k : Nat)), .int 0])) p 0 := fun c p np => by
      refine ⟨_, _, _, upd_same, ?_, ?_, Int.le_refl _, Int.le_refl _⟩
      · by_cases h : decide ((10 : Int) ^ (18 : Int).toNat ≤ (if c < 0 then -c else c)) = true
        · rw [if_pos h]
          split <;> omega
        · rw [if_neg h]
          omega
      · have h1 := Int.emod_nonneg c (b := 2147483647) (by decide)
        have h2 := Int.emod_lt_of_pos c (b := 2147483647) (by decide)
        omega
    refine ⟨_, rfl, _, _, rfl, rfl, .inl ⟨by decide, by decide⟩, _, rfl, _, _, rfl, rfl, .inr ⟨by omega, by omega⟩, _, rfl, _, _, rfl, rfl, .inl ⟨by decide, by decide⟩, _, _, rfl, rfl, _, _, rfl, rfl, ?_⟩
    refine ⟨_, rfl, _, rfl, a, _, rfl, .inl ha, _, _, rfl, rfl, _, rfl, ?_⟩
    rw [List.length_map]
    have c01 : ∀ b : Bool, -(2 : Int) ^ 64 < (if b = true then 1 else 0) ∧ (if b = true then 1 else 0) < (2 : Int) ^ 64 := by decide
    by_cases hk2 : (k : Int) < (ns.length : Nat)
    · rw [decide_eq_true hk2]
      refine iteT ?_
      have hk3 : k < ns.length := by omega
      refine ⟨_, rfl, _, rfl, a, _, k, .int ns[k], rfl, rfl, ha, atI_nat (by rw [List.getElem?_map, List.getElem?_eq_getElem hk3]; rfl), ?_⟩
      refine ⟨_, rfl, _, rfl, _, rfl, _, rfl, _, _, rfl, rfl, ⟨by decide, by decide, by decide⟩, _, _, rfl, rfl, .inr ⟨_, rfl, ?_⟩⟩
      refine ⟨_, _, rfl, rfl, .inr (c01 _), _, rfl, _, _, rfl, rfl, (by show (0 : Int) < 2147483647; decide), _, rfl, _, _, rfl, rfl, .inl ⟨by decide, by decide⟩, _, _, rfl, rfl, le_line (by show 3 ≤ 1000; decide), fun p np => q _ p (same_new np) np (bag _ p np)⟩
    · rw [decide_eq_false hk2]
      refine iteF ?_
      refine ⟨_, rfl, _, rfl, _, rfl, _, rfl, _, _, rfl, rfl, ⟨by decide, by decide, by decide⟩, _, _, rfl, rfl, .inr ⟨_, rfl, ?_⟩⟩
      refine ⟨_, _, rfl, rfl, .inr (c01 _), _, rfl, _, _, rfl, rfl, (by show (0 : Int) < 2147483647; decide), _, rfl, _, _, rfl, rfl, .inl ⟨by decide, by decide⟩, _, _, rfl, rfl, le_line (by show 3 ≤ 1000; decide), fun p np => q _ p (same_new np) np (bag _ p np)⟩
abbrev C_law_bag (P : Program) (w : World) (K : PySem.W.Frag) (mg : Str → Option Value) (base : Heap) := Cal P w K mg base 1 "_law_bag" ["_law_script", "_law_k"] (sp_law_bag K)
def sp_law_take : Sp := fun vs H Q _ => ∃ (p : Addr) (m : Int) (n : Nat), vs = [.ref p, .int m] ∧ BagN H p n ∧ n ≤ 100000 ∧ (0 < m ∧ m < 1000) ∧ ∀ (H' : Hp) (d : Int), Ex p H H' → BagN H' p (n + 1) → 0 ≤ d → d < m → Q (.int d) H'
def primes : List Int := [2147483629, 2147483587, 2147483579, 2147483563, 2147483549, 2147483543, 2147483497]
theorem prime_at (i : Int) : ∃ q : Int, atI (primes.map V.int) (i % 7) = some (.int q) ∧ 0 < q ∧ q < 2147483648 := by
  have h1 := Int.emod_nonneg i (b := 7) (by decide)
  have h2 := Int.emod_lt_of_pos i (b := 7) (by decide)
  generalize i % 7 = j at h1 h2
  have : j = 0 ∨ j = 1 ∨ j = 2 ∨ j = 3 ∨ j = 4 ∨ j = 5 ∨ j = 6 := by omega
  rcases this with rfl | rfl | rfl | rfl | rfl | rfl | rfl <;> exact ⟨_, rfl, by decide, by decide⟩
theorem ok_law_take {f : Addr} {fd : FuncData} (F0 : Fun K "_law_take" "_law_take" s_law_take f fd) : FnOk P w K mg base CX0 1 f fd ["_law_bag_here", "_law_many"] sp_law_take := by
  refine F0.ok sc_law_take (fun vs H Q E h => ?_) (fun cdv A outer s H vs Q E hr h => ?_)
  · obtain ⟨_, _, _, rfl, _⟩ := h
    rfl
  · obtain ⟨p, m, n, rfl, ⟨b0, b1, b2, hp, h0, ⟨h1, h1'⟩, h2, h2'⟩, hn, ⟨m0, m1⟩, q⟩ := h
    have nd := sc_law_take.nd
    refine ⟨_, (pss_cons (ps_if (pt_cmpR op_gt (pe_ix (r := rIxL K) ix_list (pv 0) pe_int (fun _ _ => rfl)) pe_int (nomark _))
        (pss_cons (ps_set (i := 2) nd rfl (Or.inl rfl) (pe_op op_mod (pe_ix (r := rIxL K) ix_list (pv 0) pe_int (fun _ _ => rfl)) (pv 1)))
        (pss_cons (ps_asg (pe_op op_fdiv (pe_ix (r := rIxL K) ix_list (pv 0) pe_int (fun _ _ => rfl)) (pv 1)) (pg_sub (pv 0) pe_int set_list))
        (pss_one (ps_ret (pv 2)))))
        pss_nil)
      (pss_cons (ps_set (i := 3) nd rfl (Or.inl rfl) (pe_tup (pa_cons pe_int (pa_cons pe_int (pa_cons pe_int (pa_cons pe_int (pa_cons pe_int (pa_cons pe_int (pa_cons pe_int pa_nil)))))))))
      (pss_cons (ps_asg (pe_op op_add (pe_ix (r := rIxL K) ix_list (pv 0) pe_int (fun _ _ => rfl)) pe_int) (pg_sub (pv 0) pe_int set_list))
      (pss_cons (ps_set (i := 4) nd rfl (Or.inl rfl) (pe_ix (r := rIxL K) ix_list (pv 0) pe_int (fun _ _ => rfl)))
      (pss_cons (ps_set (i := 5) nd rfl (Or.inl rfl) (pe_op op_add (pe_op op_add (pe_op op_mul (pe_ix (r := rIxL K) ix_list (pv 0) pe_int (fun _ _ => rfl)) (pe_op op_add (pe_op op_mul pe_int (pv 4)) pe_int)) (pe_op op_mul (pe_op op_mul pe_int (pv 4)) (pv 4))) pe_int))
      (pss_cons (ps_set (i := 6) nd rfl (Or.inl rfl) (pe_op op_mod (pe_op op_pow (pv 5) pe_int) (pe_ix (r := rIxT K) ix_tup (pv 3) (pe_op op_mod (pv 4) pe_int) (fun _ _ => rfl))))
      (pss_one (ps_ret (pe_op op_mod (pe_op op_fdiv (pe_op op_mod (pe_op op_mul (pv 6) (pe_op op_add (pe_op op_fdiv (pv 6) pe_int) pe_int)) (pe_ix (r := rIxT K) ix_tup (pv 3) (pe_op op_mod (pe_op op_add (pv 4) pe_int) pe_int) (fun _ _ => rfl))) pe_int) (pv 1)))))))))), ?_⟩
    refine ⟨_, rfl, p, _, 0, .int b0, rfl, rfl, SqL.of hp, rfl, _, _, rfl, rfl, _, rfl, ?_⟩
    by_cases hb : 0 < b0
    · rw [decide_eq_true hb]
      refine iteT ?_
      refine ⟨_, rfl, p, _, 0, .int b0, rfl, rfl, SqL.of hp, rfl, _, rfl, _, _, rfl, rfl, m0, ?_⟩
      refine ⟨_, rfl, p, _, 0, .int b0, rfl, rfl, SqL.of hp, rfl, _, rfl, _, _, rfl, rfl, ⟨m0, by omega⟩, ?_⟩
      refine ⟨_, rfl, p, _, 0, 0, rfl, rfl, hp, rfl, ?_⟩
      refine ⟨_, rfl, ?_⟩
      refine q _ _ ex_upd ⟨_, _, _, upd_same, Int.ediv_nonneg h0 (Int.le_of_lt m0), ⟨h1, h1'⟩, h2, by omega⟩ (Int.emod_nonneg _ (by omega)) (Int.emod_lt_of_pos _ m0)
    · rw [decide_eq_false hb]
      refine iteF ?_
      refine ⟨le_line (by show 7 ≤ 1000; decide), fun t nt => ?_⟩
      have s1 := same_new (o := .tup (primes.map V.int)) nt
      have ht : (upd H t (.tup (primes.map V.int))) t = some (.tup (primes.map V.int)) := upd_same
      have hp1 := s1 _ _ hp
      change ∀ _, _ at s1
      have eg : (upd H t (.tup [.int 2147483629, .int 2147483587, .int 2147483579, .int 2147483563, .int 2147483549, .int 2147483543, .int 2147483497])) = (upd H t (.tup (primes.map V.int))) := rfl
      rw [eg]
      generalize upd H t (.tup (primes.map V.int)) = H1 at s1 ht hp1 ⊢
      refine ⟨_, rfl, p, _, 2, .int b2, rfl, rfl, SqL.of hp1, rfl, _, _, rfl, rfl, _, rfl, p, _, 2, 2, rfl, rfl, hp1, rfl, ?_⟩
      have e2 : Ex p H (upd H1 p (.lst [.int b0, .int b1, .int (b2 + 1)])) := (ex_of s1).trans ex_upd
      have bg : BagN (upd H1 p (.lst [.int b0, .int b1, .int (b2 + 1)])) p (n + 1) := ⟨_, _, _, upd_same, h0, ⟨h1, h1'⟩, by omega, by omega⟩
      have hp2 : (upd H1 p (.lst [.int b0, .int b1, .int (b2 + 1)])) p = some (.lst [.int b0, .int b1, .int (b2 + 1)]) := upd_same
      have ht2 := ts_lst (o := .lst [.int b0, .int b1, .int (b2 + 1)]) hp1 _ _ ht
      have es : ([V.int b0, V.int b1, V.int b2].set 2 (V.int (b2 + 1))) = [.int b0, .int b1, .int (b2 + 1)] := rfl
      rw [es]
      generalize upd H1 p (.lst [.int b0, .int b1, .int (b2 + 1)]) = H2 at e2 bg hp2 ht2 ⊢
      refine ⟨_, rfl, p, _, 2, .int (b2 + 1), rfl, rfl, SqL.of hp2, rfl, ?_⟩
      have b2n : b2 + 1 ≤ 1000000 := by omega
      have st0 : 0 ≤ b2 + 1 := by omega
      generalize b2 + 1 = st at b2n st0 hp2 ⊢
      refine ⟨_, rfl, p, _, 1, .int b1, rfl, rfl, SqL.of hp2, rfl, _, rfl, _, _, rfl, rfl, .inl ⟨by decide, by decide⟩, _, _, rfl, rfl, _, _, rfl, rfl, .inl ⟨by omega, by omega⟩, _, rfl, _, _, rfl, rfl, .inl ⟨by decide, by decide⟩, _, rfl, _, _, rfl, rfl, .inr ⟨by omega, by omega⟩, _, _, rfl, rfl, _, _, rfl, rfl, ?_⟩
      have hbs : 0 ≤ b1 * (2 * st + 1) + 6007 * st * st + 29 ∧ b1 * (2 * st + 1) + 6007 * st * st + 29 < 18446744073709551616 := by
        have a1 : 0 ≤ b1 * (2 * st + 1) := Int.mul_nonneg h1 (by omega)
        have a2 : b1 * (2 * st + 1) ≤ 4294967296 * 2000001 := Int.mul_le_mul (by omega) (by omega) (by omega) (by decide)
        have a3 : 0 ≤ 6007 * st * st := Int.mul_nonneg (by omega) st0
        have a4 : 6007 * st * st ≤ 6007000000 * 1000000 := Int.mul_le_mul (by omega) (by omega) (by omega) (by decide)
        omega
      dsimp only
      generalize b1 * (2 * st + 1) + 6007 * st * st + 29 = bs at hbs ⊢
      obtain ⟨q1, e1, q1a, q1b⟩ := prime_at st
      obtain ⟨q2, e3, q2a, q2b⟩ := prime_at (st + 3)
      refine ⟨_, rfl, _, _, rfl, rfl, ⟨by decide, by decide, by omega⟩, _, rfl, _, rfl, _, _, rfl, rfl, (by show (0 : Int) < 7; decide), t, _, _, _, rfl, rfl, SqT.of ht2, e1, _, _, rfl, rfl, q1a, ?_⟩
      dsimp only
      generalize bs ^ (3 : Int).toNat = cu
      have f1 := Int.emod_nonneg cu (b := q1) (by omega)
      have f2 := Int.emod_lt_of_pos cu q1a
      generalize cu % q1 = fo at f1 f2 ⊢
      refine ⟨_, rfl, _, rfl, _, _, rfl, rfl, ⟨by decide, by decide⟩, _, _, rfl, rfl, _, _, rfl, rfl, .inl ⟨by omega, by omega⟩, _, rfl, _, rfl, _, _, rfl, rfl, _, _, rfl, rfl, (by show (0 : Int) < 7; decide), t, _, _, _, rfl, rfl, SqT.of ht2, e3, _, _, rfl, rfl, q2a, _, _, rfl, rfl, ⟨by decide, by decide⟩, _, rfl, _, _, rfl, rfl, m0, ?_⟩
      exact q _ _ e2 bg (Int.emod_nonneg _ (by omega)) (Int.emod_lt_of_pos _ m0)
abbrev C_law_take (P : Program) (w : World) (K : PySem.W.Frag) (mg : Str → Option Value) (base : Heap) := Cal P w K mg base 1 "_law_take" ["_law_bag_here", "_law_many"] sp_law_take
/-! ### names -/
def one (c : Nat) : Str := ⟨#[c]⟩
theorem glue_fold : ∀ (cs : List Nat) (acc : Array Nat), (List.foldl (fun acc (p : Str) => acc ++ ("" : Str).cps ++ p.cps) acc (cs.map one)).toList = acc.toList ++ cs
  | [], acc => by simp
  | c :: cs, acc => by
    rw [List.map_cons, List.foldl_cons, glue_fold cs]
    have e : ("" : Str).cps = #[] := by decide +kernel
    rw [e]
    simp [one]
theorem glue_ones (c : Nat) (cs : List Nat) : (Txt.join ("" : Str) ((c :: cs).map one)).cps.toList = c :: cs := by
  show (List.foldl (fun acc (p : Str) => acc ++ ("" : Str).cps ++ p.cps) (one c).cps (cs.map one)).toList = _
  rw [glue_fold]
  rfl
theorem ones_len (cs : List Nat) : ((cs.map one).map fun x => x.length).sum = cs.length := by
  induction cs with
  | nil => rfl
  | cons c cs ih =>
    rw [List.map_cons, List.map_cons, List.sum_cons, ih, List.length_cons]
    show 1 + _ = _
    omega
theorem letter_at {d : Int} (h0 : 0 ≤ d) (h1 : d < 26) : ∃ c : Nat, atI ("abcdefghijklmnopqrstuvwxyz" : Str).cps.toList d = some c ∧ 97 ≤ c ∧ c ≤ 122 := by
  rw [letters_cps]
  have hd : d = ((d.toNat : Nat) : Int) := by omega
  have hl : d.toNat < 26 := by omega
  rw [hd]
  generalize d.toNat = j at hl
  have : j = 0 ∨ j = 1 ∨ j = 2 ∨ j = 3 ∨ j = 4 ∨ j = 5 ∨ j = 6 ∨ j = 7 ∨ j = 8 ∨ j = 9 ∨ j = 10 ∨ j = 11 ∨ j = 12 ∨ j = 13 ∨ j = 14 ∨ j = 15 ∨ j = 16 ∨ j = 17 ∨ j = 18 ∨ j = 19 ∨ j = 20 ∨ j = 21 ∨ j = 22 ∨ j = 23 ∨ j = 24 ∨ j = 25 := by omega
  rcases this with rfl | rfl | rfl | rfl | rfl | rfl | rfl | rfl | rfl | rfl | rfl | rfl | rfl | rfl | rfl | rfl | rfl | rfl | rfl | rfl | rfl | rfl | rfl | rfl | rfl | rfl <;> exact ⟨_, rfl, by decide, by decide⟩
def sp_law_name : Sp := fun vs H Q _ => ∃ (p : Addr) (n : Nat), vs = [.ref p] ∧ BagN H p n ∧ n ≤ 90000 ∧ ∀ (H' : Hp) (z : Str), Ex p H H' → BagN H' p (n + 9) → NameOk z → Q (.str z) H'
theorem ok_law_name {f f1 : Addr} {fd fd1 : FuncData} (F0 : Fun K "_law_name" "_law_name" s_law_name f fd) (B : Blt mg) (c_law_take : C_law_take P w K mg base f1 fd1) : FnOk P w K mg base CX0 2 f fd ["_law_bag_here"] sp_law_name := by
  refine F0.ok sc_law_name (fun vs H Q E h => ?_) (fun cdv A outer s H vs Q E hr h => ?_)
  · obtain ⟨_, _, rfl, _⟩ := h
    rfl
  · obtain ⟨p, n, rfl, bg, hn, q⟩ := h
    have nd := sc_law_name.nd
    refine ⟨_, (pss_cons (ps_set (i := 1) nd rfl (Or.inr rfl) pe_str)
      (pss_one (ps_ret (pe_join pe_str (pe_lc (own := [("_law_place", 2)]) rfl nd (pi_range1 (by rfl) B._range (pa_cons (pe_op op_add pe_int (pe_call c_law_take.F (hr.mono (by decide)) (by rfl) c_law_take.g c_law_take.kp c_law_take.b .nil pass0 (pa_cons (pv 0) (pa_cons pe_int pa_nil)))) pa_nil)) (blkOk_by (own := [("_law_place", 2)]) (N := n_law_name) (sc := defScope s_law_name) (by decide +kernel)) (fun _ _ _ _ _ => (pg_name (i := 2) nd rfl (Or.inl rfl))) (fun _ _ _ _ _ => pts_nil) (fun _ _ _ _ _ => (pe_ix ix_str (pv 1) (pe_call c_law_take.F (hr.mono (by decide)) (by rfl) c_law_take.g c_law_take.kp c_law_take.b .nil pass0 (pa_cons (pv 0) (pa_cons pe_int pa_nil))) (fun _ _ => rfl)))))))), ?_⟩
    refine ⟨⟨_, rfl⟩, _, rfl, p, 8, n, rfl, bg, by omega, ⟨by decide, by decide⟩, fun H1 d e1 b1 d0 d1 => ?_⟩
    refine ⟨_, _, rfl, rfl, _, rfl, by omega, by omega, fun D nD => ?_⟩
    have hpD : p ≠ D := fun z => by
      obtain ⟨_, e⟩ := b1.ls
      rw [z, nD] at e
      cases e
    refine lc_it walk_range (fun i H2 => Ex p H1 H2 ∧ BagN H2 p (n + 1 + i) ∧ ∃ cs : List Nat, H2 D = some (.lst ((cs.map one).map V.str)) ∧ cs.length = i ∧ ∀ c ∈ cs, 97 ≤ c ∧ c ≤ 122)
      ⟨ex_of (same_new nD), b1.mut hpD, [], upd_same, rfl, fun _ h => by cases h⟩ (fun _ _ _ _ => trivial) ?_ ?_
    · rintro i x _ H2 hi ⟨e2, b2, cs, hD, lc, hc⟩ ⟨rfl, rfl⟩
      refine ⟨rfl, _, rfl, _, rfl, p, 26, _, rfl, b2, by omega, ⟨by decide, by decide⟩, fun H3 d2 e3 b3 d20 d21 => ?_⟩
      obtain ⟨c, ec, c1, c2⟩ := letter_at d20 d21
      refine ⟨_, _, c, rfl, rfl, le_line (by show 26 ≤ 1000; decide), ec, ?_⟩
      have hD3 := e3 _ _ hpD.symm hD
      refine ⟨_, hD3, by rw [List.length_map, List.length_map]; exact small1000 (by omega), ex_mut (e2.trans e3) nD, b3.mut hpD, cs ++ [c], ?_, ?_, ?_⟩
      · rw [upd_same, List.map_append, List.map_append]
        rfl
      · rw [List.length_append, lc]
        rfl
      · intro y hy
        rcases List.mem_append.mp hy with hy | hy
        · exact hc y hy
        · rw [List.mem_singleton.mp hy]
          exact ⟨c1, c2⟩
    · rintro H2 ⟨e2, b2, cs, hD, lc, hc⟩
      refine ⟨_, D, cs.map one, rfl, rfl, .inl (SqL.of hD), ?_, ?_⟩
      · rw [ones_len, List.length_map]
        have e : ("" : Str).length = 0 := by decide +kernel
        rw [e]
        omega
      · match cs, lc, hc with
        | [], lc, _ =>
          simp only [List.length_nil] at lc
          omega
        | c :: cs, lc, hc =>
          have g := glue_ones c cs
          have gl : (Txt.join ("" : Str) ((c :: cs).map one)).length = (c :: cs).length := by
            show (Txt.join ("" : Str) ((c :: cs).map one)).cps.size = _
            rw [← Array.length_toList, g]
          refine q _ _ (e1.trans e2) (b2.le (by omega)) ⟨?_, ?_, ?_⟩
          · rw [gl, List.length_cons]
            omega
          · rw [gl]
            omega
          · rw [g]
            exact hc
abbrev C_law_name (P : Program) (w : World) (K : PySem.W.Frag) (mg : Str → Option Value) (base : Heap) := Cal P w K mg base 2 "_law_name" ["_law_bag_here"] sp_law_name
/-- a name with another first letter -/
def cand (z : Str) (c : Nat) : Str := one c ++ cutS z (some 1) none
theorem cand_cps {z : Str} (h : NameOk z) (c : Nat) : (cand z c).cps.toList = c :: z.cps.toList.drop 1 := by
  have h1 := h.1
  have hl : z.cps.toList.length = z.length := Array.length_toList
  have e : (cutS z (some 1) none).cps.toList = z.cps.toList.drop 1 := by
    have e1 : HT.sIx z.length 0 (some 1) = 1 := by
      show (if (1 : Int) < 0 then ((1 : Int) + z.length).toNat else min (1 : Int).toNat z.length) = 1
      rw [if_neg (by decide)]
      show min 1 z.length = 1
      omega
    have e2 : HT.sIx z.length z.length none = z.length := rfl
    unfold cutS
    rw [e1, e2, List.take_of_length_le (by rw [List.length_drop, hl]; exact Nat.le_refl _)]
  show (#[c] ++ (cutS z (some 1) none).cps).toList = _
  rw [Array.toList_append, e]
  rfl
theorem cand_len {z : Str} (h : NameOk z) (c : Nat) : (cand z c).length = z.length := by
  have h1 := h.1
  have hl : z.cps.toList.length = z.length := Array.length_toList
  show (cand z c).cps.size = _
  rw [← Array.length_toList, cand_cps h, List.length_cons, List.length_drop, hl]
  omega
theorem cand_ok {z : Str} (h : NameOk z) {c : Nat} (h1 : 97 ≤ c) (h2 : c ≤ 122) : NameOk (cand z c) := by
  refine ⟨by rw [cand_len h]; exact h.1, by rw [cand_len h]; exact h.2.1, ?_⟩
  rw [cand_cps h]
  intro y hy
  rcases List.mem_cons.mp hy with rfl | hy
  · exact ⟨h1, h2⟩
  · exact h.2.2 y (List.mem_of_mem_drop hy)
def abc : List Nat := ("abcdefghijklmnopqrstuvwxyz" : Str).cps.toList
theorem abc_nd : abc.Nodup := by
  unfold abc
  rw [letters_cps]
  decide
theorem abc_len : abc.length = 26 := by
  unfold abc
  rw [letters_cps]
  rfl
theorem abc_in {c : Nat} (h : c ∈ abc) : 97 ≤ c ∧ c ≤ 122 := by
  unfold abc at h
  rw [letters_cps] at h
  simp only [List.mem_cons, List.not_mem_nil, or_false] at h
  omega
def fresh (z : Str) (zs : List Str) (l : List Nat) : List Str := (l.map (cand z)).filter fun x => decide (x ∉ zs)
theorem fresh_some {z : Str} (h : NameOk z) {zs : List Str} (hl : zs.length ≤ 10) : ∃ x l, fresh z zs abc = x :: l := by
  cases e : fresh z zs abc with
  | cons x l => exact ⟨x, l, rfl⟩
  | nil =>
    exfalso
    have nd : (abc.map (cand z)).Nodup := by
      unfold List.Nodup
      rw [List.pairwise_map]
      refine abc_nd.imp fun {a b} n e => n ?_
      have z1 := congrArg (fun x : Str => x.cps.toList) e
      rw [cand_cps h, cand_cps h] at z1
      exact (List.cons.inj z1).1
    have sub : ∀ x ∈ abc.map (cand z), x ∈ zs := fun x hx => by
      by_cases m : x ∈ zs
      · exact m
      · have : x ∈ fresh z zs abc := List.mem_filter.mpr ⟨hx, decide_eq_true m⟩
        rw [e] at this
        cases this
    have := List.Nodup.length_le_of_subset nd sub
    rw [List.length_map, abc_len] at this
    omega
theorem fresh_in {z : Str} (h : NameOk z) {zs : List Str} {l : List Nat} (hl : ∀ c ∈ l, 97 ≤ c ∧ c ≤ 122) {x : Str} (m : x ∈ fresh z zs l) : NameOk x ∧ x ∉ zs := by
  obtain ⟨m1, m2⟩ := List.mem_filter.mp m
  obtain ⟨c, hc, rfl⟩ := List.mem_map.mp m1
  exact ⟨cand_ok h (hl c hc).1 (hl c hc).2, of_decide_eq_true m2⟩
def sp_law_names : Sp := fun vs H Q _ => ∃ (p : Addr) (m : Int) (n : Nat), vs = [.ref p, .int m] ∧ BagN H p n ∧ n ≤ 80000 ∧ 0 ≤ m ∧ m ≤ 4 ∧ ∀ (H' : Hp) (r : Addr) (zs : List Str), Ex p H H' → BagN H' p (n + 36) → H r = none → H' r = some (.lst (zs.map V.str)) → zs.length ≤ 4 → zs.Nodup → (∀ z ∈ zs, NameOk z) → Q (.ref r) H'
theorem ok_law_names {f f1 : Addr} {fd fd1 : FuncData} (F0 : Fun K "_law_names" "_law_names" s_law_names f fd) (B : Blt mg) (c_law_name : C_law_name P w K mg base f1 fd1) : FnOk P w K mg base CX0 3 f fd ["_law_bag_here", "_law_many"] sp_law_names := by
  refine F0.ok sc_law_names (fun vs H Q E h => ?_) (fun cdv A outer s H vs Q E hr h => ?_)
  · obtain ⟨_, _, _, rfl, _⟩ := h
    rfl
  · obtain ⟨p, m, n, rfl, bg, hn, m0, m4, q⟩ := h
    have nd := sc_law_names.nd
    refine ⟨_, (pss_cons (ps_set (i := 2) nd rfl (Or.inr rfl) (pe_lst pa_nil))
      (pss_cons (ps_for PassesOwn.never rfl (pi_range1 (by rfl) B._range (pa_cons (pv 1) pa_nil)) (pg_name (i := 3) nd rfl (Or.inl rfl))
        (pss_cons (ps_set (i := 4) nd rfl (Or.inr rfl) (pe_call c_law_name.F (hr.mono (by decide)) (by rfl) c_law_name.g c_law_name.kp c_law_name.b .nil pass0 (pa_cons (pv 0) pa_nil)))
        (pss_cons (ps_if (pt_cmpR (r := rIn K false) op_in_seq (pv 4) (pv 2) (by rfl))
          (pss_one (ps_set (i := 4) nd rfl (Or.inr rfl) (pe_ix (r := rIxL K) ix_list (pe_lc (own := [("_law_one", 5)]) rfl nd (pi_str pe_str) (blkOk_by (own := [("_law_one", 5)]) (N := n_law_names) (sc := defScope s_law_names) (by decide +kernel)) (fun _ _ _ _ _ => (pg_name (i := 5) nd rfl (Or.inl rfl))) (fun _ _ _ _ _ => (pts_one (pt_cmpR (r := rIn K true) op_notIn_seq (pe_op op_add_str (pv 5) (pe_slice sl_str (pv 4) (po_some pe_int) po_none)) (pv 2) (by rfl)))) (fun _ _ _ _ _ => (pe_op op_add_str (pv 5) (pe_slice sl_str (pv 4) (po_some pe_int) po_none)))) pe_int (fun _ _ => rfl))))
          pss_nil)
        (pss_one (ps_expr (pe_bm PySem.F.plainAttrs_list PySem.F.slot_list_append PySem.F.type_list_append mt_append (pv 2) (pa_cons (pv 4) pa_nil)))))))
      (pss_one (ps_ret (pv 2))))), ?_⟩
    refine ⟨Nat.zero_le _, fun r nr => ?_⟩
    have hpr : p ≠ r := fun z => by
      obtain ⟨_, e⟩ := bg.ls
      rw [z, nr] at e
      cases e
    refine ⟨_, rfl, _, rfl, by omega, by omega, for_it walk_range (fun k σ H' => ∃ y3 y4 y5 zs, σ = [some (.ref p), some (.int m), some (.ref r), y3, y4, y5] ∧ Ex p H H' ∧ BagN H' p (n + 9 * k) ∧ H' r = some (.lst (zs.map V.str)) ∧ zs.length = k ∧ zs.Nodup ∧ ∀ z ∈ zs, NameOk z)
      ⟨_, _, _, [], rfl, ex_of (same_new nr), bg.mut hpr, upd_same, rfl, .nil, fun _ h => by cases h⟩ (fun _ _ _ _ _ => trivial) ?_ ?_⟩
    · rintro k x σ _ H1 hk ⟨y3, y4, y5, zs, rfl, e1, b1, hr1, lz, nz, oz⟩ ⟨rfl, rfl⟩
      refine ⟨_, rfl, p, n + 9 * k, rfl, b1, by omega, fun H2 z e2 b2 oz2 => ?_⟩
      have hr2 := e2 _ _ hpr.symm hr1
      have ex2 := e1.trans e2
      -- what is appended
      have tail : ∀ (H3 : Hp) (z3 : Str) (y : Option V), Ex p H H3 → BagN H3 p (n + 9 * (k + 1)) → H3 r = some (.lst (zs.map V.str)) → z3 ∉ zs → NameOk z3 →
          ∃ (y3' y4' y5' : Option V) (zs' : List Str), [some (.ref p), some (.int m), some (.ref r), some (V.int (0 + (k : Int))), some (V.str z3), y] = [some (.ref p), some (.int m), some (.ref r), y3', y4', y5'] ∧ Ex p H (upd H3 r (.lst (zs.map V.str ++ [V.str z3]))) ∧ BagN (upd H3 r (.lst (zs.map V.str ++ [V.str z3]))) p (n + 9 * (k + 1)) ∧ (upd H3 r (.lst (zs.map V.str ++ [V.str z3]))) r = some (.lst (zs'.map V.str)) ∧ zs'.length = k + 1 ∧ zs'.Nodup ∧ ∀ z ∈ zs', NameOk z :=
        fun H3 z3 y e3 b3 h3 n3 o3 => by
          refine ⟨_, _, _, zs ++ [z3], rfl, ex_mut e3 nr, b3.mut hpr, ?_, by rw [List.length_append, lz]; rfl, ?_, ?_⟩
          · rw [upd_same, List.map_append]
            rfl
          · rw [List.nodup_append]
            refine ⟨nz, List.pairwise_singleton _ _, fun a ha b hb e => ?_⟩
            rw [List.mem_singleton.mp hb] at e
            exact n3 (e ▸ ha)
          · intro z hz
            rcases List.mem_append.mp hz with hz | hz
            · exact oz z hz
            · rw [List.mem_singleton.mp hz]
              exact o3
      refine ⟨_, rfl, _, rfl, r, _, rfl, .inl (SqL.of hr2), rfl, flat_map_str _, decide (z ∈ zs), ?_, ?_⟩
      · exact congrArg V.bl (inV_strs z zs)
      by_cases hz : z ∈ zs
      · rw [decide_eq_true hz]
        refine iteT ?_
        refine ⟨_, rfl, fun D nD => ?_⟩
        refine lc_it walk_str (fun i H3 => Same H2 H3 ∧ H3 D = some (.lst ((fresh z zs (abc.take i)).map V.str))) ⟨same_new nD, upd_same⟩ (fun _ _ _ _ => trivial) ?_ ?_
        · rintro i x _ H3 hi ⟨s3, hD⟩ ⟨rfl, c, hc, rfl⟩
          have hca : abc[i]? = some c := by
            unfold abc
            rw [Array.getElem?_toList]
            exact hc
          have ii := (List.getElem?_eq_some_iff.mp hca).1
          rw [abc_len] at ii
          have ef : fresh z zs (abc.take (i + 1)) = fresh z zs (abc.take i) ++ (if cand z c ∉ zs then [cand z c] else []) := by
            unfold fresh
            rw [take_snoc hca, List.map_append, List.filter_append]
            by_cases hm : cand z c ∈ zs
            · rw [if_neg (fun y => y hm)]
              congr 1
              exact List.filter_cons_of_neg (by simp [hm])
            · rw [if_pos hm]
              congr 1
              exact List.filter_cons_of_pos (by simp [hm])
          have zl : z.length ≤ sizeLine := le_line (Nat.le_trans oz2.2.1 (by decide))
          have cl : (one c).length + (cutS z (some 1) none).length ≤ sizeLine := by
            refine le_line ?_
            have e := cand_len oz2 c
            have e2 : (cand z c).length = (one c).length + (cutS z (some 1) none).length := Array.size_append
            have := oz2.2.1
            omega
          refine ⟨rfl, _, rfl, _, rfl, 1, rfl, z, rfl, zl, _, _, rfl, rfl, cl, _, rfl, r, _, rfl, .inl (SqL.of (s3 _ _ hr2)), rfl, flat_map_str _, decide (cand z c ∉ zs), ?_, ?_⟩
          · refine congrArg V.bl ?_
            show (!inV (.str (cand z c)) (zs.map V.str)) = _
            rw [inV_strs]
            simp
          rw [ef]
          by_cases hm : cand z c ∈ zs
          · rw [decide_eq_false (fun y => y hm), if_neg (fun y => y hm), List.append_nil]
            exact iteF ⟨s3, hD⟩
          · rw [decide_eq_true hm, if_pos hm]
            refine iteT ?_
            refine ⟨_, rfl, _, rfl, 1, rfl, z, rfl, zl, _, _, rfl, rfl, cl, _, hD, ?_, same_mut s3 nD, ?_⟩
            · rw [List.length_map]
              refine small1000 (Nat.le_trans (List.length_filter_le _ _) ?_)
              rw [List.length_map, List.length_take]
              omega
            · rw [upd_same, List.map_append]
              rfl
        · rintro H3 ⟨s3, hD⟩
          have ea : abc.take ("abcdefghijklmnopqrstuvwxyz" : Str).cps.size = abc := List.take_of_length_le (by unfold abc; rw [Array.length_toList]; exact Nat.le_refl _)
          rw [ea] at hD
          obtain ⟨x, l, ex⟩ := fresh_some (zs := zs) oz2 (by omega)
          obtain ⟨o3, n3⟩ := fresh_in oz2 (fun c hc => abc_in hc) (show x ∈ fresh z zs abc by rw [ex]; exact List.mem_cons_self)
          rw [ex] at hD
          refine ⟨D, _, 0, .str x, rfl, rfl, SqL.of hD, atI_nat (j := 0) rfl, ?_⟩
          have hr3 := s3 _ _ hr2
          refine ⟨_, rfl, .inl ⟨rfl, _, SqL.of hr3⟩, _, rfl, r, _, _, rfl, rfl, hr3, by rw [List.length_map]; exact small1000 (by omega), ?_⟩
          exact tail H3 x _ (ex2.trans (ex_of s3)) ((b2.keep s3).le (by omega)) hr3 n3 o3
      · rw [decide_eq_false hz]
        refine iteF ?_
        refine ⟨_, rfl, .inl ⟨rfl, _, SqL.of hr2⟩, _, rfl, r, _, _, rfl, rfl, hr2, by rw [List.length_map]; exact small1000 (by omega), ?_⟩
        exact tail H2 z _ ex2 (b2.le (by omega)) hr2 hz oz2
    · rintro σ H1 ⟨y3, y4, y5, zs, rfl, e1, b1, hr1, lz, nz, oz⟩
      exact ⟨_, rfl, q _ r zs e1 (b1.le (by omega)) nr hr1 (by omega) nz oz⟩
abbrev C_law_names (P : Program) (w : World) (K : PySem.W.Frag) (mg : Str → Option Value) (base : Heap) := Cal P w K mg base 3 "_law_names" ["_law_bag_here", "_law_many"] sp_law_names
/-! ### loops -/
/-- what lies at neither place stands -/
def Ex2 (p r : Addr) (H H' : Hp) : Prop := ∀ a u, a ≠ p → a ≠ r → H a = some u → H' a = some u
theorem ex2_of {p r : Addr} {H H' : Hp} (s : Same H H') : Ex2 p r H H' := fun a u _ _ h => s a u h
theorem Ex.e2 {p r : Addr} {H H' : Hp} (s : Ex p H H') : Ex2 p r H H' := fun a u n _ h => s a u n h
theorem Ex.e2r {p r : Addr} {H H' : Hp} (s : Ex r H H') : Ex2 p r H H' := fun a u _ n h => s a u n h
theorem Ex2.trans {p r : Addr} {H H1 H2 : Hp} (s : Ex2 p r H H1) (t : Ex2 p r H1 H2) : Ex2 p r H H2 := fun a u n m h => t a u n m (s a u n m h)
theorem ex2_mut {p r q : Addr} {H H' : Hp} {o : HO} (s : Ex2 p r H H') (n : H q = none) : Ex2 p r H (upd H' q o) := fun a u h1 h2 h => (upd_ne (ne_of_none h n)).trans (s a u h1 h2 h)
theorem Ex2.ts {p r : Addr} {H H' : Hp} {xs ys : List V} (s : Ex2 p r H H') (h1 : H p = some (.lst xs)) (h2 : H r = some (.lst ys)) : TS H H' := fun a zs e => s a _ (ne_of e h1 fun z => nomatch z) (ne_of e h2 fun z => nomatch z) e
theorem Ex2.free {p r q : Addr} {H H' : Hp} {x y : HO} (e : Ex2 p r H H') (hp : H' p = some x) (hr : H' r = some y) (n : H' q = none) : H q = none := by
  cases h : H q with
  | none => rfl
  | some z => exact absurd (e q z (fun w => by rw [w, hp] at n; cases n) (fun w => by rw [w, hr] at n; cases n) h) (by rw [n]; intro w; cases w)
theorem pop0 (a : Int) (l : List Int) : seqIndex? 0 ((a :: l).map V.int).length = some 0 := by
  simp [seqIndex?]
def adPl (x : Pl) : List Int := (if x.kind = opener then [] else [x.addr]) ++ x.spur.map (·.addr)
def ads (L : List Pl) : List Int := L.flatMap adPl
theorem ads_snoc (L : List Pl) (x : Pl) : ads (L ++ [x]) = ads L ++ adPl x := by
  unfold ads
  rw [List.flatMap_append, List.flatMap_cons, List.flatMap_nil, List.append_nil]
theorem many_at {d : Int} (h0 : 0 ≤ d) (h1 : d < 6) : ∃ c : Int, atI [V.int 0, .int 0, .int 0, .int 1, .int 2, .int 3] d = some (.int c) ∧ 0 ≤ c ∧ c ≤ 3 := by
  have : d = 0 ∨ d = 1 ∨ d = 2 ∨ d = 3 ∨ d = 4 ∨ d = 5 := by omega
  rcases this with rfl | rfl | rfl | rfl | rfl | rfl <;> exact ⟨_, rfl, by decide, by decide⟩
theorem kind_at {d : Int} (h0 : 0 ≤ d) (h1 : d < 4) : ∃ c : Str, atI [V.str "seeker", .str "knob", .str "bell", .str "door"] d = some (.str c) ∧ c ∈ kinds := by
  have : d = 0 ∨ d = 1 ∨ d = 2 ∨ d = 3 := by omega
  rcases this with rfl | rfl | rfl | rfl <;> exact ⟨_, rfl, by decide +kernel⟩
theorem cutV_tail (y : V) (ys : List V) : cutV (y :: ys) (some 1) none = ys := by
  have e1 : HT.sIx (y :: ys).length 0 (some 1) = 1 := by
    show (if (1 : Int) < 0 then ((1 : Int) + (y :: ys).length).toNat else min (1 : Int).toNat (y :: ys).length) = 1
    rw [if_neg (by decide)]
    show min 1 (ys.length + 1) = 1
    omega
  have e2 : HT.sIx (y :: ys).length (y :: ys).length none = (y :: ys).length := rfl
  unfold cutV
  rw [e1, e2]
  show List.take (ys.length + 1 - 1) ys = ys
  exact List.take_of_length_le (Nat.le_refl _)
def sp_law_loop : Sp := fun vs H Q _ => ∃ (p r : Addr) (m : Int) (n : Nat) (ns : List Int), vs = [.ref p, .ref r, .int m] ∧ BagN H p n ∧ n ≤ 70000 ∧ H r = some (.lst (ns.map V.int)) ∧ p ≠ r ∧ (1 ≤ m ∧ m ≤ 12) ∧ (∀ a ∈ ns, 1 ≤ a ∧ a ≤ 99) ∧
  ∀ (H' : Hp) (v : V) (L : List Pl) (rest : List Int), Ex2 p r H H' → BagN H' p (n + 80) → H' r = some (.lst (rest.map V.int)) → Tp H' (dLoop L) v → 1 ≤ L.length → (L.length : Int) ≤ m → (∀ x ∈ L, PlOk x) → ns = ads L ++ rest → Q v H'
theorem ok_law_loop {f f1 : Addr} {fd fd1 : FuncData} (F0 : Fun K "_law_loop" "_law_loop" s_law_loop f fd) (B : Blt mg) (c_law_take : C_law_take P w K mg base f1 fd1) : FnOk P w K mg base CX0 2 f fd ["_law_bag_here", "_law_numbers", "_law_most_places"] sp_law_loop := by
  refine F0.ok sc_law_loop (fun vs H Q E h => ?_) (fun cdv A outer s H vs Q E hr h => ?_)
  · obtain ⟨_, _, _, _, _, rfl, _⟩ := h
    rfl
  · obtain ⟨p, r, m, n, ns, rfl, bg, hn, hr0, hpr, ⟨m0, m1⟩, hns, q⟩ := h
    have nd := sc_law_loop.nd
    refine ⟨_, (pss_cons (ps_set (i := 3) nd rfl (Or.inl rfl) (pe_lst pa_nil))
      (pss_cons (ps_for PassesOwn.never rfl (pi_range1 (by rfl) B._range (pa_cons (pe_op op_add pe_int (pe_call c_law_take.F (hr.mono (by decide)) (by rfl) c_law_take.g c_law_take.kp c_law_take.b .nil pass0 (pa_cons (pv 0) (pa_cons (pv 2) pa_nil)))) pa_nil)) (pg_name (i := 4) nd rfl (Or.inl rfl))
        (pss_cons (ps_set (i := 5) nd rfl (Or.inl rfl) (pe_op op_add pe_int (pe_ix (r := rIxL K) ix_list (pe_lst (pa_cons pe_int (pa_cons pe_int (pa_cons pe_int (pa_cons pe_int (pa_cons pe_int (pa_cons pe_int pa_nil))))))) (pe_call c_law_take.F (hr.mono (by decide)) (by rfl) c_law_take.g c_law_take.kp c_law_take.b .nil pass0 (pa_cons (pv 0) (pa_cons pe_int pa_nil))) (fun _ _ => rfl))))
        (pss_one (ps_if (PW.pt (pw_or (pt_cmpR op_eq (pe_call c_law_take.F (hr.mono (by decide)) (by rfl) c_law_take.g c_law_take.kp c_law_take.b .nil pass0 (pa_cons (pv 0) (pa_cons pe_int pa_nil))) pe_int (nomark _)) (pw_or1 (pt_cmpR op_lt (pe_callB call_len_seq (by rfl) B._len boot_len (pa_cons (pv 1) pa_nil)) (pv 5) (nomark _)))))
          (pss_one (ps_expr (pe_bm PySem.F.plainAttrs_list PySem.F.slot_list_append PySem.F.type_list_append mt_append (pv 3) (pa_cons (pe_tup (pa_cons pe_str (pa_cons pe_int (pa_cons (pe_tup pa_nil) pa_nil)))) pa_nil))))
          (pss_cons (ps_set (i := 6) nd rfl (Or.inl rfl) (pe_lst pa_nil))
          (pss_cons (ps_for PassesOwn.never rfl (pi_range1 (by rfl) B._range (pa_cons (pv 5) pa_nil)) (pg_name (i := 7) nd rfl (Or.inl rfl))
            (pss_one (ps_expr (pe_bm PySem.F.plainAttrs_list PySem.F.slot_list_append PySem.F.type_list_append mt_append (pv 6) (pa_cons (pe_tup (pa_cons (pe_ix (r := rIxL K) ix_list (pe_lst (pa_cons pe_str (pa_cons pe_str (pa_cons pe_str (pa_cons pe_str pa_nil))))) (pe_call c_law_take.F (hr.mono (by decide)) (by rfl) c_law_take.g c_law_take.kp c_law_take.b .nil pass0 (pa_cons (pv 0) (pa_cons pe_int pa_nil))) (fun _ _ => rfl)) (pa_cons (pe_bm PySem.F.plainAttrs_list PySem.F.slot_list_pop PySem.F.type_list_pop mt_popAt (pv 1) (pa_cons pe_int pa_nil)) pa_nil))) pa_nil)))))
          (pss_one (ps_expr (pe_bm PySem.F.plainAttrs_list PySem.F.slot_list_append PySem.F.type_list_append mt_append (pv 3) (pa_cons (pe_op (r := rCatA K) op_catA (pe_ix (r := rIxL K) ix_list (pv 6) pe_int (fun _ _ => rfl)) (pe_tup (pa_cons (pe_callTy call_tuple_of (by rfl) B._tuple boot_tuple (pa_cons (pe_slice sl_list (pv 6) (po_some pe_int) po_none) pa_nil)) pa_nil))) pa_nil))))))))))
      (pss_one (ps_ret (pe_callTy call_tuple_of (by rfl) B._tuple boot_tuple (pa_cons (pv 3) pa_nil)))))), ?_⟩
    refine ⟨Nat.zero_le _, fun u nu => ?_⟩
    obtain ⟨bxs, hp0⟩ := bg.ls
    have hpu : p ≠ u := ne_of_none hp0 nu
    have hru : r ≠ u := ne_of_none hr0 nu
    have s1 := same_new (o := .lst []) nu
    have hu1 : (upd H u (.lst [])) u = some (.lst []) := upd_same
    have b1 := bg.keep s1
    generalize upd H u (.lst []) = H1 at s1 hu1 b1 ⊢
    refine ⟨_, rfl, _, rfl, p, m, n, rfl, b1, by omega, ⟨by omega, by omega⟩, fun H2 d e2 b2 d0 d1 => ?_⟩
    refine ⟨_, _, rfl, rfl, _, rfl, by omega, by omega, for_it walk_range (fun k σ H' => ∃ (y4 y5 y6 y7 : Option V) (L : List Pl) (rest : List Int) (xs : List V), σ = [some (.ref p), some (.ref r), some (.int m), some (.ref u), y4, y5, y6, y7] ∧ Ex2 p r H H' ∧ BagN H' p (n + 1 + 6 * k) ∧ H' r = some (.lst (rest.map V.int)) ∧ H' u = some (.lst xs) ∧ TpAll H' (L.map dPl) xs ∧ L.length = k ∧ (∀ x ∈ L, PlOk x) ∧ ns = ads L ++ rest)
      ⟨_, _, _, _, [], ns, [], rfl, (ex2_of s1).trans e2.e2, b2, e2 _ _ hpr.symm (s1 _ _ hr0), e2 _ _ hpu.symm hu1, ta_nil, rfl, fun _ h => (by cases h), rfl⟩ (fun _ _ _ _ _ => trivial) ?_ ?_⟩
    · rintro k x σ _ H3 hk ⟨y4, y5, y6, y7, L, rest, xs, rfl, e3, b3, hr3, hu3, rx, lk, okL, ens⟩ ⟨rfl, rfl⟩
      have k12 : k < 12 := by omega
      -- many = 1 + [0, 0, 0, 1, 2, 3][take(bag, 6)]
      refine ⟨le_line (by show 6 ≤ 1000; decide), fun t nt => ?_⟩
      have s4 := same_new (o := .lst [V.int 0, .int 0, .int 0, .int 1, .int 2, .int 3]) nt
      have ht4 : (upd H3 t (.lst [V.int 0, .int 0, .int 0, .int 1, .int 2, .int 3])) t = some (.lst [V.int 0, .int 0, .int 0, .int 1, .int 2, .int 3]) := upd_same
      generalize upd H3 t (.lst [V.int 0, .int 0, .int 0, .int 1, .int 2, .int 3]) = H4 at s4 ht4 ⊢
      obtain ⟨bx3, hp3⟩ := b3.ls
      have hpt : p ≠ t := ne_of_none hp3 nt
      refine ⟨_, rfl, p, 6, _, rfl, b3.keep s4, by omega, ⟨by decide, by decide⟩, fun H5 d5 e5 b5 d50 d51 => ?_⟩
      obtain ⟨c, ec, c0, c3⟩ := many_at d50 d51
      refine ⟨t, _, _, _, rfl, rfl, SqL.of (e5 _ _ hpt.symm ht4), ec, _, _, rfl, rfl, ?_⟩
      -- if take(bag, 4) == 0 or len(numbers) < many
      refine ⟨_, rfl, p, 4, _, rfl, b5, by omega, ⟨by decide, by decide⟩, fun H6 d6 e6 b6 d60 d61 => ⟨rfl, _, rfl, ?_⟩⟩
      have e36 : Ex p H3 H6 := (ex_of s4).trans (e5.trans e6)
      have ex6 : Ex2 p r H H6 := e3.trans e36.e2
      have hr6 := e36 _ _ hpr.symm hr3
      have hu6 := e36 _ _ hpu.symm hu3
      have rx6 := rx.mono (b3.ts e36)
      by_cases hd0 : d6 = 0
      · rw [decide_eq_true (show V.int d6 = V.int 0 from congrArg V.int hd0)]
        refine iteT ?_
        refine ⟨_, rfl, .inl ⟨rfl, _, SqL.of hu6⟩, le_line (Nat.zero_le _), fun t1 n1 => ⟨le_line (by show 3 ≤ 1000; decide), fun t2 n2 => ?_⟩⟩
        have s7 := same_new (o := .tup []) n1
        have s8 := same_new (o := .tup [V.str "opener", .int 0, .ref t1]) n2
        have tv : Tp (upd (upd H6 t1 (.tup [])) t2 (.tup [V.str "opener", .int 0, .ref t1])) (dPl ⟨"opener", 0, []⟩) (.ref t2) := tp_tup upd_same (ta_cons tp_str (ta_cons tp_int (ta_cons (tp_tup (s8 _ _ upd_same) ta_nil) ta_nil)))
        have s78 := s7.trans s8
        generalize upd (upd H6 t1 (.tup [])) t2 (.tup [V.str "opener", .int 0, .ref t1]) = H7 at s78 tv ⊢
        have hu7 := s78 _ _ hu6
        refine ⟨u, _, _, rfl, rfl, hu7, small_len rx6 (by rw [List.length_map]; omega), ?_⟩
        refine ⟨_, _, _, _, L ++ [⟨"opener", 0, []⟩], rest, _, rfl, ex2_mut (ex6.trans (ex2_of s78)) nu, ((b6.keep s78).mut hpu).le (by omega), (upd_ne hru).trans (s78 _ _ hr6), upd_same, ?_, by rw [List.length_append, lk]; rfl, ?_, ?_⟩
        · rw [List.map_append]
          exact ((rx6.mono (ts_of s78)).mono (ts_lst hu7)).snoc (tv.mono (ts_lst hu7))
        · intro x hx
          rcases List.mem_append.mp hx with hx | hx
          · exact okL x hx
          · rw [List.mem_singleton.mp hx]
            exact .inl ⟨rfl, rfl, rfl⟩
        · rw [ads_snoc, ens]
          show _ = ads L ++ adPl ⟨opener, 0, []⟩ ++ rest
          unfold adPl
          rw [if_pos rfl]
          simp
      rw [decide_eq_false (show ¬ V.int d6 = V.int 0 from fun z => hd0 (V.int.inj z))]
      refine iteF ?_
      refine ⟨_, rfl, r, _, rfl, .inl (SqL.of hr6), _, rfl, _, _, rfl, rfl, _, rfl, ?_⟩
      rw [List.length_map]
      by_cases hlt : ((rest.length : Nat) : Int) < 1 + c
      · rw [decide_eq_true hlt]
        refine iteT ?_
        refine ⟨_, rfl, .inl ⟨rfl, _, SqL.of hu6⟩, le_line (Nat.zero_le _), fun t1 n1 => ⟨le_line (by show 3 ≤ 1000; decide), fun t2 n2 => ?_⟩⟩
        have s7 := same_new (o := .tup []) n1
        have s8 := same_new (o := .tup [V.str "opener", .int 0, .ref t1]) n2
        have tv : Tp (upd (upd H6 t1 (.tup [])) t2 (.tup [V.str "opener", .int 0, .ref t1])) (dPl ⟨"opener", 0, []⟩) (.ref t2) := tp_tup upd_same (ta_cons tp_str (ta_cons tp_int (ta_cons (tp_tup (s8 _ _ upd_same) ta_nil) ta_nil)))
        have s78 := s7.trans s8
        generalize upd (upd H6 t1 (.tup [])) t2 (.tup [V.str "opener", .int 0, .ref t1]) = H7 at s78 tv ⊢
        have hu7 := s78 _ _ hu6
        refine ⟨u, _, _, rfl, rfl, hu7, small_len rx6 (by rw [List.length_map]; omega), ?_⟩
        refine ⟨_, _, _, _, L ++ [⟨"opener", 0, []⟩], rest, _, rfl, ex2_mut (ex6.trans (ex2_of s78)) nu, ((b6.keep s78).mut hpu).le (by omega), (upd_ne hru).trans (s78 _ _ hr6), upd_same, ?_, by rw [List.length_append, lk]; rfl, ?_, ?_⟩
        · rw [List.map_append]
          exact ((rx6.mono (ts_of s78)).mono (ts_lst hu7)).snoc (tv.mono (ts_lst hu7))
        · intro x hx
          rcases List.mem_append.mp hx with hx | hx
          · exact okL x hx
          · rw [List.mem_singleton.mp hx]
            exact .inl ⟨rfl, rfl, rfl⟩
        · rw [ads_snoc, ens]
          show _ = ads L ++ adPl ⟨opener, 0, []⟩ ++ rest
          unfold adPl
          rw [if_pos rfl]
          simp
      rw [decide_eq_false hlt]
      refine iteF ?_
      -- a place with a device, and its spur
      refine ⟨Nat.zero_le _, fun sm nsm => ?_⟩
      have s7 := same_new (o := .lst []) nsm
      have hsm7 : (upd H6 sm (.lst [])) sm = some (.lst []) := upd_same
      obtain ⟨bx6, hp6⟩ := b6.ls
      have hpsm : p ≠ sm := ne_of_none hp6 nsm
      have hrsm : r ≠ sm := ne_of_none hr6 nsm
      have husm : u ≠ sm := ne_of_none hu6 nsm
      have rx7 := rx6.mono (ts_of s7)
      have b7 := b6.keep s7
      have ex7 := ex6.trans (ex2_of s7)
      have hr7 := s7 _ _ hr6
      have hu7 := s7 _ _ hu6
      generalize upd H6 sm (.lst []) = H7 at s7 hsm7 rx7 b7 ex7 hr7 hu7 ⊢
      have nsmH : H sm = none := ex6.free hp6 hr6 nsm
      refine ⟨_, rfl, _, rfl, by omega, by omega, for_it walk_range (fun w σ H' => ∃ (y7 : Option V) (ds : List Dev) (rest2 : List Int) (ys : List V), σ = [some (.ref p), some (.ref r), some (.int m), some (.ref u), some (.int (0 + (k : Int))), some (.int (1 + c)), some (.ref sm), y7] ∧ Ex2 p r H H' ∧ BagN H' p (n + 1 + 6 * k + 2 + w) ∧ H' r = some (.lst (rest2.map V.int)) ∧ H' u = some (.lst xs) ∧ TpAll H' (L.map dPl) xs ∧ H' sm = some (.lst ys) ∧ TpAll H' (ds.map dDev) ys ∧ ds.length = w ∧ (∀ d ∈ ds, DevOk d) ∧ rest = ds.map (·.addr) ++ rest2)
        ⟨_, [], rest, [], rfl, ex7, b7, hr7, hu7, rx7, hsm7, ta_nil, rfl, fun _ h => (by cases h), rfl⟩ (fun _ _ _ _ _ => trivial) ?_ ?_⟩
      · rintro w x σ _ H8 hw ⟨y7, ds, rest2, ys, rfl, ex8, b8, hr8, hu8, rx8, hsm8, ry8, lds, okd, erest⟩ ⟨rfl, rfl⟩
        refine ⟨_, rfl, .inl ⟨rfl, _, SqL.of hsm8⟩, le_line (by show 4 ≤ 1000; decide), fun t1 n1 => ?_⟩
        have s9 := same_new (o := .lst [V.str "seeker", .str "knob", .str "bell", .str "door"]) n1
        have ht9 : (upd H8 t1 (.lst [V.str "seeker", .str "knob", .str "bell", .str "door"])) t1 = some (.lst [V.str "seeker", .str "knob", .str "bell", .str "door"]) := upd_same
        generalize upd H8 t1 (.lst [V.str "seeker", .str "knob", .str "bell", .str "door"]) = H9 at s9 ht9 ⊢
        obtain ⟨bx8, hp8⟩ := b8.ls
        have hpt1 : p ≠ t1 := ne_of_none hp8 n1
        refine ⟨_, rfl, p, 4, _, rfl, b8.keep s9, by omega, ⟨by decide, by decide⟩, fun H10 d10 e10 b10 d100 d101 => ?_⟩
        obtain ⟨kd, ek, mk⟩ := kind_at d100 d101
        have e810 : Ex p H8 H10 := (ex_of s9).trans e10
        have hr10 := e810 _ _ hpr.symm hr8
        have lr : ds.length < rest.length := by omega
        match rest2, erest, hr8, hr10 with
        | [], erest, _, _ =>
          rw [erest, List.append_nil, List.length_map] at lr
          omega
        | a :: rest2, erest, hr8, hr10 =>
        refine ⟨t1, _, _, _, rfl, rfl, SqL.of (e10 _ _ hpt1.symm ht9), ek, _, rfl, .inl ⟨rfl, _, SqL.of hr10⟩, r, _, 0, 0, .int a, rfl, rfl, hr10, by decide, by decide, pop0 a rest2, rfl, ?_⟩
        have hsm10 := e810 _ _ hpsm.symm hsm8
        have hu10 := e810 _ _ hpu.symm hu8
        have t810 := b8.ts e810
        have ry10 := ry8.mono t810
        have rx10 := rx8.mono t810
        have ex10 := ex8.trans e810.e2
        have e11 : ((a :: rest2).map V.int).eraseIdx 0 = rest2.map V.int := rfl
        rw [e11]
        have t11 : TS H10 (upd H10 r (.lst (rest2.map V.int))) := ts_lst hr10
        have ry11 := ry10.mono t11
        have rx11 := rx10.mono t11
        have hsm11 : (upd H10 r (.lst (rest2.map V.int))) sm = some (.lst ys) := (upd_ne hrsm.symm).trans hsm10
        have hu11 : (upd H10 r (.lst (rest2.map V.int))) u = some (.lst xs) := (upd_ne hru.symm).trans hu10
        have hr11 : (upd H10 r (.lst (rest2.map V.int))) r = some (.lst (rest2.map V.int)) := upd_same
        have b11 := b10.mut (o := .lst (rest2.map V.int)) hpr
        have ex11 : Ex2 p r H (upd H10 r (.lst (rest2.map V.int))) := ex10.trans (ex_upd (m := r)).e2r
        generalize upd H10 r (.lst (rest2.map V.int)) = H11 at ry11 rx11 hsm11 hu11 hr11 b11 ex11 ⊢
        refine ⟨le_line (by show 2 ≤ 1000; decide), fun t2 n2 => ?_⟩
        have s12 := same_new (o := .tup [V.str kd, .int a]) n2
        have tv : Tp (upd H11 t2 (.tup [V.str kd, .int a])) (dDev ⟨kd, a⟩) (.ref t2) := tp_tup upd_same (ta_cons tp_str (ta_cons tp_int ta_nil))
        generalize upd H11 t2 (.tup [V.str kd, .int a]) = H12 at s12 tv ⊢
        have hsm12 := s12 _ _ hsm11
        refine ⟨sm, _, _, rfl, rfl, hsm12, small_len (ry11.mono (ts_of s12)) (by rw [List.length_map]; omega), ?_⟩
        have oka : a ∈ ns := by
          rw [ens, erest]
          simp
        refine ⟨_, ds ++ [⟨kd, a⟩], rest2, _, rfl, ex2_mut (ex11.trans (ex2_of s12)) nsmH, ((b11.keep s12).mut hpsm).le (by omega), (upd_ne hrsm).trans (s12 _ _ hr11), (upd_ne husm).trans (s12 _ _ hu11), (rx11.mono (ts_of s12)).mono (ts_lst hsm12), upd_same, ?_, by rw [List.length_append, lds]; rfl, ?_, ?_⟩
        · rw [List.map_append]
          exact ((ry11.mono (ts_of s12)).mono (ts_lst hsm12)).snoc (tv.mono (ts_lst hsm12))
        · intro x hx
          rcases List.mem_append.mp hx with hx | hx
          · exact okd x hx
          · rw [List.mem_singleton.mp hx]
            exact ⟨mk, (hns a oka).1, (hns a oka).2⟩
        · rw [erest]
          simp
      · rintro σ H8 ⟨y7, ds, rest2, ys, rfl, ex8, b8, hr8, hu8, rx8, hsm8, ry8, lds, okd, erest⟩
        match ds, lds, okd, erest, ry8 with
        | [], lds, _, _, _ =>
          simp only [List.length_nil] at lds
          omega
        | d :: ds, lds, okd, erest, ry8 =>
        obtain ⟨y0, ys, rfl, ty0, rys⟩ := ry8
        rw [List.length_cons] at lds
        refine ⟨_, rfl, .inl ⟨rfl, _, SqL.of hu8⟩, _, rfl, sm, _, 0, y0, rfl, rfl, SqL.of hsm8, atI_nat (j := 0) rfl, _, rfl, 1, rfl, sm, _, rfl, SqL.of hsm8, fun t1 n1 => ?_⟩
        rw [cutV_tail]
        have s9 := same_new (o := .lst ys) n1
        have h1 : (upd H8 t1 (.lst ys)) t1 = some (.lst ys) := upd_same
        generalize upd H8 t1 (.lst ys) = H9 at s9 h1 ⊢
        refine ⟨t1, _, rfl, .inl ⟨SqL.of h1, fun t2 n2 => ?_⟩⟩
        have s10 := same_new (o := .tup ys) n2
        have h2 : (upd H9 t2 (.tup ys)) t2 = some (.tup ys) := upd_same
        generalize upd H9 t2 (.tup ys) = H10 at s10 h2 ⊢
        refine ⟨le_line (by show 1 ≤ 1000; decide), fun t3 n3 => ?_⟩
        have s11 := same_new (o := .tup [V.ref t2]) n3
        have h3 : (upd H10 t3 (.tup [V.ref t2])) t3 = some (.tup [V.ref t2]) := upd_same
        have h2' := s11 _ _ h2
        generalize upd H10 t3 (.tup [V.ref t2]) = H11 at s11 h3 h2' ⊢
        have s811 := s9.trans (s10.trans s11)
        obtain ⟨t0, _, rfl, ht0, _, _, rfl, rfl, _, _, rfl, rfl, rfl⟩ := ty0
        refine ⟨t0, t3, _, _, rfl, rfl, SqT.of (s811 _ _ ht0), SqT.of h3, le_line (by show 3 ≤ 1000; decide), fun z => (by cases z), fun _ z => (by cases z), fun _ _ t5 n5 => ?_⟩
        have s12 := same_new (o := .tup ([V.str d.kind, .int d.addr] ++ [V.ref t2])) n5
        have h5 : (upd H11 t5 (.tup ([V.str d.kind, .int d.addr] ++ [V.ref t2]))) t5 = some (.tup [V.str d.kind, .int d.addr, V.ref t2]) := upd_same
        generalize upd H11 t5 (.tup ([V.str d.kind, .int d.addr] ++ [V.ref t2])) = H12 at s12 h5 ⊢
        have s812 := s811.trans s12
        have tv : Tp H12 (dPl ⟨d.kind, d.addr, ds⟩) (.ref t5) := tp_tup h5 (ta_cons tp_str (ta_cons tp_int (ta_cons (tp_tup (s12 _ _ h2') (rys.mono (ts_of s812))) ta_nil)))
        have hu12 := s812 _ _ hu8
        refine ⟨u, _, _, rfl, rfl, hu12, small_len (rx8.mono (ts_of s812)) (by rw [List.length_map]; omega), ?_⟩
        have okd0 := okd d List.mem_cons_self
        refine ⟨_, _, _, _, L ++ [⟨d.kind, d.addr, ds⟩], rest2, _, rfl, ex2_mut (ex8.trans (ex2_of s812)) nu, ((b8.keep s812).mut hpu).le (by omega), (upd_ne hru).trans (s812 _ _ hr8), upd_same, ?_, by rw [List.length_append, lk]; rfl, ?_, ?_⟩
        · rw [List.map_append]
          exact ((rx8.mono (ts_of s812)).mono (ts_lst hu12)).snoc (tv.mono (ts_lst hu12))
        · intro x hx
          rcases List.mem_append.mp hx with hx | hx
          · exact okL x hx
          · rw [List.mem_singleton.mp hx]
            exact .inr ⟨okd0, by show ds.length ≤ 3; omega, fun y hy => okd y (List.mem_cons_of_mem _ hy)⟩
        · rw [ads_snoc, ens, erest]
          unfold adPl
          rw [if_neg (show ¬ d.kind = opener from fun e => opener_no (e ▸ okd0.1))]
          simp
    · rintro σ H3 ⟨y4, y5, y6, y7, L, rest, xs, rfl, e3, b3, hr3, hu3, rx, lk, okL, ens⟩
      refine ⟨_, rfl, u, xs, rfl, .inl ⟨SqL.of hu3, fun t nt => ?_⟩⟩
      have s4 := same_new (o := .tup xs) nt
      exact q _ (.ref t) L rest (e3.trans (ex2_of s4)) ((b3.keep s4).le (by omega)) (s4 _ _ hr3) (tp_tup upd_same (rx.mono (ts_of s4))) (by omega) (by omega) okL ens
abbrev C_law_loop (P : Program) (w : World) (K : PySem.W.Frag) (mg : Str → Option Value) (base : Heap) := Cal P w K mg base 2 "_law_loop" ["_law_bag_here", "_law_numbers", "_law_most_places"] sp_law_loop
/-! ### parts, counted -/
def cV (c : Nat) : V := .int (c : Nat)
theorem ixN_last (a : List V) (b : V) : ixN (a ++ [b]).length (-1) = some a.length := by
  unfold ixN
  rw [if_neg (by decide), List.length_append, List.length_singleton, if_pos (by omega)]
  exact congrArg some (by omega)
theorem set_last (a : List V) (b c : V) : (a ++ [b]).set a.length c = a ++ [c] := by
  rw [List.set_append_right _ _ (Nat.le_refl _), Nat.sub_self]
  rfl
def sp_law_parts : Sp := fun vs H Q _ => ∃ (v : V) (L : List Pl), vs = [v] ∧ Tp H (dLoop L) v ∧ L.length ≤ 12 ∧ ∀ H' r, Same H H' → H' r = some (.lst ((pc L).map cV)) → Q (.ref r) H'
theorem pc_len (s : List Nat × Nat) (x : Pl) : (pcS s x).1.length ≤ s.1.length + 1 := by
  unfold pcS
  split
  · rw [List.length_append]; exact Nat.le_refl _
  · exact Nat.le_succ _
theorem pc_fold_len : ∀ (L : List Pl) (s : List Nat × Nat), (L.foldl pcS s).1.length ≤ s.1.length + L.length
  | [], _ => Nat.le_refl _
  | x :: L, s => by
    rw [List.foldl_cons, List.length_cons]
    have h1 := pc_fold_len L (pcS s x)
    have h2 := pc_len s x
    omega
theorem ok_law_parts {f : Addr} {fd : FuncData} (F0 : Fun K "_law_parts" "_law_parts" s_law_parts f fd) (B : Blt mg) : FnOk P w K mg base CX0 1 f fd ["_law_places"] sp_law_parts := by
  refine F0.ok sc_law_parts (fun vs H Q E h => ?_) (fun cdv A outer s H vs Q E hr h => ?_)
  · obtain ⟨_, _, rfl, _⟩ := h
    rfl
  · obtain ⟨v, L, rfl, hv, l12, q⟩ := h
    obtain ⟨a, xs, rfl, ha, rx⟩ := hv
    have lx : xs.length = L.length := tall_len rx
    have nd := sc_law_parts.nd
    refine ⟨_, (pss_cons (ps_set (i := 1) nd rfl (Or.inl rfl) (pe_lst (pa_cons pe_int pa_nil)))
      (pss_cons (ps_for PassesOwn.never rfl (pi_tup (pv 0)) (pg_tup rfl (pgs_cons (pg_name (i := 2) nd rfl (Or.inl rfl)) (pgs_cons (pg_name (i := 3) nd rfl (Or.inl rfl)) (pgs_cons (pg_name (i := 4) nd rfl (Or.inl rfl)) pgs_nil))))
        (pss_one (ps_if (pt_cmpR op_eq (pv 2) pe_str (nomark _))
          (pss_one (ps_expr (pe_bm PySem.F.plainAttrs_list PySem.F.slot_list_append PySem.F.type_list_append mt_append (pv 1) (pa_cons pe_int pa_nil))))
          (pss_one (ps_asg (pe_op op_add (pe_op op_add (pe_ix (r := rIxL K) ix_list (pv 1) (pe_un un_neg pe_int) (fun _ _ => rfl)) pe_int) (pe_callB call_len_seq (by rfl) B._len boot_len (pa_cons (pv 4) pa_nil))) (pg_sub (pv 1) (pe_un un_neg pe_int) set_list))))))
      (pss_one (ps_ret (pv 1))))), ?_⟩
    refine ⟨le_line (by show 1 ≤ 1000; decide), fun r nr => ?_⟩
    have s1 := same_new (o := .lst [V.int 0]) nr
    refine ⟨_, rfl, a, rfl, ⟨xs, SqT.of (s1 _ _ ha)⟩, ?_⟩
    refine for_it (walk_tup (xs := xs)) (fun k σ H' => ∃ y2 y3 y4, σ = [some (.ref a), some (.ref r), y2, y3, y4] ∧ Same H H' ∧ H' r = some (.lst ((pcOf ((L.take k).foldl pcS ([], 0))).map cV)))
      ⟨_, _, _, rfl, s1, upd_same⟩ (fun k σ H' _ ⟨_, _, _, _, s, _⟩ => SqT.of (s _ _ ha)) ?_ ?_
    · rintro k x σ _ H1 hk ⟨y2, y3, y4, rfl, s2, hr1⟩ ⟨rfl, hx⟩
      obtain ⟨pl, epl, tpl⟩ := tall_map rx hx
      obtain ⟨d, _, rfl, hd, _, _, rfl, rfl, _, _, rfl, rfl, _, _, rfl, ⟨e, ss, rfl, he, rs⟩, rfl⟩ := tpl.mono (ts_of s2)
      have lss : ss.length = pl.spur.length := tall_len rs
      refine ⟨d, _, rfl, SqT.of hd, rfl, _, _, rfl, _, _, rfl, _, _, rfl, rfl, ?_⟩
      rw [take_snoc epl, List.foldl_append]
      have go : ∀ s, [pl].foldl pcS s = pcS s pl := fun _ => rfl
      rw [go]
      have l1 := pc_fold_len (L.take k) ([], 0)
      rw [List.length_take] at l1
      generalize (L.take k).foldl pcS ([], 0) = S at hr1 l1 ⊢
      have l2 : S.1.length ≤ 12 := by
        have : (([], 0) : List Nat × Nat).1.length = 0 := rfl
        omega
      refine ⟨_, rfl, rfl, _, rfl, ?_⟩
      unfold pcS
      by_cases ho : pl.kind = opener
      · rw [decide_eq_true (show V.str pl.kind = V.str "opener" from congrArg V.str ho), if_pos ho]
        refine iteT ?_
        refine ⟨_, rfl, .inl ⟨rfl, _, SqL.of hr1⟩, r, _, _, rfl, rfl, hr1, ?_, ?_⟩
        · rw [List.length_map]
          unfold pcOf
          rw [List.length_append, List.length_singleton]
          exact small1000 (by omega)
        · refine ⟨_, _, _, rfl, same_mut s2 nr, ?_⟩
          rw [upd_same]
          unfold pcOf
          rw [List.map_append, List.map_append, List.map_append]
          rfl
      · rw [decide_eq_false (show ¬ V.str pl.kind = V.str "opener" from fun z => ho (V.str.inj z)), if_neg ho]
        refine iteF ?_
        unfold pcOf at hr1 ⊢
        rw [List.map_append] at hr1
        refine ⟨_, rfl, _, rfl, r, _, -1, cV S.2, rfl, rfl, SqL.of hr1, atI_last _ _, _, _, rfl, rfl, _, rfl, e, ss, rfl, .inr (SqT.of he), _, _, rfl, rfl, _, rfl, _, rfl, r, _, -1, _, rfl, rfl, hr1, ixN_last _ _, ?_⟩
        refine ⟨_, _, _, rfl, same_mut s2 nr, ?_⟩
        have ec : V.int ((S.2 : Nat) + 1 + (ss.length : Nat)) = cV (S.2 + (1 + pl.spur.length)) := congrArg V.int (by omega)
        rw [upd_same, List.map_append]
        refine congrArg (fun z => some (HO.lst z)) ?_
        refine (set_last _ _ _).trans ?_
        exact congrArg (fun z => S.1.map cV ++ [z]) ec
    · rintro σ H1 ⟨y2, y3, y4, rfl, s2, hr1⟩
      rw [lx, List.take_length] at hr1
      exact ⟨_, rfl, q _ r s2 hr1⟩
abbrev C_law_parts (P : Program) (w : World) (K : PySem.W.Frag) (mg : Str → Option Value) (base : Heap) := Cal P w K mg base 1 "_law_parts" ["_law_places"] sp_law_parts
end
end K12
/-! K10: the law's own plan is let by. -/
namespace K12
open PySem PySem.Spec PyProof.Rows L2
/-! ### a word in the middle: what holds where the ways of an if meet -/
def tMid (t : L2.TS) : L2.TS := fun D σ H => ∃ I : L2.St → Hp → Prop, t { nx := I, rt := D.rt, bk := D.bk, ct := D.ct } σ H ∧ ∀ σ' H', I σ' H' → D.nx σ' H'
theorem ps_mid {X : Cx} {st : Stmt} {t : L2.TS} (h : PS X st t) : PS X st (tMid t) := ⟨fun pins s σ H D hI ⟨I, h1, h2⟩ => wpAny_mono (h.run pins s σ H _ hI h1) (fun f s' q => by
  cases f with
  | next =>
    obtain ⟨σ', H', i, z⟩ := q
    exact ⟨σ', H', i, h2 _ _ z⟩
  | brk => exact q
  | cont => exact q
  | ret u => exact q) fun _ _ q => q⟩
/-! ### thirty numbers -/
def numK (s t : Int) (k : Nat) : Int := (s + t * (k : Nat)) % 99 + 1
def strides : List Int := [1, 2, 4, 5, 7, 8, 10, 13, 98]
theorem stride_at {d : Int} (h0 : 0 ≤ d) (h1 : d < 9) : ∃ c : Int, atI (strides.map V.int) d = some (.int c) ∧ c ∈ strides := by
  have : d = 0 ∨ d = 1 ∨ d = 2 ∨ d = 3 ∨ d = 4 ∨ d = 5 ∨ d = 6 ∨ d = 7 ∨ d = 8 := by omega
  rcases this with rfl | rfl | rfl | rfl | rfl | rfl | rfl | rfl | rfl <;> exact ⟨_, rfl, by decide⟩
theorem numK_inj {s t : Int} (ht : t ∈ strides) {i j : Nat} (hi : i < 30) (hj : j < 30) (h : numK s t i = numK s t j) : i = j := by
  unfold numK at h
  simp only [strides, List.mem_cons, List.not_mem_nil, or_false] at ht
  rcases ht with rfl | rfl | rfl | rfl | rfl | rfl | rfl | rfl | rfl <;> omega
theorem numK_bd (s t : Int) (k : Nat) : 1 ≤ numK s t k ∧ numK s t k ≤ 99 := by
  unfold numK
  omega
def nums (s t : Int) (n : Nat) : List Int := (List.range n).map (numK s t)
theorem nums_nd {s t : Int} (ht : t ∈ strides) : (nums s t 30).Nodup := by
  unfold nums List.Nodup
  rw [List.pairwise_map]
  refine List.Pairwise.imp_of_mem (R := fun i j => i ≠ j) ?_ (List.nodup_range)
  intro a b ha hb n e
  exact n (numK_inj ht (List.mem_range.mp ha) (List.mem_range.mp hb) e)
/-! ### addresses, told devices, counts -/
theorem fmI_flat {α β γ : Type} (h : List β → List γ) (h0 : h [] = []) (ha : ∀ a b, h (a ++ b) = h a ++ h b) (f : Nat → α → List β) (g : α → List γ) (e : ∀ i x, h (f i x) = g x) : ∀ (k : Nat) (xs : List α), h (fmI f k xs) = xs.flatMap g
  | _, [] => h0
  | k, x :: xs => by
    show h (f k x ++ fmI f (k + 1) xs) = _
    rw [ha, e, fmI_flat h h0 ha f g e (k + 1) xs, List.flatMap_cons]
theorem devs_ads (Ls : List (List Pl)) : (devsOf Ls).map (·.2.2) = Ls.flatMap ads := by
  refine fmI_flat (List.map fun d : DevAt => d.2.2) rfl (fun _ _ => List.map_append) _ _ (fun i L => ?_) 0 Ls
  refine fmI_flat (List.map fun d : DevAt => d.2.2) rfl (fun _ _ => List.map_append) _ _ (fun j x => ?_) 0 L
  unfold devsPl adPl
  rw [List.map_append]
  congr 1
  · split <;> rfl
  · rw [fmI_flat (List.map fun d : DevAt => d.2.2) rfl (fun _ _ => List.map_append) _ (fun d : Dev => [d.addr]) (fun w d => rfl) 0 x.spur, List.map_eq_flatMap]
def tlPl (x : Pl) : List Int := ((⟨x.kind, x.addr⟩ :: x.spur).filter fun d : Dev => decide (d.kind ∈ tellers)).map (·.addr)
def tl (L : List Pl) : List Int := L.flatMap tlPl
theorem opener_tell : ¬ opener ∈ tellers := by decide +kernel
theorem told_tl (Ls : List (List Pl)) : told Ls = Ls.flatMap tl := by
  have ha : ∀ a b : List DevAt, ((a ++ b).filter fun d => decide (d.2.1 ∈ tellers)).map (·.2.2) = (a.filter fun d => decide (d.2.1 ∈ tellers)).map (·.2.2) ++ (b.filter fun d => decide (d.2.1 ∈ tellers)).map (·.2.2) := fun a b => by rw [List.filter_append, List.map_append]
  refine fmI_flat (fun l : List DevAt => (l.filter fun d => decide (d.2.1 ∈ tellers)).map (·.2.2)) rfl ha _ _ (fun i L => ?_) 0 Ls
  refine fmI_flat (fun l : List DevAt => (l.filter fun d => decide (d.2.1 ∈ tellers)).map (·.2.2)) rfl ha _ _ (fun j x => ?_) 0 L
  have e2 : ∀ (l p : Int) (k : Nat), ((fmI (fun (w : Nat) (d : Dev) => [(((l, p, (w : Int) + 1), d.kind, d.addr) : DevAt)]) k x.spur).filter fun d => decide (d.2.1 ∈ tellers)).map (·.2.2) = (x.spur.filter fun d : Dev => decide (d.kind ∈ tellers)).map (·.addr) := by
    intro l p k
    rw [fmI_flat (fun l : List DevAt => (l.filter fun d => decide (d.2.1 ∈ tellers)).map (·.2.2)) rfl ha _ (fun d : Dev => if d.kind ∈ tellers then [d.addr] else []) (fun w d => ?_) k x.spur]
    · induction x.spur with
      | nil => rfl
      | cons d l ih =>
        rw [List.flatMap_cons, ih]
        by_cases h : d.kind ∈ tellers
        · rw [if_pos h, List.filter_cons_of_pos (by exact decide_eq_true h)]; rfl
        · rw [if_neg h, List.filter_cons_of_neg (by simp [h])]; rfl
    · by_cases h : d.kind ∈ tellers
      · rw [if_pos h, List.filter_cons_of_pos (by exact decide_eq_true h)]; rfl
      · rw [if_neg h, List.filter_cons_of_neg (by simp [h])]; rfl
  unfold devsPl tlPl
  rw [ha, e2]
  by_cases h : x.kind = opener
  · rw [if_pos h, List.filter_cons_of_neg (by have := opener_tell; rw [← h] at this; simp [this])]
    rfl
  · rw [if_neg h]
    by_cases h2 : x.kind ∈ tellers
    · rw [List.filter_cons_of_pos (by exact decide_eq_true h2), List.filter_cons_of_pos (by exact decide_eq_true h2)]; rfl
    · rw [List.filter_cons_of_neg (by simp [h2]), List.filter_cons_of_neg (by simp [h2])]; rfl
theorem told_sub (Ls : List (List Pl)) : (told Ls).Sublist ((devsOf Ls).map (·.2.2)) := List.Sublist.map _ List.filter_sublist
theorem fmI_const {α β : Type} (g : α → List β) : ∀ (k : Nat) (xs : List α), fmI (fun _ x => g x) k xs = xs.flatMap g
  | _, [] => rfl
  | k, x :: xs => by
    show g x ++ fmI (fun _ x => g x) (k + 1) xs = _
    rw [fmI_const g (k + 1) xs, List.flatMap_cons]
theorem tlPl_len {x : Pl} (h : x.spur.length ≤ 3) : (tlPl x).length ≤ 4 := by
  unfold tlPl
  rw [List.length_map]
  refine Nat.le_trans (List.length_filter_le _ _) ?_
  rw [List.length_cons]
  omega
theorem tl_len {L : List Pl} (h : L.length ≤ 12) (hs : ∀ x ∈ L, x.spur.length ≤ 3) : (tl L).length ≤ 48 := by
  have h1 := fmI_len (fun (i : Nat) (x : Pl) => tlPl x) 4 0 L fun i x e => tlPl_len (hs x (List.mem_of_getElem? e))
  rw [fmI_const] at h1
  unfold tl
  omega
theorem pc_sum {L : List Pl} (h : ∀ x ∈ L, PlOk x) : (pc L).sum = (ads L).length := by
  have g : ∀ (L : List Pl) (s : List Nat × Nat), (∀ x ∈ L, PlOk x) → (pcOf (L.foldl pcS s)).sum = (pcOf s).sum + (ads L).length := by
    intro L
    induction L with
    | nil => intro s _; rfl
    | cons x L ih =>
      intro s h
      rw [List.foldl_cons, ih _ fun y hy => h y (List.mem_cons_of_mem _ hy)]
      have e : (pcOf (pcS s x)).sum = (pcOf s).sum + (adPl x).length := by
        unfold pcS adPl pcOf
        rcases h x List.mem_cons_self with ⟨h1, h2, h3⟩ | ⟨h1, _, _⟩
        · rw [if_pos h1, if_pos h1, h3]
          simp
        · have h1 : ¬ x.kind = opener := fun e => opener_no (e ▸ h1.1)
          rw [if_neg h1, if_neg h1]
          simp
          omega
      rw [e]
      unfold ads
      rw [List.flatMap_cons, List.length_append]
      omega
  rw [show pc L = pcOf (L.foldl pcS ([], 0)) from rfl, g L _ h]
  simp [pcOf]
theorem le_sum {l : List Nat} {c : Nat} (h : c ∈ l) : c ≤ l.sum := by
  induction l with
  | nil => cases h
  | cons a l ih =>
    rw [List.sum_cons]
    rcases List.mem_cons.mp h with rfl | h
    · omega
    · have := ih h
      omega
theorem sum_pos {l : List Nat} (h : 0 < l.sum) : ∃ c ∈ l, 1 ≤ c := by
  induction l with
  | nil => simp at h
  | cons a l ih =>
    rw [List.sum_cons] at h
    by_cases ha : 1 ≤ a
    · exact ⟨a, List.mem_cons_self, ha⟩
    · obtain ⟨c, hc, h1⟩ := ih (by omega)
      exact ⟨c, List.mem_cons_of_mem _ hc, h1⟩
theorem ads_le {Ls : List (List Pl)} {L : List Pl} (h : L ∈ Ls) : (ads L).length ≤ (Ls.flatMap ads).length := by
  induction Ls with
  | nil => cases h
  | cons M Ls ih =>
    rw [List.flatMap_cons, List.length_append]
    rcases List.mem_cons.mp h with rfl | h
    · omega
    · have := ih h
      omega
/-- all that makes a plan one that is let by -/
theorem plan_ok {most : Int} {Ls : List (List Pl)} {Z : List (Str × List Int)} (h1 : 1 ≤ most ∧ most ≤ 30) (h2 : 1 ≤ Ls.length ∧ Ls.length ≤ 3) (h3 : ∀ L ∈ Ls, 1 ≤ L.length ∧ L.length ≤ 12) (h4 : ∀ L ∈ Ls, ∀ x ∈ L, PlOk x)
    (h5 : 1 ≤ (Ls.flatMap ads).length ∧ (Ls.flatMap ads).length ≤ 30) (h6 : (Ls.flatMap ads).Nodup) (h7 : ∀ L ∈ Ls, ∀ c ∈ pc L, (c : Int) ≤ most) (h8 : Z.length ≤ 8) (h9 : ∀ z ∈ Z, NameOk z.1) (h10 : (Z.map (·.1)).Nodup)
    (h11 : ∀ z ∈ Z, z.2 ≠ [] ∧ z.2.length ≤ 30 ∧ z.2.Pairwise (· < ·) ∧ ∀ a ∈ z.2, 1 ≤ a ∧ a ≤ 99) (h12 : ∀ z ∈ Z, ∀ a ∈ z.2, a ∈ Ls.flatMap tl) (h13 : (Z.flatMap (·.2)).Nodup) : PlanOk ⟨most, Ls, Z⟩ := by
  have e := devs_ads Ls
  have el : (devsOf Ls).length = (Ls.flatMap ads).length := by rw [← e, List.length_map]
  exact ⟨h1, h2, h3, h4, by rw [el]; exact h5, by rw [e]; exact h6, h7, h8, h9, h10, h11, fun z hz a ha => by rw [told_tl]; exact h12 z hz a ha, h13⟩
/-! ### slices and sums of tuples -/
theorem cat_tp {K : PySem.W.Frag} {H : Hp} {x y : V} {ds es : List PyData} {Q : VK} (hx : Tp H (.tuple ds) x) (hy : Tp H (.tuple es) y) (l : ds.length + es.length ≤ 1000) (q : ∀ H' z, Same H H' → Tp H' (.tuple (ds ++ es)) z → Q z H') : rCatA K x y H Q := by
  obtain ⟨a, xs, rfl, ha, rx⟩ := id hx
  obtain ⟨b, ys, rfl, hb, ry⟩ := id hy
  refine ⟨a, b, xs, ys, rfl, rfl, SqT.of ha, SqT.of hb, le_line (by rw [rx.length, ry.length]; exact l), fun e => ?_, fun _ e => ?_, fun _ _ p np => ?_⟩
  · subst e
    have : ds = [] := List.length_eq_zero_iff.mp rx.length.symm
    subst this
    exact q H _ (Same.refl _) hy
  · subst e
    have : es = [] := List.length_eq_zero_iff.mp ry.length.symm
    subst this
    rw [List.append_nil] at q
    exact q H _ (Same.refl _) hx
  · have s := same_new (o := .tup (xs ++ ys)) np
    exact q _ _ s (tp_tup upd_same ((rx.append ry).mono (ts_of s)))
theorem take_tp {K : PySem.W.Frag} {H : Hp} {x : V} {ds : List PyData} {Q : VK} {n : Nat} (hx : Tp H (.tuple ds) x) (hn : n ≤ ds.length) (q : ∀ H' z, Same H H' → Tp H' (.tuple (ds.take n)) z → Q z H') : rSlA K x none (some (n : Nat)) H Q := by
  obtain ⟨a, xs, rfl, ha, rx⟩ := id hx
  have lx := rx.length
  have e2 : HT.sIx xs.length xs.length (some (n : Int)) = n := by
    show (if (n : Int) < 0 then ((n : Int) + xs.length).toNat else min (n : Int).toNat xs.length) = n
    rw [if_neg (by omega)]
    omega
  have e1 : HT.sIx xs.length 0 none = 0 := rfl
  refine ⟨a, xs, rfl, SqT.of ha, fun e => ?_, fun _ p np => ?_⟩
  · rw [e2] at e
    have e3 : ds.take n = ds := List.take_of_length_le (by omega)
    rw [e3] at q
    exact q H _ (Same.refl _) hx
  · have s := same_new (o := .tup (cutV xs none (some (n : Int)))) np
    refine q _ _ s (tp_tup upd_same ?_)
    have ec : cutV xs none (some (n : Int)) = xs.take n := by
      unfold cutV
      rw [e1, e2]
      rfl
    rw [ec] at s ⊢
    exact (rx.take n).mono (ts_of s)
theorem drop_tp {K : PySem.W.Frag} {H : Hp} {x : V} {ds : List PyData} {Q : VK} {n : Nat} (hx : Tp H (.tuple ds) x) (hn : n ≤ ds.length) (q : ∀ H' z, Same H H' → Tp H' (.tuple (ds.drop n)) z → Q z H') : rSlA K x (some (n : Nat)) none H Q := by
  obtain ⟨a, xs, rfl, ha, rx⟩ := id hx
  have lx := rx.length
  have e2 : HT.sIx xs.length 0 (some (n : Int)) = n := by
    show (if (n : Int) < 0 then ((n : Int) + xs.length).toNat else min (n : Int).toNat xs.length) = n
    rw [if_neg (by omega)]
    omega
  have e1 : HT.sIx xs.length xs.length none = xs.length := rfl
  refine ⟨a, xs, rfl, SqT.of ha, fun e => ?_, fun _ p np => ?_⟩
  · rw [e2] at e
    have e0 : n = 0 := e.1
    subst e0
    exact q H _ (Same.refl _) hx
  · have s := same_new (o := .tup (cutV xs (some (n : Int)) none)) np
    refine q _ _ s (tp_tup upd_same ?_)
    have ec : cutV xs (some (n : Int)) none = xs.drop n := by
      unfold cutV
      rw [e1, e2, List.take_of_length_le (by rw [List.length_drop]; exact Nat.le_refl _)]
    rw [ec] at s ⊢
    exact (rx.drop n).mono (ts_of s)
section
variable {P : Program} {w : World} {K : PySem.W.Frag} {mg : Str → Option Value} {base : Heap} {aK aT cC : Addr}
theorem Ex.of2 {p r : Addr} {H H1 H2 : Hp} (e : Ex p H H1) (e2 : Ex2 p r H1 H2) (n : H r = none) : Ex p H H2 := fun a u h1 h => e2 a u h1 (ne_of_none h n) (e a u h1 h)
theorem ads_pos (L : List Pl) (n : Nat) (own : Int) : 1 ≤ (([L.take n ++ [⟨"seeker", own, []⟩] ++ L.drop n] : List (List Pl)).flatMap ads).length := by
  have m : own ∈ (([L.take n ++ [⟨"seeker", own, []⟩] ++ L.drop n] : List (List Pl)).flatMap ads) := by
    refine List.mem_flatMap.mpr ⟨_, List.mem_singleton.mpr rfl, List.mem_flatMap.mpr ⟨⟨"seeker", own, []⟩, ?_, ?_⟩⟩
    · exact List.mem_append_left _ (List.mem_append_right _ (List.mem_singleton.mpr rfl))
    · unfold adPl
      rw [if_neg (show ¬ ("seeker" : Str) = opener by decide +kernel)]
      exact List.mem_cons_self
  exact List.length_pos_of_mem m
theorem pmem {α β : Type} {R : α → β → Prop} {as : List α} {bs : List β} (p : Paired R as bs) {a : α} (h : a ∈ as) : ∃ b ∈ bs, R a b := by
  induction p with
  | nil => cases h
  | @cons x y xs ys r _ ih =>
    rcases List.mem_cons.mp h with rfl | h
    · exact ⟨y, List.mem_cons_self, r⟩
    · obtain ⟨b, hb, q⟩ := ih h
      exact ⟨b, List.mem_cons_of_mem _ hb, q⟩
theorem pmemr {α β : Type} {R : α → β → Prop} {as : List α} {bs : List β} (p : Paired R as bs) {b : β} (h : b ∈ bs) : ∃ a ∈ as, R a b := by
  induction p with
  | nil => cases h
  | @cons x y xs ys r _ ih =>
    rcases List.mem_cons.mp h with rfl | h
    · exact ⟨x, List.mem_cons_self, r⟩
    · obtain ⟨a, ha, q⟩ := ih h
      exact ⟨a, List.mem_cons_of_mem _ ha, q⟩
theorem pc_cV (L : List Pl) : (pc L).map cV = ((pc L).map fun c : Nat => (c : Int)).map V.int := by
  rw [List.map_map]
  rfl
theorem pc_ne (L : List Pl) : 0 < (pc L).length := by
  unfold pc pcOf
  rw [List.length_append, List.length_singleton]
  omega
theorem ta_ints {H : Hp} : ∀ l : List Int, TpAll H (l.map PyData.int) (l.map V.int)
  | [] => ta_nil
  | a :: l => ta_cons tp_int (ta_ints l)
abbrev MaxOf (L : List Pl) (m : Int) : Prop := (∀ c ∈ pc L, (c : Int) ≤ m) ∧ ∃ c ∈ pc L, m = (c : Int)
theorem ads_mid (L : List Pl) (n : Nat) (own : Int) (rest : List Int) : ((([L.take n ++ [(⟨"seeker", own, []⟩ : Pl)] ++ L.drop n] : List (List Pl)).flatMap ads) ++ rest).Perm (own :: (ads L ++ rest)) := by
  have e1 : ads L = ads (L.take n) ++ ads (L.drop n) := by
    unfold ads
    rw [← List.flatMap_append, List.take_append_drop]
  have e2 : adPl ⟨"seeker", own, []⟩ = [own] := by
    unfold adPl
    rw [if_neg (show ¬ ("seeker" : Str) = opener by decide +kernel)]
    rfl
  have e3 : ads (L.take n ++ [(⟨"seeker", own, []⟩ : Pl)] ++ L.drop n) = ads (L.take n) ++ own :: ads (L.drop n) := by
    unfold ads
    rw [List.flatMap_append, List.flatMap_append, List.flatMap_cons, e2, List.flatMap_nil, List.append_assoc]
    rfl
  rw [List.flatMap_cons, List.flatMap_nil, List.append_nil, e3, e1, List.append_assoc, List.append_assoc]
  exact List.perm_middle
def sp_law_plan : Sp := fun vs H Q _ => ∃ (p : Addr), vs = [.ref p, .int 3, .int 12] ∧ BagN H p 0 ∧ ∀ (H' : Hp) (v : V) (Pn : Plan), Ex p H H' → PlanOk Pn → Tp H' (dPlan Pn) v → Q v H'
theorem ok_law_plan {f f1 f2 f3 f4 : Addr} {fd fd1 fd2 fd3 fd4 : FuncData} (F0 : Fun K "_law_plan" "_law_plan" s_law_plan f fd) (B : Blt mg) (c_law_take : C_law_take P w K mg base f1 fd1) (c_law_loop : C_law_loop P w K mg base f2 fd2) (c_law_parts : C_law_parts P w K mg base f3 fd3) (c_law_names : C_law_names P w K mg base f4 fd4) : FnOk P w K mg base CX0 4 f fd ["_law_bag_here", "_law_most_loops", "_law_most_places"] sp_law_plan := by
  refine F0.ok sc_law_plan (fun vs H Q E h => ?_) (fun cdv A outer s H vs Q E hr h => ?_)
  · obtain ⟨_, rfl, _⟩ := h
    rfl
  · obtain ⟨p, rfl, bg, q⟩ := h
    have nd := sc_law_plan.nd
    refine ⟨_, (pss_cons (ps_set (i := 3) nd rfl (Or.inr rfl) (pe_call c_law_take.F (hr.mono (by decide)) (by rfl) c_law_take.g c_law_take.kp c_law_take.b .nil pass0 (pa_cons (pv 0) (pa_cons pe_int pa_nil))))
      (pss_cons (ps_set (i := 4) nd rfl (Or.inr rfl) (pe_ix (r := rIxL K) ix_list (pe_lst (pa_cons pe_int (pa_cons pe_int (pa_cons pe_int (pa_cons pe_int (pa_cons pe_int (pa_cons pe_int (pa_cons pe_int (pa_cons pe_int (pa_cons pe_int pa_nil)))))))))) (pe_call c_law_take.F (hr.mono (by decide)) (by rfl) c_law_take.g c_law_take.kp c_law_take.b .nil pass0 (pa_cons (pv 0) (pa_cons pe_int pa_nil))) (fun _ _ => rfl)))
      (pss_cons (ps_setLc (i := 5) (own := [("_law_k", 21)]) rfl nd rfl rfl (sw_true rfl rfl rfl (by decide +kernel)) (pi_range1 (by rfl) B._range (pa_cons pe_int pa_nil)) (blkOk_by (own := [("_law_k", 21)]) (N := n_law_plan) (sc := defScope s_law_plan) (by decide +kernel)) (fun _ _ _ _ _ => (pg_name (i := 21) nd rfl (Or.inl rfl))) (fun _ _ _ _ _ => pts_nil) (fun _ _ _ _ _ => (pe_op op_add (pe_op op_mod (pe_op op_add (pv 3) (pe_op op_mul (pv 4) (pv 21))) pe_int) pe_int)))
      (pss_cons (ps_set (i := 6) nd rfl (Or.inl rfl) (pe_bm PySem.F.plainAttrs_list PySem.F.slot_list_pop PySem.F.type_list_pop mt_popAt (pv 5) (pa_cons pe_int pa_nil)))
      (pss_cons (ps_set (i := 7) nd rfl (Or.inl rfl) (pe_tup pa_nil))
      (pss_cons (ps_mid (ps_if (pt_cmpR op_gt (pe_call c_law_take.F (hr.mono (by decide)) (by rfl) c_law_take.g c_law_take.kp c_law_take.b .nil pass0 (pa_cons (pv 0) (pa_cons pe_int pa_nil))) pe_int (nomark _))
        (pss_one (ps_set (i := 7) nd rfl (Or.inl rfl) (pe_call c_law_loop.F (hr.mono (by decide)) (by rfl) c_law_loop.g c_law_loop.kp c_law_loop.b .nil pass0 (pa_cons (pv 0) (pa_cons (pv 5) (pa_cons (pe_op op_sub (pv 2) pe_int) pa_nil))))))
        pss_nil))
      (pss_cons (ps_set (i := 8) nd rfl (Or.inl rfl) (pe_call c_law_take.F (hr.mono (by decide)) (by rfl) c_law_take.g c_law_take.kp c_law_take.b .nil pass0 (pa_cons (pv 0) (pa_cons (pe_op op_add (pe_callB call_len_seq (by rfl) B._len boot_len (pa_cons (pv 7) pa_nil)) pe_int) pa_nil))))
      (pss_cons (ps_set (i := 9) nd rfl (Or.inl rfl) (pe_lst (pa_cons (pe_op (r := rCatA K) op_catA (pe_op (r := rCatA K) op_catA (pe_slice sl_tupA (pv 7) po_none (po_some (pv 8))) (pe_tup (pa_cons (pe_tup (pa_cons pe_str (pa_cons (pv 6) (pa_cons (pe_tup pa_nil) pa_nil)))) pa_nil))) (pe_slice sl_tupA (pv 7) (po_some (pv 8)) po_none)) pa_nil)))
      (pss_cons (ps_for PassesOwn.never rfl (pi_range1 (by rfl) B._range (pa_cons (pe_call c_law_take.F (hr.mono (by decide)) (by rfl) c_law_take.g c_law_take.kp c_law_take.b .nil pass0 (pa_cons (pv 0) (pa_cons (pv 1) pa_nil))) pa_nil)) (pg_name (i := 10) nd rfl (Or.inl rfl))
        (pss_one (ps_expr (pe_bm PySem.F.plainAttrs_list PySem.F.slot_list_append PySem.F.type_list_append mt_append (pv 9) (pa_cons (pe_call c_law_loop.F (hr.mono (by decide)) (by rfl) c_law_loop.g c_law_loop.kp c_law_loop.b .nil pass0 (pa_cons (pv 0) (pa_cons (pv 5) (pa_cons (pv 2) pa_nil)))) pa_nil)))))
      (pss_cons (ps_set (i := 11) nd rfl (Or.inl rfl) (pe_callB (r := rMax K) (cr_max rfl) (by rfl) B._max boot_max (pa_cons (pe_lc (own := [("_law_places", 13)]) rfl nd (pi_list (pv 9)) (blkOk_by (own := [("_law_places", 13)]) (N := n_law_plan) (sc := defScope s_law_plan) (by decide +kernel)) (fun _ _ _ _ _ => (pg_name (i := 13) nd rfl (Or.inl rfl))) (fun _ _ _ _ _ => pts_nil) (fun _ _ _ _ _ => (pe_callB (r := rMax K) (cr_max rfl) (by rfl) B._max boot_max (pa_cons (pe_call c_law_parts.F (hr.mono (by decide)) (by rfl) c_law_parts.g c_law_parts.kp c_law_parts.b .nil pass0 (pa_cons (pv 13) pa_nil)) pa_nil)))) pa_nil)))
      (pss_cons (ps_set (i := 12) nd rfl (Or.inl rfl) (pe_lst pa_nil))
      (pss_cons (ps_for PassesOwn.never rfl (pi_list (pv 9)) (pg_name (i := 13) nd rfl (Or.inl rfl))
        (pss_one (ps_for PassesOwn.never rfl (pi_tup (pv 13)) (pg_tup rfl (pgs_cons (pg_name (i := 14) nd rfl (Or.inl rfl)) (pgs_cons (pg_name (i := 15) nd rfl (Or.inl rfl)) (pgs_cons (pg_name (i := 16) nd rfl (Or.inl rfl)) pgs_nil))))
          (pss_one (ps_expr (pe_bm PySem.F.plainAttrs_list PySem.F.slot_list_extend PySem.F.type_list_extend mt_extend (pv 12) (pa_cons (pe_lc (own := [("_law_other", 22), ("_law_number", 23)]) (g := (gTup K 2 (gCons (gName 22) (gCons (gName 23) gNil)))) rfl nd (pi_tup (pe_op (r := rCatA K) op_catA (pe_tup (pa_cons (pe_tup (pa_cons (pv 14) (pa_cons (pv 15) pa_nil))) pa_nil)) (pv 16))) (blkOk_by (own := [("_law_other", 22), ("_law_number", 23)]) (N := n_law_plan) (sc := defScope s_law_plan) (by decide +kernel)) (fun _ _ _ _ _ => (pg_tup rfl (pgs_cons (pg_name (i := 22) nd rfl (Or.inl rfl)) (pgs_cons (pg_name (i := 23) nd rfl (Or.inl rfl)) pgs_nil)))) (fun _ _ _ _ _ => (pts_one (pt_cmpR (r := rIn K false) op_in_seq (pv 22) (pe_tup (pa_cons pe_str (pa_cons pe_str pa_nil))) (by rfl)))) (fun _ _ _ _ _ => (pv 23))) pa_nil)))))))
      (pss_cons (ps_set (i := 17) nd rfl (Or.inl rfl) (pe_lst pa_nil))
      (pss_cons (ps_set (i := 18) nd rfl (Or.inl rfl) (pe_call c_law_names.F (hr.mono (by decide)) (by rfl) c_law_names.g c_law_names.kp c_law_names.b .nil pass0 (pa_cons (pv 0) (pa_cons (pe_call c_law_take.F (hr.mono (by decide)) (by rfl) c_law_take.g c_law_take.kp c_law_take.b .nil pass0 (pa_cons (pv 0) (pa_cons pe_int pa_nil))) pa_nil))))
      (pss_cons (ps_for PassesOwn.never rfl (pi_list (pv 18)) (pg_name (i := 19) nd rfl (Or.inl rfl))
        (pss_cons (ps_set (i := 20) nd rfl (Or.inr rfl) (pe_callB cr_sorted (by rfl) B._sorted boot_sorted (pa_cons (pe_lc (own := [("_law_number", 23)]) rfl nd (pi_list (pv 12)) (blkOk_by (own := [("_law_number", 23)]) (N := n_law_plan) (sc := defScope s_law_plan) (by decide +kernel)) (fun _ _ _ _ _ => (pg_name (i := 23) nd rfl (Or.inl rfl))) (fun _ _ _ _ _ => (pts_one (pt_cmpR op_eq (pe_call c_law_take.F (hr.mono (by decide)) (by rfl) c_law_take.g c_law_take.kp c_law_take.b .nil pass0 (pa_cons (pv 0) (pa_cons pe_int pa_nil))) pe_int (nomark _)))) (fun _ _ _ _ _ => (pv 23))) pa_nil)))
        (pss_cons (ps_setLc (i := 12) (own := [("_law_number", 23)]) rfl nd rfl rfl (sw_true rfl rfl rfl (by decide +kernel)) (pi_list (pv 12)) (blkOk_by (own := [("_law_number", 23)]) (N := n_law_plan) (sc := defScope s_law_plan) (by decide +kernel)) (fun _ _ _ _ _ => (pg_name (i := 23) nd rfl (Or.inl rfl))) (fun _ _ _ _ _ => (pts_one (pt_cmpR (r := rIn K true) op_notIn_seq (pv 23) (pv 20) (by rfl)))) (fun _ _ _ _ _ => (pv 23)))
        (pss_one (ps_if (pt_cmpR op_gt (pe_callB call_len_seq (by rfl) B._len boot_len (pa_cons (pv 20) pa_nil)) pe_int (nomark _))
          (pss_one (ps_expr (pe_bm PySem.F.plainAttrs_list PySem.F.slot_list_append PySem.F.type_list_append mt_append (pv 17) (pa_cons (pe_tup (pa_cons (pv 19) (pa_cons (pe_callTy call_tuple_of (by rfl) B._tuple boot_tuple (pa_cons (pv 20) pa_nil)) pa_nil))) pa_nil))))
          pss_nil)))))
      (pss_one (ps_ret (pe_tup (pa_cons (pe_callB (call_min2 rfl) (by rfl) B._min boot_min (pa_cons pe_int (pa_cons (pe_op op_add (pv 11) (pe_call c_law_take.F (hr.mono (by decide)) (by rfl) c_law_take.g c_law_take.kp c_law_take.b .nil pass0 (pa_cons (pv 0) (pa_cons pe_int pa_nil)))) pa_nil))) (pa_cons (pe_callTy call_tuple_of (by rfl) B._tuple boot_tuple (pa_cons (pv 9) pa_nil)) (pa_cons (pe_callTy call_tuple_of (by rfl) B._tuple boot_tuple (pa_cons (pv 17) pa_nil)) pa_nil))))))))))))))))))))), ?_⟩
    -- start
    refine ⟨_, rfl, p, 99, 0, rfl, bg, by omega, ⟨by decide, by decide⟩, fun H1 st e1 b1 st0 st1 => ?_⟩
    obtain ⟨bx1, hp1⟩ := b1.ls
    -- stride
    refine ⟨le_line (by show 9 ≤ 1000; decide), fun t nt => ?_⟩
    have s2 := same_new (o := .lst (strides.map V.int)) nt
    have ht2 : (upd H1 t (.lst (strides.map V.int))) t = some (.lst (strides.map V.int)) := upd_same
    have hpt : p ≠ t := ne_of_none hp1 nt
    have b2 := b1.keep s2
    have eg : (upd H1 t (.lst [V.int 1, V.int 2, V.int 4, V.int 5, V.int 7, V.int 8, V.int 10, V.int 13, V.int 98])) = upd H1 t (.lst (strides.map V.int)) := rfl
    rw [eg]
    generalize upd H1 t (.lst (strides.map V.int)) = H2 at s2 ht2 b2 ⊢
    refine ⟨_, rfl, p, 9, _, rfl, b2, by omega, ⟨by decide, by decide⟩, fun H3 d3 e3 b3 d30 d31 => ?_⟩
    obtain ⟨sd, esd, msd⟩ := stride_at d30 d31
    refine ⟨t, _, _, _, rfl, rfl, SqL.of (e3 _ _ hpt.symm ht2), esd, ?_⟩
    have ex3 : Ex p H H3 := (e1.trans (ex_of s2)).trans e3
    -- numbers
    refine ⟨_, rfl, by decide, by decide, fun nr nnr => ?_⟩
    have sdb : -(2 : Int) ^ 64 < sd ∧ sd < 2 ^ 64 := by
      simp only [strides, List.mem_cons, List.not_mem_nil, or_false] at msd
      rcases msd with rfl | rfl | rfl | rfl | rfl | rfl | rfl | rfl | rfl <;> decide
    refine lc_it walk_range (fun i H4 => Same H3 H4 ∧ H4 nr = some (.lst ((nums st sd i).map V.int))) ⟨same_new nnr, upd_same⟩ (fun _ _ _ _ => trivial) ?_ ?_
    · rintro i x _ H4 hi ⟨s4, h4⟩ ⟨rfl, rfl⟩
      refine ⟨rfl, _, rfl, _, rfl, _, rfl, _, _, rfl, rfl, .inl sdb, _, _, rfl, rfl, _, _, rfl, rfl, (by show (0 : Int) < 99; decide), _, _, rfl, rfl, ?_⟩
      refine ⟨_, h4, by unfold nums; rw [List.length_map, List.length_map, List.length_range]; exact small1000 (by omega), same_mut s4 nnr, ?_⟩
      rw [upd_same]
      unfold nums numK
      rw [List.range_succ, List.map_append, List.map_append, Int.zero_add]
      rfl
    · rintro H4 ⟨s4, h4⟩
      have N30 : (nums st sd 30).length = 30 := by
        unfold nums
        rw [List.length_map, List.length_range]
      have Nnd := nums_nd (s := st) msd
      have Nbd : ∀ a ∈ nums st sd 30, 1 ≤ a ∧ a ≤ 99 := fun a ha => by
        obtain ⟨k, _, rfl⟩ := List.mem_map.mp ha
        exact numK_bd st sd k
      replace h4 : H4 nr = some (.lst ((nums st sd 30).map V.int)) := h4
      generalize nums st sd 30 = N at h4 N30 Nnd Nbd
      obtain ⟨own, ns, rfl⟩ : ∃ own ns, N = own :: ns := by
        cases N with
        | nil => cases N30
        | cons a l => exact ⟨a, l, rfl⟩
      have b4 := b3.keep s4
      obtain ⟨bx3, hp3⟩ := b3.ls
      have hpn : p ≠ nr := ne_of_none hp3 nnr
      have nnrH : H nr = none := by
        cases z : H nr with
        | none => rfl
        | some y => exact absurd (ex3 _ _ hpn.symm z) (by rw [nnr]; intro w; cases w)
      -- own = numbers.pop(0)
      refine ⟨_, rfl, .inl ⟨rfl, _, SqL.of h4⟩, nr, _, 0, 0, .int own, rfl, rfl, h4, by decide, by decide, pop0 own ns, rfl, ?_⟩
      have e11 : ((own :: ns).map V.int).eraseIdx 0 = ns.map V.int := rfl
      rw [e11]
      have h5 : (upd H4 nr (.lst (ns.map V.int))) nr = some (.lst (ns.map V.int)) := upd_same
      have b5 := b4.mut (o := .lst (ns.map V.int)) hpn
      have ex5 : Ex p H (upd H4 nr (.lst (ns.map V.int))) := ex_mut (ex3.trans (ex_of s4)) nnrH
      generalize upd H4 nr (.lst (ns.map V.int)) = H5 at h5 b5 ex5 ⊢
      -- first
      refine ⟨le_line (Nat.zero_le _), fun t0 n0 => ?_⟩
      have s6 := same_new (o := .tup []) n0
      have tv0 : Tp (upd H5 t0 (.tup [])) (dLoop []) (.ref t0) := tp_tup upd_same ta_nil
      have h6 := s6 _ _ h5
      have b6 := b5.keep s6
      have ex6 := ex5.trans (ex_of s6)
      generalize upd H5 t0 (.tup []) = H6 at s6 tv0 h6 b6 ex6 ⊢
      refine ⟨fun σ H' => ∃ (v1 : V) (L1 : List Pl) (rest : List Int) (y8 y9 y10 y11 y12 y13 y14 y15 y16 y17 y18 y19 y20 y21 y22 y23 : Option V), σ = [some (.ref p), some (.int 3), some (.int 12), some (.int st), some (.int sd), some (.ref nr), some (.int own), some v1, y8, y9, y10, y11, y12, y13, y14, y15, y16, y17, y18, y19, y20, y21, y22, y23] ∧
        Ex p H H' ∧ BagN H' p 100 ∧ H' nr = some (.lst (rest.map V.int)) ∧ Tp H' (dLoop L1) v1 ∧ L1.length ≤ 11 ∧ (∀ x ∈ L1, PlOk x) ∧ ns = ads L1 ++ rest, ?_, ?_⟩
      · refine ⟨_, rfl, p, 8, _, rfl, b6, by omega, ⟨by decide, by decide⟩, fun H7 d7 e7 b7 d70 d71 => ⟨_, _, rfl, rfl, _, rfl, ?_⟩⟩
        have h7 := e7 _ _ hpn.symm h6
        have ex7 := ex6.trans e7
        by_cases hd : 0 < d7
        · rw [decide_eq_true hd]
          refine iteT ?_
          refine ⟨_, rfl, _, rfl, _, rfl, _, _, rfl, rfl, p, nr, 11, _, ns, rfl, b7, by omega, h7, hpn, ⟨by decide, by decide⟩, fun a ha => Nbd a (List.mem_cons_of_mem _ ha), fun H8 v1 L1 rest e8 b8 h8 tv l1 l2 okL ens => ?_⟩
          exact ⟨v1, L1, rest, _, _, _, _, _, _, _, _, _, _, _, _, _, _, _, _, rfl, ex7.of2 e8 nnrH, b8.le (by omega), h8, tv, by omega, okL, ens⟩
        · rw [decide_eq_false hd]
          refine iteF ?_
          exact ⟨_, [], ns, _, _, _, _, _, _, _, _, _, _, _, _, _, _, _, _, rfl, ex7, b7.le (by omega), h7, tv0.mono (b6.ts e7), Nat.zero_le _, fun _ h => (by cases h), rfl⟩
      clear tv0 h6 b6 ex6 s6 n0 h5 b5 ex5
      rintro σ H6 ⟨v1, L1, rest, y8, y9, y10, y11, y12, y13, y14, y15, y16, y17, y18, y19, y20, y21, y22, y23, rfl, ex6, b6, h6, tv1, l11, okL1, ens⟩
      obtain ⟨a1, xs1, rfl, ha1, rx1⟩ := id tv1
      have lx1 : xs1.length = L1.length := tall_len rx1
      -- at
      refine ⟨_, rfl, _, rfl, a1, xs1, rfl, .inr (SqT.of ha1), _, _, rfl, rfl, p, _, _, rfl, b6, by omega, ⟨by omega, by omega⟩, fun H7 d7 e7 b7 d70 d71 => ?_⟩
      obtain ⟨at_, rfl⟩ : ∃ k : Nat, d7 = (k : Int) := ⟨d7.toNat, by omega⟩
      have h7 := e7 _ _ hpn.symm h6
      have ex7 := ex6.trans e7
      have tv7 := tv1.mono (b6.ts e7)
      have lat : at_ ≤ (L1.map dPl).length := by rw [List.length_map]; omega
      -- loops
      refine ⟨_, rfl, _, rfl, _, rfl, take_tp tv7 lat fun H8 z8 s8 tz8 => ?_⟩
      refine ⟨_, rfl, le_line (Nat.zero_le _), fun t1 n1 => ⟨le_line (by show 3 ≤ 1000; decide), fun t2 n2 => ⟨le_line (by show 1 ≤ 1000; decide), fun t3 n3 => ?_⟩⟩⟩
      have sA := same_new (o := .tup []) n1
      have sB := same_new (o := .tup [V.str "seeker", .int own, .ref t1]) n2
      have sC := same_new (o := .tup [V.ref t2]) n3
      have tO : Tp (upd (upd (upd H8 t1 (.tup [])) t2 (.tup [V.str "seeker", .int own, .ref t1])) t3 (.tup [V.ref t2])) (.tuple [dPl ⟨"seeker", own, []⟩]) (.ref t3) :=
        tp_tup upd_same (ta_cons (tp_tup (sC _ _ upd_same) (ta_cons tp_str (ta_cons tp_int (ta_cons (tp_tup (sC _ _ (sB _ _ upd_same)) ta_nil) ta_nil)))) ta_nil)
      have s9 := s8.trans (sA.trans (sB.trans sC))
      have tz9 := tz8.mono (ts_of (sA.trans (sB.trans sC)))
      generalize upd (upd (upd H8 t1 (.tup [])) t2 (.tup [V.str "seeker", .int own, .ref t1])) t3 (.tup [V.ref t2]) = H9 at s9 tO tz9 ⊢
      have ll : (L1.map dPl).length = L1.length := List.length_map ..
      refine cat_tp tz9 tO (by rw [List.length_take, List.length_singleton]; omega) fun H10 z10 s10 tz10 => ?_
      have s710 := s9.trans s10
      refine ⟨_, rfl, _, rfl, _, rfl, ?_⟩
      dsimp only [tNoPart]
      refine drop_tp (tv7.mono (ts_of s710)) lat fun H11 z11 s11 tz11 => ?_
      refine cat_tp (tz10.mono (ts_of s11)) tz11 (by rw [List.length_append, List.length_take, List.length_singleton, List.length_drop]; omega) fun H12 z12 s12 tz12 => ?_
      have s712 := s710.trans (s11.trans s12)
      have tz12 : Tp H12 (dLoop (L1.take at_ ++ [(⟨"seeker", own, []⟩ : Pl)] ++ L1.drop at_)) z12 := by
        have e : (L1.take at_ ++ [(⟨"seeker", own, []⟩ : Pl)] ++ L1.drop at_).map dPl = (L1.map dPl).take at_ ++ [dPl ⟨"seeker", own, []⟩] ++ (L1.map dPl).drop at_ := by
          rw [List.map_append, List.map_append, List.map_take, List.map_drop]
          rfl
        unfold dLoop
        rw [e]
        exact tz12
      refine ⟨le_line (by show 1 ≤ 1000; decide), fun la nla => ?_⟩
      have pm0 := ads_mid L1 at_ own rest
      have pos0 := ads_pos L1 at_ own
      rw [← ens] at pm0
      have ok0 : ∀ x ∈ L1.take at_ ++ [(⟨"seeker", own, []⟩ : Pl)] ++ L1.drop at_, PlOk x := by
        intro x hx
        rcases List.mem_append.mp hx with hx | hx
        · rcases List.mem_append.mp hx with hx | hx
          · exact okL1 x (List.mem_of_mem_take hx)
          · rw [List.mem_singleton.mp hx]
            exact .inr ⟨⟨show ("seeker" : Str) ∈ kinds by decide +kernel, Nbd own List.mem_cons_self⟩, Nat.zero_le _, fun _ h => (by cases h)⟩
        · exact okL1 x (List.mem_of_mem_drop hx)
      have len0 : 1 ≤ (L1.take at_ ++ [(⟨"seeker", own, []⟩ : Pl)] ++ L1.drop at_).length ∧ (L1.take at_ ++ [(⟨"seeker", own, []⟩ : Pl)] ++ L1.drop at_).length ≤ 12 := by
        rw [List.length_append, List.length_append, List.length_take, List.length_singleton, List.length_drop]
        omega
      generalize L1.take at_ ++ [(⟨"seeker", own, []⟩ : Pl)] ++ L1.drop at_ = L0 at tz12 pm0 pos0 ok0 len0
      have s13 := same_new (o := .lst [z12]) nla
      have hla : (upd H12 la (.lst [z12])) la = some (.lst [z12]) := upd_same
      have s713 := s712.trans s13
      have tz13 := tz12.mono (ts_of s13)
      have h12 := s712 _ _ h7
      have hnl : nr ≠ la := ne_of_none h12 nla
      obtain ⟨bx7, hp7⟩ := b7.ls
      have hpl : p ≠ la := ne_of_none (s712 _ _ hp7) nla
      have nlaH : H la = none := by
        cases z : H la with
        | none => rfl
        | some y => exact absurd (s712 _ _ (ex7 _ _ hpl.symm z)) (by rw [nla]; intro w; cases w)
      generalize upd H12 la (.lst [z12]) = H13 at s13 hla s713 tz13 ⊢
      have b13 := b7.keep s713
      have h13 := s713 _ _ h7
      have ex13 := ex7.trans (ex_of s713)
      clear tz12 s712 s12 tz11 s11 tz10 s10 tz9 s9 tO sA sB sC s8 tz8
      refine ⟨_, rfl, _, rfl, p, 3, _, rfl, b13, by omega, ⟨by decide, by decide⟩, fun H14 d14 e14 b14 d140 d141 => ?_⟩
      have ex14 := ex13.trans e14
      have h14 := e14 _ _ hpn.symm h13
      have hla14 := e14 _ _ hpl.symm hla
      have tz14 := tz13.mono (b13.ts e14)
      refine ⟨_, rfl, by omega, by omega, for_it walk_range (fun k σ H' => ∃ (Ls : List (List Pl)) (xs : List V) (rest : List Int) (y10 y11 y12 y13 y14 y15 y16 y17 y18 y19 y20 y21 y22 y23 : Option V), σ = [some (.ref p), some (.int 3), some (.int 12), some (.int st), some (.int sd), some (.ref nr), some (.int own), some (.ref a1), some (.int (at_ : Int)), some (.ref la), y10, y11, y12, y13, y14, y15, y16, y17, y18, y19, y20, y21, y22, y23] ∧
        Ex p H H' ∧ BagN H' p (110 + 80 * k) ∧ H' nr = some (.lst (rest.map V.int)) ∧ H' la = some (.lst xs) ∧ TpAll H' (Ls.map dLoop) xs ∧ Ls.length = k + 1 ∧ (∀ L ∈ Ls, 1 ≤ L.length ∧ L.length ≤ 12) ∧ (∀ L ∈ Ls, ∀ x ∈ L, PlOk x) ∧ (Ls.flatMap ads ++ rest).Perm (own :: ns) ∧ 1 ≤ (Ls.flatMap ads).length)
        ⟨[L0], _, rest, _, _, _, _, _, _, _, _, _, _, _, _, _, _, rfl, ex14, b14.le (by omega), h14, hla14, ta_cons tz14 ta_nil, rfl, fun L hL => by rw [List.mem_singleton.mp hL]; exact len0, fun L hL => by rw [List.mem_singleton.mp hL]; exact ok0, pm0, pos0⟩ (fun _ _ _ _ _ => trivial) ?_ ?_⟩
      · rintro k x σ _ H15 hk ⟨Ls, xs, rest2, y10, y11, y12, y13, y14, y15, y16, y17, y18, y19, y20, y21, y22, y23, rfl, ex15, b15, h15, hla15, rxs, lLs, lens, okLs, pm, pos⟩ ⟨rfl, rfl⟩
        refine ⟨_, rfl, .inl ⟨rfl, _, SqL.of hla15⟩, _, rfl, _, rfl, _, rfl, p, nr, 12, _, rest2, rfl, b15, by omega, h15, hpn, ⟨by decide, by decide⟩, fun a ha => Nbd a (pm.subset (List.mem_append_right _ ha)), fun H16 v2 L2 rest3 e16 b16 h16 tv2 l1 l2 okL2 er => ?_⟩
        have hla16 := e16 _ _ hpl.symm hnl.symm hla15
        obtain ⟨bx15, hp15⟩ := b15.ls
        have rx16 := rxs.mono (e16.ts hp15 h15)
        refine ⟨la, _, _, rfl, rfl, hla16, small_len rx16 (by rw [List.length_map]; omega), ?_⟩
        refine ⟨Ls ++ [L2], _, rest3, _, _, _, _, _, _, _, _, _, _, _, _, _, _, rfl, ex_mut (ex15.of2 e16 nnrH) nlaH, (b16.mut hpl).le (by omega), (upd_ne hnl).trans h16, upd_same, ?_, by rw [List.length_append, lLs]; rfl, ?_, ?_, ?_, ?_⟩
        · rw [List.map_append]
          exact (rx16.mono (ts_lst hla16)).snoc (tv2.mono (ts_lst hla16))
        · intro L hL
          rcases List.mem_append.mp hL with hL | hL
          · exact lens L hL
          · rw [List.mem_singleton.mp hL]
            omega
        · intro L hL
          rcases List.mem_append.mp hL with hL | hL
          · exact okLs L hL
          · rw [List.mem_singleton.mp hL]
            exact okL2
        · rw [List.flatMap_append, List.flatMap_cons, List.flatMap_nil, List.append_nil, List.append_assoc, ← er]
          exact pm
        · rw [List.flatMap_append, List.length_append]
          omega
      clear tz14 hla14 h14 ex14 b14 e14 tz13 hla s13 h13 ex13 b13
      rintro σ H15 ⟨Ls, xs, rest2, y10, y11, y12, y13, y14, y15, y16, y17, y18, y19, y20, y21, y22, y23, rfl, ex15, b15, h15, hla15, rxs, lLs, lens, okLs, pm, pos⟩
      have lxs : xs.length = Ls.length := tall_len rxs
      have lL3 : Ls.length ≤ 3 := by omega
      have pml := pm.length_eq
      rw [List.length_append, N30] at pml
      -- most
      refine ⟨_, rfl, la, rfl, ⟨_, SqL.of hla15⟩, fun D nD => ?_⟩
      refine lc_it (walk_list (xs := xs)) (fun i H16 => Same H15 H16 ∧ ∃ ms : List Int, H16 D = some (.lst (ms.map V.int)) ∧ Paired MaxOf (Ls.take i) ms) ⟨same_new nD, [], upd_same, .nil⟩ (fun i H16 _ p => SqL.of (p.1 _ _ hla15)) ?_ ?_
      · rintro i x _ H16 hi ⟨s16, ms, hD, pms⟩ ⟨rfl, hx⟩
        obtain ⟨L, eL, tL⟩ := tall_map rxs hx
        have mL := List.mem_of_getElem? eL
        refine ⟨rfl, _, rfl, _, L, rfl, tL.mono (ts_of s16), (lens L mL).2, fun H17 r s17 hr => ?_⟩
        rw [pc_cV] at hr
        refine ⟨r, _, rfl, SqL.of hr, by rw [List.length_map]; exact pc_ne L, fun m hm hmax => ?_⟩
        obtain ⟨c, hc, rfl⟩ := List.mem_map.mp hm
        refine ⟨_, s17 _ _ hD, ?_, same_mut (s16.trans s17) nD, ms ++ [(c : Int)], ?_, ?_⟩
        · rw [List.length_map, plen pms, List.length_take]
          exact small1000 (by omega)
        · rw [upd_same, List.map_append]
          rfl
        · rw [take_snoc eL]
          exact psnoc pms ⟨fun c2 h2 => hmax _ (List.mem_map_of_mem h2), c, hc, rfl⟩
      · rintro H16 ⟨s16, ms, hD, pms⟩
        rw [lxs, List.take_length] at pms
        refine ⟨D, ms, rfl, SqL.of hD, by rw [plen pms]; omega, fun m hm hmax => ?_⟩
        have hm1 : ∀ L ∈ Ls, ∀ c ∈ pc L, (c : Int) ≤ m := fun L hL c hc => by
          obtain ⟨b, hb, r1, _⟩ := pmem pms hL
          exact Int.le_trans (r1 c hc) (hmax b hb)
        have hm2 : 1 ≤ m := by
          obtain ⟨a, ha⟩ := List.exists_mem_of_length_pos pos
          obtain ⟨L, hL, haL⟩ := List.mem_flatMap.mp ha
          have sm := pc_sum (okLs L hL)
          obtain ⟨c, hc, c1⟩ := sum_pos (l := pc L) (by rw [sm]; exact List.length_pos_of_mem haL)
          have := hm1 L hL c hc
          omega
        have hm3 : m ≤ 30 := by
          obtain ⟨L, hL, _, c, hc, rfl⟩ := pmemr pms hm
          have h1 := le_sum hc
          rw [pc_sum (okLs L hL)] at h1
          have h2 := ads_le hL
          omega
        -- told
        refine ⟨Nat.zero_le _, fun ta nta => ?_⟩
        have s17 := same_new (o := .lst []) nta
        have hta : (upd H16 ta (.lst [])) ta = some (.lst []) := upd_same
        generalize upd H16 ta (.lst []) = H17 at s17 hta ⊢
        have s1517 := s16.trans s17
        refine ⟨_, rfl, la, rfl, ⟨_, SqL.of (s1517 _ _ hla15)⟩, for_it (walk_list (xs := xs)) (fun k σ H' => ∃ (y10 y13 y14 y15 y16 y17 y18 y19 y20 y21 y22 y23 : Option V), σ = [some (.ref p), some (.int 3), some (.int 12), some (.int st), some (.int sd), some (.ref nr), some (.int own), some (.ref a1), some (.int (at_ : Int)), some (.ref la), y10, some (.int m), some (.ref ta), y13, y14, y15, y16, y17, y18, y19, y20, y21, y22, y23] ∧
          Same H16 H' ∧ H' ta = some (.lst (((Ls.take k).flatMap tl).map V.int)))
          ⟨_, _, _, _, _, _, _, _, _, _, _, _, rfl, s17, hta⟩ (fun k σ H' _ ⟨_, _, _, _, _, _, _, _, _, _, _, _, _, z, _⟩ => SqL.of (z _ _ (s16 _ _ hla15))) ?_ ?_⟩
        · rintro k x σ _ H18 hk ⟨y10, y13, y14, y15, y16, y17, y18, y19, y20, y21, y22, y23, rfl, s18, hta18⟩ ⟨rfl, hx⟩
          obtain ⟨L, eL, tL⟩ := tall_map rxs hx
          have mL := List.mem_of_getElem? eL
          obtain ⟨c, ps, rfl, hc, rp⟩ := tL.mono (ts_of (s16.trans s18))
          have lp : ps.length = L.length := tall_len rp
          have l12 := (lens L mL).2
          have lT : ((Ls.take k).flatMap tl).length ≤ 144 := by
            have h1 := fmI_len (fun (i : Nat) (L : List Pl) => tl L) 48 0 (Ls.take k) fun i M eM => tl_len (lens M (List.mem_of_mem_take (List.mem_of_getElem? eM))).2 (fun x hx => (okLs M (List.mem_of_mem_take (List.mem_of_getElem? eM)) x hx).spur)
            rw [fmI_const] at h1
            rw [List.length_take] at h1
            omega
          refine ⟨_, rfl, c, rfl, ⟨ps, SqT.of hc⟩, for_it (walk_tup (xs := ps)) (fun j σ H' => ∃ (y14 y15 y16 y22 y23 : Option V), σ = [some (.ref p), some (.int 3), some (.int 12), some (.int st), some (.int sd), some (.ref nr), some (.int own), some (.ref a1), some (.int (at_ : Int)), some (.ref la), y10, some (.int m), some (.ref ta), some (.ref c), y14, y15, y16, y17, y18, y19, y20, y21, y22, y23] ∧
            Same H16 H' ∧ H' c = some (.tup ps) ∧ TpAll H' (L.map dPl) ps ∧ H' ta = some (.lst (((Ls.take k).flatMap tl ++ (L.take j).flatMap tlPl).map V.int)))
            ⟨_, _, _, _, _, rfl, s18, hc, rp, by rw [List.take_zero, List.flatMap_nil, List.append_nil]; exact hta18⟩ (fun j σ H' _ ⟨_, _, _, _, _, _, _, z, _⟩ => SqT.of z) ?_ ?_⟩
          · rintro j x σ _ H19 hj ⟨y14, y15, y16, y22, y23, rfl, s19, hc19, rp19, hta19⟩ ⟨rfl, hx⟩
            obtain ⟨pl, epl, tpl⟩ := tall_map rp19 hx
            have okp := okLs L mL pl (List.mem_of_getElem? epl)
            have j12 := (List.getElem?_eq_some_iff.mp epl).1
            obtain ⟨d, _, rfl, hd, _, _, rfl, rfl, _, _, rfl, rfl, vs, _, rfl, tsp, rfl⟩ := tpl
            refine ⟨d, _, rfl, SqT.of hd, rfl, _, _, rfl, _, _, rfl, _, _, rfl, rfl, ?_⟩
            refine ⟨_, rfl, .inl ⟨rfl, _, SqL.of hta19⟩, _, rfl, _, rfl, le_line (by show 2 ≤ 1000; decide), fun t1 n1 => ⟨le_line (by show 1 ≤ 1000; decide), fun t2 n2 => ?_⟩⟩
            have sA := same_new (o := .tup [V.str pl.kind, .int pl.addr]) n1
            have sB := same_new (o := .tup [V.ref t1]) n2
            have tO : Tp (upd (upd H19 t1 (.tup [V.str pl.kind, .int pl.addr])) t2 (.tup [V.ref t1])) (.tuple [dDev ⟨pl.kind, pl.addr⟩]) (.ref t2) := tp_tup upd_same (ta_cons (tp_tup (sB _ _ upd_same) (ta_cons tp_str (ta_cons tp_int ta_nil))) ta_nil)
            have s20 := sA.trans sB
            generalize upd (upd H19 t1 (.tup [V.str pl.kind, .int pl.addr])) t2 (.tup [V.ref t1]) = H20 at s20 tO ⊢
            have spl3 := okp.spur
            refine ⟨_, rfl, cat_tp tO (tsp.mono (ts_of s20)) (by rw [List.length_singleton, List.length_map]; omega) fun H21 z s21 tz => ?_⟩
            have s1921 := s20.trans s21
            obtain ⟨a, zs, rfl, ha, rz⟩ := tz
            have rz : TpAll H21 (((⟨pl.kind, pl.addr⟩ :: pl.spur) : List Dev).map dDev) zs := rz
            have lz : zs.length = pl.spur.length + 1 := tall_len rz
            refine ⟨a, rfl, ⟨_, SqT.of ha⟩, fun D nD => ?_⟩
            refine lc_it (walk_tup (xs := zs)) (fun i H22 => Same H21 H22 ∧ H22 D = some (.lst (((((⟨pl.kind, pl.addr⟩ :: pl.spur) : List Dev).take i).filter fun d : Dev => decide (d.kind ∈ tellers)).map (·.addr) |>.map V.int))) ⟨same_new nD, upd_same⟩ (fun i H22 _ p => SqT.of (p.1 _ _ ha)) ?_ ?_
            · rintro i x _ H22 hi ⟨s22, hD⟩ ⟨rfl, hx⟩
              obtain ⟨dv, edv, tdv⟩ := tall_map rz hx
              obtain ⟨t, _, rfl, ht, _, _, rfl, rfl, _, _, rfl, rfl, rfl⟩ := tdv.mono (ts_of s22)
              refine ⟨t, _, rfl, SqT.of ht, rfl, _, _, rfl, _, _, rfl, rfl, rfl, ?_⟩
              refine ⟨_, rfl, le_line (by show 2 ≤ 1000; decide), fun t5 n5 => ?_⟩
              have s23 := same_new (o := .tup [V.str "seeker", .str "knob"]) n5
              have hD23 := s23 _ _ hD
              refine ⟨t5, _, rfl, .inr (SqT.of upd_same), rfl, rfl, decide (dv.kind ∈ tellers), ?_, ?_⟩
              · exact congrArg V.bl (inV_strs dv.kind tellers)
              rw [take_snoc edv, List.filter_append]
              by_cases hk : dv.kind ∈ tellers
              · rw [decide_eq_true hk]
                refine iteT ?_
                refine ⟨_, rfl, _, hD23, ?_, same_mut (s22.trans s23) nD, ?_⟩
                · rw [List.length_map, List.length_map]
                  refine small1000 (Nat.le_trans (List.length_filter_le _ _) ?_)
                  rw [List.length_take]
                  omega
                · rw [upd_same, List.filter_cons_of_pos (by exact decide_eq_true hk), List.map_append, List.map_append]
                  rfl
              · rw [decide_eq_false hk]
                refine iteF ?_
                rw [List.filter_cons_of_neg (by rw [decide_eq_false hk]; decide), List.filter_nil, List.append_nil]
                exact ⟨s22.trans s23, hD23⟩
            · rintro H22 ⟨s22, hD⟩
              have et : (((⟨pl.kind, pl.addr⟩ :: pl.spur) : List Dev).take zs.length) = ⟨pl.kind, pl.addr⟩ :: pl.spur := List.take_of_length_le (by rw [lz]; exact Nat.le_refl _)
              rw [et] at hD
              have hD : H22 D = some (.lst ((tlPl pl).map V.int)) := hD
              have hta22 := s22 _ _ (s1921 _ _ hta19)
              have lq : (tlPl pl).length ≤ 4 := tlPl_len spl3
              have lw : ((L.take j).flatMap tlPl).length ≤ 48 := by
                have h1 := tl_len (L := L.take j) (by rw [List.length_take]; omega) (fun x hx => (okLs L mL x (List.mem_of_mem_take hx)).spur)
                exact h1
              refine ⟨ta, D, _, _, rfl, rfl, hta22, hD, ?_, ?_⟩
              · rw [List.length_map, List.length_map, List.length_append]
                exact le_line (by omega)
              refine ⟨_, _, _, _, _, rfl, same_mut (s19.trans (s1921.trans s22)) nta, (ts_lst hta22) _ _ (s22 _ _ (s1921 _ _ hc19)), (rp19.mono (ts_of (s1921.trans s22))).mono (ts_lst hta22), ?_⟩
              rw [upd_same, take_snoc epl, List.flatMap_append, List.flatMap_cons, List.flatMap_nil, List.append_nil, ← List.map_append, List.append_assoc]
          · rintro σ H19 ⟨y14, y15, y16, y22, y23, rfl, s19, hc19, rp19, hta19⟩
            rw [lp, List.take_length] at hta19
            refine ⟨_, _, _, _, _, _, _, _, _, _, _, _, rfl, s19, ?_⟩
            rw [take_snoc eL, List.flatMap_append, List.flatMap_cons, List.flatMap_nil, List.append_nil]
            exact hta19
        · rintro σ H18 ⟨y10, y13, y14, y15, y16, y17, y18, y19, y20, y21, y22, y23, rfl, s18, hta18⟩
          rw [lxs, List.take_length] at hta18
          have s1518 := s16.trans s18
          have Tsub : (Ls.flatMap tl).Sublist (Ls.flatMap ads) := by
            rw [← told_tl, ← devs_ads]
            exact told_sub Ls
          have adnd : (Ls.flatMap ads).Nodup := (List.nodup_append.mp (pm.nodup_iff.mpr Nnd)).1
          have Tnd : (Ls.flatMap tl).Nodup := Tsub.nodup adnd
          have Tbd : ∀ a ∈ Ls.flatMap tl, 1 ≤ a ∧ a ≤ 99 := fun a ha => Nbd a (pm.subset (List.mem_append_left _ (Tsub.subset ha)))
          have Tln : (Ls.flatMap tl).length ≤ 30 := Nat.le_trans Tsub.length_le (by omega)
          -- zones, names
          refine ⟨Nat.zero_le _, fun za nza => ?_⟩
          have s19 := same_new (o := .lst []) nza
          have hza : (upd H18 za (.lst [])) za = some (.lst []) := upd_same
          generalize upd H18 za (.lst []) = H19 at s19 hza ⊢
          have s1519 := s1518.trans s19
          have ex19 := ex15.trans (ex_of s1519)
          have b19 := (b15.keep s1519).le (show _ ≤ 400 by omega)
          obtain ⟨bx19, hp19⟩ := b19.ls
          have hpza : p ≠ za := fun z => by
            obtain ⟨bx, e⟩ := (b15.keep s1518).ls
            rw [z, nza] at e
            cases e
          have hpla := hpl
          have hpta : p ≠ ta := fun z => by
            obtain ⟨bx, e⟩ := (b15.keep s16).ls
            rw [z, nta] at e
            cases e
          have nzaH : H za = none := by
            cases z : H za with
            | none => rfl
            | some y => exact absurd (s1518 _ _ (ex15 _ _ hpza.symm z)) (by rw [nza]; intro w; cases w)
          have zala : za ≠ la := fun z => by
            have e := s1518 _ _ hla15
            rw [← z, nza] at e
            cases e
          have zata : za ≠ ta := fun z => by
            rw [← z, nza] at hta18
            cases hta18
          refine ⟨_, rfl, _, rfl, p, 5, _, rfl, b19, by omega, ⟨by decide, by decide⟩, fun H20 d20 e20 b20 d200 d201 => ⟨p, d20, _, rfl, b20, by omega, by omega, by omega, fun H21 na zs e21 b21 nna hna lz nz oz => ?_⟩⟩
          have e1921 := e20.trans e21
          have ex21 := ex19.trans e1921
          have t1921 := b19.ts e1921
          have la21 := e1921 _ _ hpla.symm (s1519 _ _ hla15)
          have rx21 := (rxs.mono (ts_of s1519)).mono t1921
          have ta21 := e1921 _ _ hpta.symm (s19 _ _ hta18)
          have za21 := e1921 _ _ hpza.symm hza
          have nazaH : na ≠ za := fun z => by
            have e := e20 _ _ hpza.symm hza
            rw [← z, nna] at e
            cases e
          have nap : na ≠ p := fun z => by
            obtain ⟨bx, e⟩ := b20.ls
            rw [← z, nna] at e
            cases e
          have b21 := b21.le (show _ ≤ 500 by omega)
          refine ⟨_, rfl, na, rfl, ⟨_, SqL.of hna⟩, for_it (walk_list (xs := zs.map V.str)) (fun k σ H' => ∃ (tk : Addr) (Tk : List Int) (Z : List (Str × List Int)) (zv : List V) (y10 y13 y14 y15 y16 y19 y20 y21 y22 y23 : Option V), σ = [some (.ref p), some (.int 3), some (.int 12), some (.int st), some (.int sd), some (.ref nr), some (.int own), some (.ref a1), some (.int (at_ : Int)), some (.ref la), y10, some (.int m), some (.ref tk), y13, y14, y15, y16, some (.ref za), some (.ref na), y19, y20, y21, y22, y23] ∧
            Ex p H H' ∧ BagN H' p (500 + 30 * k) ∧ H' la = some (.lst xs) ∧ TpAll H' (Ls.map dLoop) xs ∧ H' na = some (.lst (zs.map V.str)) ∧ H' tk = some (.lst (Tk.map V.int)) ∧ tk ≠ za ∧ tk ≠ p ∧ H' za = some (.lst zv) ∧ TpAll H' (Z.map dZone) zv ∧ Tk.Sublist (Ls.flatMap tl) ∧
            (Z.map (·.1)).Sublist (zs.take k) ∧ (∀ z ∈ Z, z.2 ≠ [] ∧ z.2.length ≤ 30 ∧ z.2.Pairwise (· < ·) ∧ ∀ a ∈ z.2, 1 ≤ a ∧ a ≤ 99) ∧ (∀ z ∈ Z, ∀ a ∈ z.2, a ∈ Ls.flatMap tl) ∧ (Z.flatMap (·.2)).Nodup ∧ (∀ a ∈ Z.flatMap (·.2), a ∉ Tk))
            ⟨ta, _, [], [], _, _, _, _, _, _, _, _, _, _, rfl, ex21, b21, la21, rx21, hna, ta21, zata.symm, hpta.symm, za21, ta_nil, List.Sublist.refl _, List.Sublist.refl _, fun _ h => (by cases h), fun _ h => (by cases h), .nil, fun _ h => (by cases h)⟩ (fun k σ H' _ ⟨_, _, _, _, _, _, _, _, _, _, _, _, _, _, _, _, _, _, _, z, _⟩ => SqL.of z) ?_ ?_⟩
          · rintro k x σ _ H22 hk ⟨tk, Tk, Z, zv, y10, y13, y14, y15, y16, y19, y20, y21, y22, y23, rfl, ex22, b22, la22, rx22, hna22, tk22, tkza, tkp, za22, rz22, Tks, zsub, zad, ztl, znd, zdis⟩ ⟨rfl, hx⟩
            rw [List.length_map] at hk
            rw [List.getElem?_map] at hx
            obtain ⟨z, ez, rfl⟩ := Option.map_eq_some_iff.mp hx
            have Tkn : Tk.Nodup := Tks.nodup Tnd
            have Tkl : Tk.length ≤ 30 := Nat.le_trans Tks.length_le Tln
            have Zl : Z.length ≤ 4 := by
              have h1 := zsub.length_le
              rw [List.length_map, List.length_take] at h1
              omega
            -- some
            refine ⟨_, rfl, tk, rfl, ⟨_, SqL.of tk22⟩, fun D2 nD2 => ?_⟩
            have hpD2 : p ≠ D2 := fun z => by
              obtain ⟨bx, e⟩ := b22.ls
              rw [z, nD2] at e
              cases e
            refine lc_it (walk_list (xs := Tk.map V.int)) (fun i H23 => Ex p H22 H23 ∧ BagN H23 p (500 + 30 * k + i) ∧ ∃ S : List Int, S.Sublist (Tk.take i) ∧ H23 D2 = some (.lst (S.map V.int))) ⟨ex_of (same_new nD2), b22.mut hpD2, [], List.Sublist.refl _, upd_same⟩ (fun i H23 _ p => SqL.of (p.1 _ _ tkp tk22)) ?_ ?_
            · rintro i x _ H23 hi ⟨e23, b23, S, sS, hD⟩ ⟨rfl, hx⟩
              rw [List.length_map] at hi
              rw [List.getElem?_map] at hx
              obtain ⟨a, ea, rfl⟩ := Option.map_eq_some_iff.mp hx
              refine ⟨rfl, _, rfl, p, 3, _, rfl, b23, by omega, ⟨by decide, by decide⟩, fun H24 d24 e24 b24 d240 d241 => ⟨rfl, _, rfl, ?_⟩⟩
              have hD24 := e24 _ _ hpD2.symm hD
              by_cases hd : d24 = 0
              · rw [decide_eq_true (show V.int d24 = V.int 0 from congrArg V.int hd)]
                refine iteT ?_
                refine ⟨_, rfl, _, hD24, ?_, ex_mut (e23.trans e24) nD2, b24.mut hpD2, S ++ [a], ?_, ?_⟩
                · rw [List.length_map]
                  have h1 := sS.length_le
                  rw [List.length_take] at h1
                  exact small1000 (by omega)
                · rw [take_snoc ea]
                  exact sS.append (List.Sublist.refl _)
                · rw [upd_same, List.map_append]
                  rfl
              · rw [decide_eq_false (show ¬ V.int d24 = V.int 0 from fun z => hd (V.int.inj z))]
                refine iteF ?_
                refine ⟨e23.trans e24, b24, S, ?_, hD24⟩
                rw [take_snoc ea]
                exact sS.trans (List.sublist_append_left _ _)
            · rintro H23 ⟨e23, b23, S, sS, hD⟩
              rw [List.length_map, List.take_length] at sS
              rw [List.length_map] at b23
              have Sn : S.Nodup := sS.nodup Tkn
              refine ⟨D2, S, rfl, SqL.of hD, Nat.lt_of_le_of_lt sS.length_le (by omega), fun S2 r perm pw nr2 => ?_⟩
              have S2n : S2.Nodup := perm.nodup_iff.mpr Sn
              have S2s : ∀ a ∈ S2, a ∈ Tk := fun a ha => sS.subset (perm.subset ha)
              have S2l : S2.length ≤ 30 := by rw [perm.length_eq]; exact Nat.le_trans sS.length_le Tkl
              have S2p : S2.Pairwise (· < ·) := (pw.and S2n).imp fun {a b} h => by omega
              have s24 := same_new (o := .lst (S2.map V.int)) nr2
              have hr24 : (upd H23 r (.lst (S2.map V.int))) r = some (.lst (S2.map V.int)) := upd_same
              generalize upd H23 r (.lst (S2.map V.int)) = H24 at s24 hr24 ⊢
              have e24 : Ex p H22 H24 := e23.trans (ex_of s24)
              have tk24 := e24 _ _ tkp tk22
              -- told without them
              refine ⟨_, rfl, tk, rfl, ⟨_, SqL.of tk24⟩, fun D3 nD3 => ?_⟩
              refine lc_it (walk_list (xs := Tk.map V.int)) (fun i H25 => Same H24 H25 ∧ H25 D3 = some (.lst (((Tk.take i).filter fun a => decide (a ∉ S2)).map V.int))) ⟨same_new nD3, upd_same⟩ (fun i H25 _ p => SqL.of (p.1 _ _ tk24)) ?_ ?_
              · rintro i x _ H25 hi ⟨s25, hD3⟩ ⟨rfl, hx⟩
                rw [List.length_map] at hi
                rw [List.getElem?_map] at hx
                obtain ⟨a, ea, rfl⟩ := Option.map_eq_some_iff.mp hx
                refine ⟨rfl, _, rfl, _, rfl, r, _, rfl, .inl (SqL.of (s25 _ _ hr24)), rfl, flat_map_int _, decide (a ∉ S2), ?_, ?_⟩
                · refine congrArg V.bl ?_
                  show (!inV (.int a) (S2.map V.int)) = _
                  rw [inV_ints]
                  simp
                rw [take_snoc ea, List.filter_append]
                by_cases hm : a ∈ S2
                · rw [decide_eq_false (fun y => y hm), List.filter_cons_of_neg (by simp [hm]), List.filter_nil, List.append_nil]
                  exact iteF ⟨s25, hD3⟩
                · rw [decide_eq_true hm, List.filter_cons_of_pos (by simp [hm]), List.filter_nil]
                  refine iteT ⟨_, rfl, _, hD3, ?_, same_mut s25 nD3, ?_⟩
                  · rw [List.length_map]
                    refine small1000 (Nat.le_trans (List.length_filter_le _ _) ?_)
                    rw [List.length_take]
                    omega
                  · rw [upd_same, List.map_append]
                    rfl
              · rintro H25 ⟨s25, hD3⟩
                rw [List.length_map, List.take_length] at hD3
                have e25 : Ex p H22 H25 := e24.trans (ex_of s25)
                have t25 := b22.ts e25
                have b25 := (b23.keep (s24.trans s25)).le (show _ ≤ 500 + 30 * (k + 1) by omega)
                have la25 := e25 _ _ hpla.symm la22
                have na25 := e25 _ _ nap hna22
                have za25 := e25 _ _ hpza.symm za22
                have rx25 := rx22.mono t25
                have rz25 := rz22.mono t25
                have ex25 := ex22.trans e25
                have hr25 := s25 _ _ hr24
                have D3za : D3 ≠ za := fun z => by
                  have e := e24 _ _ hpza.symm za22
                  rw [← z, nD3] at e
                  cases e
                have D3p : D3 ≠ p := fun z => by
                  obtain ⟨bx, e⟩ := (b23.keep s24).ls
                  rw [← z, nD3] at e
                  cases e
                have Tk2 : (Tk.filter fun a => decide (a ∉ S2)).Sublist (Ls.flatMap tl) := List.filter_sublist.trans Tks
                refine ⟨_, rfl, r, _, rfl, .inl (SqL.of hr25), _, _, rfl, rfl, _, rfl, ?_⟩
                rw [List.length_map]
                by_cases hS : 0 < ((S2.length : Nat) : Int)
                · rw [decide_eq_true hS]
                  refine iteT ?_
                  refine ⟨_, rfl, .inl ⟨rfl, _, SqL.of za25⟩, _, rfl, _, rfl, r, _, rfl, .inl ⟨SqL.of hr25, fun t1 n1 => ?_⟩⟩
                  have sA := same_new (o := .tup (S2.map V.int)) n1
                  have hA : (upd H25 t1 (.tup (S2.map V.int))) t1 = some (.tup (S2.map V.int)) := upd_same
                  refine ⟨le_line (by show 2 ≤ 1000; decide), fun t2 n2 => ?_⟩
                  have sB := same_new (o := .tup [V.str z, .ref t1]) n2
                  have tZ : Tp (upd (upd H25 t1 (.tup (S2.map V.int))) t2 (.tup [V.str z, .ref t1])) (dZone (z, S2)) (.ref t2) := tp_tup upd_same (ta_cons tp_str (ta_cons (tp_tup (sB _ _ hA) (ta_ints S2)) ta_nil))
                  have s26 := sA.trans sB
                  generalize upd (upd H25 t1 (.tup (S2.map V.int))) t2 (.tup [V.str z, .ref t1]) = H26 at s26 tZ ⊢
                  have za26 := s26 _ _ za25
                  refine ⟨za, _, _, rfl, rfl, za26, small_len rz25 (by rw [List.length_map]; omega), ?_⟩
                  have tsZ : TS H26 (upd H26 za (.lst (zv ++ [.ref t2]))) := ts_lst za26
                  refine ⟨D3, _, Z ++ [(z, S2)], _, _, _, _, _, _, _, _, _, _, _, rfl, ex_mut (ex25.trans (ex_of s26)) nzaH, (b25.keep s26).mut hpza, (upd_ne zala.symm).trans (s26 _ _ la25), (rx25.mono (ts_of s26)).mono tsZ, (upd_ne nazaH).trans (s26 _ _ na25), (upd_ne D3za).trans (s26 _ _ hD3), D3za, D3p, upd_same, ?_, Tk2, ?_, ?_, ?_, ?_, ?_⟩
                  · rw [List.map_append]
                    exact ((rz25.mono (ts_of s26)).mono tsZ).snoc (tZ.mono tsZ)
                  · rw [List.map_append, take_snoc ez]
                    exact zsub.append (List.Sublist.refl _)
                  · intro y hy
                    rcases List.mem_append.mp hy with hy | hy
                    · exact zad y hy
                    · rw [List.mem_singleton.mp hy]
                      exact ⟨fun e => by have e : S2 = [] := e; rw [e] at hS; exact absurd hS (by decide), S2l, S2p, fun a ha => Tbd a (Tks.subset (S2s a ha))⟩
                  · intro y hy
                    rcases List.mem_append.mp hy with hy | hy
                    · exact ztl y hy
                    · rw [List.mem_singleton.mp hy]
                      exact fun a ha => Tks.subset (S2s a ha)
                  · rw [List.flatMap_append, List.flatMap_cons, List.flatMap_nil, List.append_nil, List.nodup_append]
                    exact ⟨znd, S2n, fun a ha b hb e => zdis a ha (e ▸ S2s b hb)⟩
                  · intro a ha
                    rw [List.flatMap_append, List.flatMap_cons, List.flatMap_nil, List.append_nil] at ha
                    rw [List.mem_filter]
                    rcases List.mem_append.mp ha with ha | ha
                    · exact fun h => zdis a ha h.1
                    · exact fun h => (of_decide_eq_true h.2) ha
                · rw [decide_eq_false hS]
                  refine iteF ?_
                  refine ⟨D3, _, Z, _, _, _, _, _, _, _, _, _, _, _, rfl, ex25, b25, la25, rx25, na25, hD3, D3za, D3p, za25, rz25, Tk2, ?_, zad, ztl, znd, fun a ha h => zdis a ha (List.mem_filter.mp h).1⟩
                  rw [take_snoc ez]
                  exact zsub.trans (List.sublist_append_left _ _)
          · rintro σ H22 ⟨tk, Tk, Z, zv, y10, y13, y14, y15, y16, y19, y20, y21, y22, y23, rfl, ex22, b22, la22, rx22, hna22, tk22, tkza, tkp, za22, rz22, Tks, zsub, zad, ztl, znd, zdis⟩
            rw [List.length_map, List.take_length] at zsub
            rw [List.length_map] at b22
            refine ⟨_, rfl, _, rfl, p, 3, _, rfl, b22, by omega, ⟨by decide, by decide⟩, fun H23 d23 e23 b23 d230 d231 => ?_⟩
            have t23 := b22.ts e23
            have la23 := e23 _ _ hpla.symm la22
            have za23 := e23 _ _ hpza.symm za22
            refine ⟨_, _, rfl, rfl, 30, _, rfl, _, rfl, la, _, rfl, .inl ⟨SqL.of la23, fun t1 n1 => ?_⟩⟩
            have sA := same_new (o := .tup xs) n1
            refine ⟨_, rfl, za, _, rfl, .inl ⟨SqL.of (sA _ _ za23), fun t2 n2 => ?_⟩⟩
            have sB := same_new (o := .tup zv) n2
            refine ⟨le_line (by show 3 ≤ 1000; decide), fun t3 n3 => ?_⟩
            refine q _ _ ⟨if m + d23 < 30 then m + d23 else 30, Ls, Z⟩ (((ex22.trans e23).trans (ex_of (sA.trans sB))).trans (ex_of (same_new n3))) ?_ ?_
            · refine plan_ok (by split <;> omega) ⟨by omega, lL3⟩ lens okLs ⟨pos, by omega⟩ adnd (fun L hL c hc => ?_) ?_ (fun y hy => oz y.1 (zsub.subset (List.mem_map_of_mem hy))) (zsub.nodup nz) zad ztl znd
              · have h1 := hm1 L hL c hc
                split <;> omega
              · have h1 := zsub.length_le
                rw [List.length_map] at h1
                omega
            · have sC := same_new (o := .tup [V.int (if m + d23 < 30 then m + d23 else 30), .ref t1, .ref t2]) n3
              have s2 := sA.trans (sB.trans sC)
              exact tp_tup upd_same (ta_cons tp_int (ta_cons (tp_tup (sC _ _ (sB _ _ upd_same)) ((rx22.mono t23).mono (ts_of s2))) (ta_cons (tp_tup (sC _ _ upd_same) ((rz22.mono t23).mono (ts_of s2))) ta_nil)))
abbrev C_law_plan (P : Program) (w : World) (K : PySem.W.Frag) (mg : Str → Option Value) (base : Heap) := Cal P w K mg base 4 "_law_plan" ["_law_bag_here", "_law_most_loops", "_law_most_places"] sp_law_plan
end
end K12
/-! K11: what is come to, by members; a single fault. No program in sight. -/
namespace K12
open PySem PySem.Spec PyProof.Rows L2
theorem spurGo_mem (F : Hows) (l p : Int) (s : Spot) : ∀ (r w : Nat), s ∈ spurGo F l p r w ↔ ∃ k : Nat, k < r ∧ s = (l, p, (w : Int) + k) ∧ ∀ i : Nat, i ≤ k → hv F (l, p, (w : Int) + i) ≠ "cut"
  | 0, w => by
    constructor
    · intro h; cases h
    · rintro ⟨k, hk, _⟩; omega
  | r + 1, w => by
    rw [spurGo_succ]
    by_cases hc : hv F (l, p, (w : Int)) = "cut"
    · rw [if_pos hc]
      constructor
      · intro h; cases h
      · rintro ⟨k, _, _, h⟩
        exact absurd (by rw [Int.natCast_zero, Int.add_zero]; exact hc) (h 0 (Nat.zero_le _))
    · rw [if_neg hc, List.mem_cons, spurGo_mem F l p s r (w + 1)]
      constructor
      · rintro (rfl | ⟨k, hk, rfl, h⟩)
        · refine ⟨0, by omega, by rw [Int.natCast_zero, Int.add_zero], fun i hi => ?_⟩
          obtain rfl : i = 0 := by omega
          rw [Int.natCast_zero, Int.add_zero]
          exact hc
        · refine ⟨k + 1, by omega, by rw [show (w : Int) + ((k + 1 : Nat) : Int) = ((w + 1 : Nat) : Int) + k by omega], fun i hi => ?_⟩
          cases i with
          | zero => rw [Int.natCast_zero, Int.add_zero]; exact hc
          | succ i =>
            have := h i (by omega)
            rw [show (w : Int) + ((i + 1 : Nat) : Int) = ((w + 1 : Nat) : Int) + i by omega]
            exact this
      · rintro ⟨k, hk, rfl, h⟩
        cases k with
        | zero => exact .inl (by rw [Int.natCast_zero, Int.add_zero])
        | succ k =>
          refine .inr ⟨k, by omega, by rw [show (w : Int) + ((k + 1 : Nat) : Int) = ((w + 1 : Nat) : Int) + k by omega], fun i hi => ?_⟩
          have := h (i + 1) (by omega)
          rw [show (w : Int) + ((i + 1 : Nat) : Int) = ((w + 1 : Nat) : Int) + i by omega] at this
          exact this
/-- the j-th place come to, and the stretch ahead of it -/
def qAt (p st : Int) (j : Nat) : Int := p + st * ((j : Int) + 1)
def cAt (p st : Int) (j : Nat) : Int := mn (p + st * (j : Int)) (p + st * ((j : Int) + 1))
/-- the way to the j-th place is free -/
def Way (F : Hows) (G : Stops) (l : Int) (L : List Pl) (st p : Int) (j : Nat) : Prop := (∀ i : Nat, i ≤ j → hv F (l, cAt p st i, 0) ≠ "cut") ∧ ∀ i : Nat, i < j → (1 ≤ qAt p st i ∧ qAt p st i ≤ (L.length : Int)) ∧ (l, qAt p st i) ∉ G
theorem qAt_succ (p st : Int) (j : Nat) : qAt (p + st) st j = qAt p st (j + 1) := by
  unfold qAt
  rw [show (((j + 1 : Nat) : Int) + 1) = ((j : Int) + 1) + 1 by omega, Int.mul_add st ((j : Int) + 1) 1, Int.mul_one]
  omega
theorem cAt_succ (p st : Int) (j : Nat) : cAt (p + st) st j = cAt p st (j + 1) := by
  have := qAt_succ p st j
  unfold qAt at this
  unfold cAt
  rw [this]
  have e : p + st + st * (j : Int) = p + st * ((j + 1 : Nat) : Int) := by
    rw [show ((j + 1 : Nat) : Int) = (j : Int) + 1 by omega, Int.mul_add, Int.mul_one]
    omega
  rw [e]
theorem qAt_zero (p st : Int) : qAt p st 0 = p + st := by
  unfold qAt
  rw [Int.natCast_zero, Int.zero_add, Int.mul_one]
theorem cAt_zero (p st : Int) : cAt p st 0 = mn p (p + st) := by
  unfold cAt
  rw [Int.natCast_zero, Int.zero_add, Int.mul_one, Int.mul_zero, Int.add_zero]
theorem way_succ {F : Hows} {G : Stops} {l : Int} {L : List Pl} {st p : Int} {j : Nat} : Way F G l L st p (j + 1) ↔ hv F (l, mn p (p + st), 0) ≠ "cut" ∧ ((1 ≤ p + st ∧ p + st ≤ (L.length : Int)) ∧ (l, p + st) ∉ G) ∧ Way F G l L st (p + st) j := by
  unfold Way
  constructor
  · rintro ⟨h1, h2⟩
    refine ⟨by rw [← cAt_zero]; exact h1 0 (Nat.zero_le _), by rw [← qAt_zero]; exact h2 0 (Nat.succ_pos _), fun i hi => ?_, fun i hi => ?_⟩
    · rw [cAt_succ]
      exact h1 (i + 1) (by omega)
    · rw [qAt_succ]
      exact h2 (i + 1) (by omega)
  · rintro ⟨a, b, h1, h2⟩
    refine ⟨fun i hi => ?_, fun i hi => ?_⟩
    · cases i with
      | zero => rw [cAt_zero]; exact a
      | succ i => rw [← cAt_succ]; exact h1 i (by omega)
    · cases i with
      | zero => rw [qAt_zero]; exact b
      | succ i => rw [← qAt_succ]; exact h2 i (by omega)
theorem way_zero {F : Hows} {G : Stops} {l : Int} {L : List Pl} {st p : Int} : Way F G l L st p 0 ↔ hv F (l, mn p (p + st), 0) ≠ "cut" := by
  unfold Way
  constructor
  · rintro ⟨h1, _⟩
    rw [← cAt_zero]
    exact h1 0 (Nat.le_refl _)
  · intro h
    refine ⟨fun i hi => ?_, fun i hi => by omega⟩
    obtain rfl : i = 0 := by omega
    rw [cAt_zero]
    exact h
/-- at the j-th place -/
def OnPl (F : Hows) (l : Int) (L : List Pl) (q : Int) (s : Spot) : Prop := (1 ≤ q ∧ q ≤ (L.length : Int)) ∧ s ∈ spurGo F l q (spl L q) 1
theorem goes_mem (F : Hows) (G : Stops) (l : Int) (L : List Pl) (st : Int) (s : Spot) : ∀ (m : Nat) (p : Int),
    (s ∈ (goes F G l L st m p).1 ↔ ∃ j : Nat, j < m ∧ Way F G l L st p j ∧ (s = (l, cAt p st j, 0) ∨ OnPl F l L (qAt p st j) s)) ∧
    (s ∈ (goes F G l L st m p).2 ↔ ∃ j : Nat, j < m ∧ Way F G l L st p j ∧ ((1 ≤ qAt p st j ∧ qAt p st j ≤ (L.length : Int)) ∧ s = (l, qAt p st j, 0) ∨ OnPl F l L (qAt p st j) s))
  | 0, p => by
    constructor <;> constructor
    · intro h; cases h
    · rintro ⟨j, h, _⟩; omega
    · intro h; cases h
    · rintro ⟨j, h, _⟩; omega
  | m + 1, p => by
    unfold goes
    by_cases hc : hv F (l, mn p (p + st), 0) = "cut"
    · rw [if_pos hc]
      have no : ∀ j, ¬ Way F G l L st p j := fun j w => absurd hc (by rw [← cAt_zero]; exact w.1 0 (Nat.zero_le _))
      constructor <;> constructor
      · intro h; cases h
      · rintro ⟨j, _, w, _⟩; exact absurd w (no j)
      · intro h; cases h
      · rintro ⟨j, _, w, _⟩; exact absurd w (no j)
    · rw [if_neg hc]
      by_cases hr : p + st < 1 ∨ p + st > (L.length : Int)
      · rw [if_pos hr]
        have nr : ¬ (1 ≤ p + st ∧ p + st ≤ (L.length : Int)) := by omega
        have no : ∀ j, ¬ Way F G l L st p (j + 1) := fun j w => nr (way_succ.mp w).2.1.1
        constructor <;> constructor
        · intro h
          obtain rfl := List.mem_singleton.mp h
          exact ⟨0, Nat.succ_pos _, way_zero.mpr hc, .inl (by rw [cAt_zero])⟩
        · rintro ⟨j, _, w, h⟩
          cases j with
          | succ j => exact absurd w (no j)
          | zero =>
            rcases h with rfl | ⟨h, _⟩
            · rw [cAt_zero]; exact List.mem_singleton.mpr rfl
            · rw [qAt_zero] at h; exact absurd h nr
        · intro h; cases h
        · rintro ⟨j, _, w, h⟩
          cases j with
          | succ j => exact absurd w (no j)
          | zero =>
            rw [qAt_zero] at h
            rcases h with ⟨h, _⟩ | ⟨h, _⟩
            · exact absurd h nr
            · exact absurd h nr
      · rw [if_neg hr]
        have yr : 1 ≤ p + st ∧ p + st ≤ (L.length : Int) := by omega
        by_cases hG : (l, p + st) ∈ G
        · rw [if_pos hG]
          have no : ∀ j, ¬ Way F G l L st p (j + 1) := fun j w => (way_succ.mp w).2.1.2 hG
          constructor <;> constructor
          · intro h
            refine ⟨0, Nat.succ_pos _, way_zero.mpr hc, ?_⟩
            rw [cAt_zero, qAt_zero]
            rcases List.mem_cons.mp h with h | h
            · exact .inl h
            · exact .inr ⟨yr, h⟩
          · rintro ⟨j, _, w, h⟩
            cases j with
            | succ j => exact absurd w (no j)
            | zero =>
              rw [cAt_zero, qAt_zero] at h
              rcases h with h | h
              · exact List.mem_cons.mpr (.inl h)
              · exact List.mem_cons.mpr (.inr h.2)
          · intro h
            refine ⟨0, Nat.succ_pos _, way_zero.mpr hc, ?_⟩
            rw [qAt_zero]
            rcases List.mem_cons.mp h with h | h
            · exact .inl ⟨yr, h⟩
            · exact .inr ⟨yr, h⟩
          · rintro ⟨j, _, w, h⟩
            cases j with
            | succ j => exact absurd w (no j)
            | zero =>
              rw [qAt_zero] at h
              rcases h with h | h
              · exact List.mem_cons.mpr (.inl h.2)
              · exact List.mem_cons.mpr (.inr h.2)
        · rw [if_neg hG]
          obtain ⟨ih1, ih2⟩ := goes_mem F G l L st s m (p + st)
          have sh : ∀ R : Nat → Prop, (∃ j, j < m + 1 ∧ Way F G l L st p j ∧ R j) ↔ R 0 ∨ ∃ j, j < m ∧ Way F G l L st (p + st) j ∧ R (j + 1) := fun R => by
            constructor
            · rintro ⟨j, hj, w, r⟩
              cases j with
              | zero => exact .inl r
              | succ j => exact .inr ⟨j, by omega, (way_succ.mp w).2.2, r⟩
            · rintro (r | ⟨j, hj, w, r⟩)
              · exact ⟨0, Nat.succ_pos _, way_zero.mpr hc, r⟩
              · exact ⟨j + 1, by omega, way_succ.mpr ⟨hc, ⟨yr, hG⟩, w⟩, r⟩
          constructor
          · rw [sh, List.mem_cons, List.mem_append, ih1, cAt_zero, qAt_zero]
            constructor
            · rintro (h | h | ⟨j, hj, w, h⟩)
              · exact .inl (.inl h)
              · exact .inl (.inr ⟨yr, h⟩)
              · rw [cAt_succ, qAt_succ] at h
                exact .inr ⟨j, hj, w, h⟩
            · rintro ((h | h) | ⟨j, hj, w, h⟩)
              · exact .inl h
              · exact .inr (.inl h.2)
              · refine .inr (.inr ⟨j, hj, w, ?_⟩)
                rw [cAt_succ, qAt_succ]
                exact h
          · rw [sh, List.mem_append, List.mem_cons, ih2, qAt_zero]
            constructor
            · rintro ((h | h) | ⟨j, hj, w, h⟩)
              · exact .inl (.inl ⟨yr, h⟩)
              · exact .inl (.inr ⟨yr, h⟩)
              · rw [qAt_succ] at h
                exact .inr ⟨j, hj, w, h⟩
            · rintro ((h | h) | ⟨j, hj, w, h⟩)
              · exact .inl (.inl h.2)
              · exact .inl (.inr h.2)
              · refine .inr ⟨j, hj, w, ?_⟩
                rw [qAt_succ]
                exact h
/-! ### forth and back -/
def Unc (F : Hows) (l lo hi : Int) : Prop := ∀ c : Int, lo ≤ c → c < hi → hv F (l, c, 0) ≠ "cut"
def Fre (G : Stops) (l lo hi : Int) : Prop := ∀ q : Int, lo < q → q < hi → (l, q) ∉ G
theorem qF (p : Int) (j : Nat) : qAt p 1 j = p + j + 1 := by unfold qAt; omega
theorem cF (p : Int) (j : Nat) : cAt p 1 j = p + j := by unfold cAt mn; rw [if_neg (by omega)]; omega
theorem qB (p : Int) (j : Nat) : qAt p (-1) j = p - j - 1 := by unfold qAt; omega
theorem cB (p : Int) (j : Nat) : cAt p (-1) j = p - j - 1 := by unfold cAt mn; rw [if_pos (by omega)]; omega
section
variable {F : Hows} {G : Stops} {l : Int} {L : List Pl} {p : Int} {s : Spot}
theorem wayF {j : Nat} (p0 : 0 ≤ p) (h : p + j + 1 ≤ (L.length : Int) + 1) : Way F G l L 1 p j ↔ Unc F l p (p + j + 1) ∧ Fre G l p (p + j + 1) := by
  unfold Way Unc Fre
  constructor
  · rintro ⟨h1, h2⟩
    refine ⟨fun c c1 c2 => ?_, fun q q1 q2 => ?_⟩
    · have := h1 (c - p).toNat (by omega)
      rw [cF, show p + ((c - p).toNat : Int) = c by omega] at this
      exact this
    · have := (h2 (q - p - 1).toNat (by omega)).2
      rw [qF, show p + ((q - p - 1).toNat : Int) + 1 = q by omega] at this
      exact this
  · rintro ⟨h1, h2⟩
    refine ⟨fun i hi => ?_, fun i hi => ?_⟩
    · rw [cF]; exact h1 _ (by omega) (by omega)
    · rw [qF]; exact ⟨by omega, h2 _ (by omega) (by omega)⟩
theorem wayB {j : Nat} (p0 : p ≤ (L.length : Int) + 1) (h : 0 ≤ p - j - 1) : Way F G l L (-1) p j ↔ Unc F l (p - j - 1) p ∧ Fre G l (p - j - 1) p := by
  unfold Way Unc Fre
  constructor
  · rintro ⟨h1, h2⟩
    refine ⟨fun c c1 c2 => ?_, fun q q1 q2 => ?_⟩
    · have := h1 (p - c - 1).toNat (by omega)
      rw [cB, show p - ((p - c - 1).toNat : Int) - 1 = c by omega] at this
      exact this
    · have := (h2 (p - q - 1).toNat (by omega)).2
      rw [qB, show p - ((p - q - 1).toNat : Int) - 1 = q by omega] at this
      exact this
  · rintro ⟨h1, h2⟩
    refine ⟨fun i hi => ?_, fun i hi => ?_⟩
    · rw [cB]; exact h1 _ (by omega) (by omega)
    · rw [qB]; exact ⟨by omega, h2 _ (by omega) (by omega)⟩
theorem wayF_in {j : Nat} (p1 : p ≤ (L.length : Int)) (h : Way F G l L 1 p j) : p + j + 1 ≤ (L.length : Int) + 1 := by
  cases j with
  | zero => omega
  | succ j =>
    have := (h.2 j (Nat.lt_succ_self _)).1.2
    rw [qF] at this
    omega
theorem wayB_in {j : Nat} (p1 : 1 ≤ p) (h : Way F G l L (-1) p j) : 0 ≤ p - j - 1 := by
  cases j with
  | zero => omega
  | succ j =>
    have := (h.2 j (Nat.lt_succ_self _)).1.1
    rw [qB] at this
    omega
theorem fwd1 (p0 : 0 ≤ p) (p1 : p ≤ (L.length : Int)) : s ∈ (comeTo F G l L p 1).1 ↔ ∃ a : Int, (p < a ∧ a ≤ (L.length : Int) + 1) ∧ Unc F l p a ∧ Fre G l p a ∧ (s = (l, a - 1, 0) ∨ a ≤ (L.length : Int) ∧ s ∈ spurGo F l a (spl L a) 1) := by
  unfold comeTo
  rw [(goes_mem F G l L 1 s _ p).1]
  constructor
  · rintro ⟨j, hj, w, h⟩
    have hi := wayF_in p1 w
    obtain ⟨u, f⟩ := (wayF p0 hi).mp w
    refine ⟨p + j + 1, ⟨by omega, hi⟩, u, f, ?_⟩
    rw [cF, qF] at h
    rcases h with h | ⟨h1, h2⟩
    · exact .inl (by rw [h, show p + j + 1 - 1 = p + (j : Int) by omega])
    · exact .inr ⟨h1.2, h2⟩
  · rintro ⟨a, ⟨a1, a2⟩, u, f, h⟩
    have e : p + ((a - p - 1).toNat : Int) + 1 = a := by omega
    refine ⟨(a - p - 1).toNat, by omega, (wayF p0 (by omega)).mpr (by rw [e]; exact ⟨u, f⟩), ?_⟩
    unfold OnPl
    rw [cF, qF, e]
    rcases h with h | ⟨h1, h2⟩
    · exact .inl (by rw [h, show a - 1 = p + ((a - p - 1).toNat : Int) by omega])
    · exact .inr ⟨⟨by omega, h1⟩, h2⟩
theorem fwd2 (p0 : 0 ≤ p) (p1 : p ≤ (L.length : Int)) : s ∈ (comeTo F G l L p 1).2 ↔ ∃ a : Int, (p < a ∧ a ≤ (L.length : Int)) ∧ Unc F l p a ∧ Fre G l p a ∧ (s = (l, a, 0) ∨ s ∈ spurGo F l a (spl L a) 1) := by
  unfold comeTo
  rw [(goes_mem F G l L 1 s _ p).2]
  constructor
  · rintro ⟨j, hj, w, h⟩
    have hi := wayF_in p1 w
    obtain ⟨u, f⟩ := (wayF p0 hi).mp w
    unfold OnPl at h
    rw [qF] at h
    rcases h with ⟨h1, h2⟩ | ⟨h1, h2⟩
    · exact ⟨p + j + 1, ⟨by omega, h1.2⟩, u, f, .inl h2⟩
    · exact ⟨p + j + 1, ⟨by omega, h1.2⟩, u, f, .inr h2⟩
  · rintro ⟨a, ⟨a1, a2⟩, u, f, h⟩
    have e : p + ((a - p - 1).toNat : Int) + 1 = a := by omega
    refine ⟨(a - p - 1).toNat, by omega, (wayF p0 (by omega)).mpr (by rw [e]; exact ⟨u, f⟩), ?_⟩
    unfold OnPl
    rw [qF, e]
    rcases h with h | h
    · exact .inl ⟨⟨by omega, a2⟩, h⟩
    · exact .inr ⟨⟨by omega, a2⟩, h⟩
theorem bwd1 (p0 : 1 ≤ p) (p1 : p ≤ (L.length : Int) + 1) : s ∈ (comeTo F G l L p (-1)).1 ↔ ∃ a : Int, (0 ≤ a ∧ a < p) ∧ Unc F l a p ∧ Fre G l a p ∧ (s = (l, a, 0) ∨ 1 ≤ a ∧ s ∈ spurGo F l a (spl L a) 1) := by
  unfold comeTo
  rw [(goes_mem F G l L (-1) s _ p).1]
  constructor
  · rintro ⟨j, hj, w, h⟩
    have hi := wayB_in p0 w
    obtain ⟨u, f⟩ := (wayB p1 hi).mp w
    refine ⟨p - j - 1, ⟨hi, by omega⟩, u, f, ?_⟩
    rw [cB, qB] at h
    rcases h with h | ⟨h1, h2⟩
    · exact .inl h
    · exact .inr ⟨h1.1, h2⟩
  · rintro ⟨a, ⟨a1, a2⟩, u, f, h⟩
    have e : p - ((p - a - 1).toNat : Int) - 1 = a := by omega
    refine ⟨(p - a - 1).toNat, by omega, (wayB p1 (by omega)).mpr (by rw [e]; exact ⟨u, f⟩), ?_⟩
    unfold OnPl
    rw [cB, qB, e]
    rcases h with h | ⟨h1, h2⟩
    · exact .inl h
    · exact .inr ⟨⟨h1, by omega⟩, h2⟩
theorem bwd2 (p0 : 1 ≤ p) (p1 : p ≤ (L.length : Int) + 1) : s ∈ (comeTo F G l L p (-1)).2 ↔ ∃ a : Int, (1 ≤ a ∧ a < p) ∧ Unc F l a p ∧ Fre G l a p ∧ (s = (l, a, 0) ∨ s ∈ spurGo F l a (spl L a) 1) := by
  unfold comeTo
  rw [(goes_mem F G l L (-1) s _ p).2]
  constructor
  · rintro ⟨j, hj, w, h⟩
    have hi := wayB_in p0 w
    obtain ⟨u, f⟩ := (wayB p1 hi).mp w
    unfold OnPl at h
    rw [qB] at h
    rcases h with ⟨h1, h2⟩ | ⟨h1, h2⟩
    · exact ⟨p - j - 1, ⟨h1.1, by omega⟩, u, f, .inl h2⟩
    · exact ⟨p - j - 1, ⟨h1.1, by omega⟩, u, f, .inr h2⟩
  · rintro ⟨a, ⟨a1, a2⟩, u, f, h⟩
    have e : p - ((p - a - 1).toNat : Int) - 1 = a := by omega
    refine ⟨(p - a - 1).toNat, by omega, (wayB p1 (by omega)).mpr (by rw [e]; exact ⟨u, f⟩), ?_⟩
    unfold OnPl
    rw [qB, e]
    rcases h with h | h
    · exact .inl ⟨⟨a1, by omega⟩, h⟩
    · exact .inr ⟨⟨a1, by omega⟩, h⟩
theorem heard_A : heardM F G l L "A" = if (l, (0 : Int)) ∈ G then [] else if (comeTo F G l L 0 1).1.any (isShort F) then [] else (comeTo F G l L 0 1).2 := by
  unfold heardM
  rw [if_neg (show ¬ ("A" : Str) = "B" by decide +kernel), if_neg (show ¬ ("A" : Str) = "B" by decide +kernel)]
theorem heard_B : heardM F G l L "B" = if (l, (L.length : Int) + 1) ∈ G then [] else if (comeTo F G l L ((L.length : Int) + 1) (-1)).1.any (isShort F) then [] else (comeTo F G l L ((L.length : Int) + 1) (-1)).2 := by
  unfold heardM
  rw [if_pos rfl, if_pos rfl]
theorem in_spur {a w : Int} : (l, a, w) ∈ spurGo F l a (spl L a) 1 ↔ (1 ≤ w ∧ w ≤ (spl L a : Int)) ∧ ∀ i : Int, 1 ≤ i → i ≤ w → hv F (l, a, i) ≠ "cut" := by
  rw [spurGo_mem]
  constructor
  · rintro ⟨k, hk, e, h⟩
    have e1 : w = 1 + (k : Int) := (Prod.ext_iff.mp (Prod.ext_iff.mp e).2).2
    subst e1
    refine ⟨by omega, fun i h1 h2 => ?_⟩
    have := h (i - 1).toNat (by omega)
    rw [show ((1 : Nat) : Int) + ((i - 1).toNat : Int) = i by omega] at this
    exact this
  · rintro ⟨⟨h1, h2⟩, h⟩
    refine ⟨(w - 1).toNat, by omega, by rw [show ((1 : Nat) : Int) + ((w - 1).toNat : Int) = w by omega], fun i hi => h _ (by omega) (by omega)⟩
theorem spur_in {s : Spot} {a : Int} (h : s ∈ spurGo F l a (spl L a) 1) : ∃ w : Int, s = (l, a, w) := by
  rw [spurGo_mem] at h
  obtain ⟨k, _, e, _⟩ := h
  exact ⟨_, e⟩
end
/-! ### one fault -/
theorem hv_one (s : Spot) (x : Str) (t : Spot) : hv [(s, x)] t = if s = t then x else "" := by
  unfold hv flook flook
  by_cases e : s = t
  · rw [if_pos e, if_pos e]; rfl
  · rw [if_neg e, if_neg e]; rfl
theorem s1 : ¬ ("" : Str) = "cut" := by decide +kernel
theorem s2 : ¬ ("" : Str) = "short" := by decide +kernel
theorem s3 : ¬ ("short" : Str) = "cut" := by decide +kernel
theorem s4 : ¬ ("cut" : Str) = "short" := by decide +kernel
theorem hv_short_nc (s t : Spot) : hv [(s, "short")] t ≠ "cut" := by
  rw [hv_one]
  split
  · exact s3
  · exact s1
theorem short_is (s t : Spot) : isShort [(s, "short")] t = true ↔ t = s := by
  unfold isShort
  rw [decide_eq_true_iff, hv_one]
  by_cases e : s = t
  · rw [if_pos e]; exact ⟨fun _ => e.symm, fun _ => rfl⟩
  · rw [if_neg e]; exact ⟨fun z => absurd z s2, fun z => absurd z.symm e⟩
theorem cut_not (s t : Spot) : isShort [(s, "cut")] t = false := by
  unfold isShort
  rw [decide_eq_false_iff_not, hv_one]
  split
  · exact s4
  · exact s2
theorem nil_not (t : Spot) : isShort [] t = false := by
  unfold isShort
  exact decide_eq_false s2
theorem any_false {α : Type} {f : α → Bool} (h : ∀ t, f t = false) (l : List α) : l.any f = false := by
  rw [List.any_eq_false]
  intro x _
  rw [h x]
  decide
theorem any_short {s : Spot} {l : List Spot} : l.any (isShort [(s, "short")]) = true ↔ s ∈ l := by
  rw [List.any_eq_true]
  constructor
  · rintro ⟨t, ht, e⟩
    exact (short_is s t).mp e ▸ ht
  · intro h
    exact ⟨s, h, (short_is s s).mpr rfl⟩
theorem passed_loop {F : Hows} {G : Stops} {l : Int} {L : List Pl} {p st : Int} {s : Spot} (h : s ∈ (comeTo F G l L p st).1) : s.1 = l := by
  unfold comeTo at h
  obtain ⟨j, _, _, h⟩ := ((goes_mem F G l L st s _ p).1).mp h
  rcases h with rfl | ⟨_, h⟩
  · rfl
  · obtain ⟨w, rfl⟩ := spur_in h
    rfl
theorem spots_loop {F : Hows} {G : Stops} {l : Int} {L : List Pl} {e : Str} {s : Spot} (h : s ∈ heardM F G l L e) : s.1 = l := by
  have key : ∀ p st : Int, s ∈ (if (l, p) ∈ G then [] else if (comeTo F G l L p st).1.any (isShort F) then [] else (comeTo F G l L p st).2) → s.1 = l := by
    intro p st h
    split at h
    · cases h
    · split at h
      · cases h
      · unfold comeTo at h
        obtain ⟨j, _, _, h⟩ := ((goes_mem F G l L st s (L.length + 1) p).2).mp h
        rcases h with ⟨_, rfl⟩ | ⟨_, h⟩
        · rfl
        · obtain ⟨w, rfl⟩ := spur_in h
          rfl
  exact key _ _ h
section
variable {F : Hows} {G : Stops} {l : Int} {L : List Pl}
/-- what is heard from A when no short is passed, by place -/
theorem in_A {a w : Int} (hG : (l, (0 : Int)) ∉ G) (hs : (comeTo F G l L 0 1).1.any (isShort F) = false) (h1 : 1 ≤ a) (h2 : a ≤ (L.length : Int)) (hu : Unc F l 0 a) (hf : Fre G l 0 a) (w0 : 0 ≤ w) (w1 : w ≤ (spl L a : Int)) (hw : ∀ i : Int, 1 ≤ i → i ≤ w → hv F (l, a, i) ≠ "cut") : (l, a, w) ∈ heardM F G l L "A" := by
  rw [heard_A, if_neg hG, hs, if_neg Bool.false_ne_true, fwd2 (Int.le_refl _) (by omega)]
  refine ⟨a, ⟨by omega, h2⟩, hu, hf, ?_⟩
  by_cases hw0 : w = 0
  · exact .inl (by rw [hw0])
  · exact .inr (in_spur.mpr ⟨⟨by omega, w1⟩, hw⟩)
theorem in_B {a w : Int} (hG : (l, (L.length : Int) + 1) ∉ G) (hs : (comeTo F G l L ((L.length : Int) + 1) (-1)).1.any (isShort F) = false) (h1 : 1 ≤ a) (h2 : a ≤ (L.length : Int)) (hu : Unc F l a ((L.length : Int) + 1)) (hf : Fre G l a ((L.length : Int) + 1)) (w0 : 0 ≤ w) (w1 : w ≤ (spl L a : Int)) (hw : ∀ i : Int, 1 ≤ i → i ≤ w → hv F (l, a, i) ≠ "cut") : (l, a, w) ∈ heardM F G l L "B" := by
  rw [heard_B, if_neg hG, hs, if_neg Bool.false_ne_true, bwd2 (by omega) (Int.le_refl _)]
  refine ⟨a, ⟨h1, by omega⟩, hu, hf, ?_⟩
  by_cases hw0 : w = 0
  · exact .inl (by rw [hw0])
  · exact .inr (in_spur.mpr ⟨⟨by omega, w1⟩, hw⟩)
theorem of_A {a w : Int} (h : (l, a, w) ∈ heardM F G l L "A") : (l, (0 : Int)) ∉ G ∧ Unc F l 0 a ∧ Fre G l 0 a ∧ (0 < w → ∀ i : Int, 1 ≤ i → i ≤ w → hv F (l, a, i) ≠ "cut") := by
  rw [heard_A] at h
  split at h
  · cases h
  · rename_i hG
    split at h
    · cases h
    · rw [fwd2 (Int.le_refl _) (by omega)] at h
      obtain ⟨b, _, u, f, h⟩ := h
      rcases h with h | h
      · have e := (Prod.ext_iff.mp (Prod.ext_iff.mp h).2)
        obtain ⟨e1, e2⟩ := e
        dsimp only at e1 e2
        subst e1 e2
        exact ⟨hG, u, f, fun z => absurd z (by omega)⟩
      · obtain ⟨w2, e⟩ := spur_in h
        have e1 := (Prod.ext_iff.mp (Prod.ext_iff.mp e).2).1
        dsimp only at e1
        subst e1
        exact ⟨hG, u, f, fun _ => (in_spur.mp h).2⟩
theorem of_B {a w : Int} (h : (l, a, w) ∈ heardM F G l L "B") : (l, (L.length : Int) + 1) ∉ G ∧ Unc F l a ((L.length : Int) + 1) ∧ Fre G l a ((L.length : Int) + 1) ∧ (0 < w → ∀ i : Int, 1 ≤ i → i ≤ w → hv F (l, a, i) ≠ "cut") := by
  rw [heard_B] at h
  split at h
  · cases h
  · rename_i hG
    split at h
    · cases h
    · rw [bwd2 (by omega) (Int.le_refl _)] at h
      obtain ⟨b, _, u, f, h⟩ := h
      rcases h with h | h
      · have e := (Prod.ext_iff.mp (Prod.ext_iff.mp h).2)
        obtain ⟨e1, e2⟩ := e
        dsimp only at e1 e2
        subst e1 e2
        exact ⟨hG, u, f, fun z => absurd z (by omega)⟩
      · obtain ⟨w2, e⟩ := spur_in h
        have e1 := (Prod.ext_iff.mp (Prod.ext_iff.mp e).2).1
        dsimp only at e1
        subst e1
        exact ⟨hG, u, f, fun _ => (in_spur.mp h).2⟩
/-- nothing is amiss in this loop -/
theorem heard_all {a w : Int} (hF : ∀ t : Spot, t.1 = l → hv F t = "") (hG : ∀ q, (l, q) ∉ G) (h1 : 1 ≤ a) (h2 : a ≤ (L.length : Int)) (w0 : 0 ≤ w) (w1 : w ≤ (spl L a : Int)) : (l, a, w) ∈ heardM F G l L "A" ∧ (l, a, w) ∈ heardM F G l L "B" := by
  have nc : ∀ t : Spot, t.1 = l → hv F t ≠ "cut" := fun t ht => by rw [hF t ht]; exact s1
  have ns : ∀ p st, (comeTo F G l L p st).1.any (isShort F) = false := fun p st => by
    rw [List.any_eq_false]
    intro t ht
    unfold isShort
    rw [hF t (passed_loop ht), decide_eq_true_iff]
    exact s2
  exact ⟨in_A (hG _) (ns _ _) h1 h2 (fun c _ _ => nc _ rfl) (fun q _ _ => hG q) w0 w1 (fun i _ _ => nc _ rfl),
    in_B (hG _) (ns _ _) h1 h2 (fun c _ _ => nc _ rfl) (fun q _ _ => hG q) w0 w1 (fun i _ _ => nc _ rfl)⟩
end
theorem other_loop {s : Spot} {x : Str} {l : Int} (h : s.1 ≠ l) : ∀ t : Spot, t.1 = l → hv [(s, x)] t = "" := fun t ht => by
  rw [hv_one, if_neg fun e : s = t => h (by rw [e]; exact ht)]
/-- a cut silences what is behind it on a spur, and nothing else -/
theorem cut_heard {l : Int} {L : List Pl} {at_ way a w : Int} (h1 : 1 ≤ a) (h2 : a ≤ (L.length : Int)) (w0 : 0 ≤ w) (w1 : w ≤ (spl L a : Int)) (y0 : 0 ≤ way) :
    ((l, a, w) ∈ heardM [((l, at_, way), "cut")] [] l L "A" ∨ (l, a, w) ∈ heardM [((l, at_, way), "cut")] [] l L "B") ↔ ¬ (0 < way ∧ a = at_ ∧ way ≤ w) := by
  have ns : ∀ p st, (comeTo [((l, at_, way), "cut")] [] l L p st).1.any (isShort [((l, at_, way), "cut")]) = false := fun p st => any_false (cut_not _) _
  have nc : ∀ b y : Int, (b, y) ≠ (at_, way) → hv [((l, at_, way), "cut")] (l, b, y) ≠ "cut" := fun b y n => by
    rw [hv_one, if_neg fun e => n ((Prod.ext_iff.mp e).2.symm)]
    exact s1
  have yc : hv [((l, at_, way), "cut")] (l, at_, way) = "cut" := by rw [hv_one, if_pos rfl]
  have nG : ∀ q : Int, (l, q) ∉ ([] : Stops) := fun q h => by cases h
  constructor
  · rintro h ⟨p1, rfl, p2⟩
    rcases h with h | h
    · exact (of_A h).2.2.2 (by omega) way (by omega) p2 yc
    · exact (of_B h).2.2.2 (by omega) way (by omega) p2 yc
  · intro h
    by_cases hw : way = 0
    · subst hw
      have hs : ∀ i : Int, 1 ≤ i → i ≤ w → hv [((l, at_, 0), "cut")] (l, a, i) ≠ "cut" := fun i i1 _ => nc a i fun e => by
        have := (Prod.ext_iff.mp e).2
        dsimp only at this
        omega
      by_cases ha : a ≤ at_
      · exact .inl (in_A (nG _) (ns _ _) h1 h2 (fun c c1 c2 => nc c 0 fun e => by
          have := (Prod.ext_iff.mp e).1
          dsimp only at this
          omega) (fun q _ _ => nG q) w0 w1 hs)
      · exact .inr (in_B (nG _) (ns _ _) h1 h2 (fun c c1 c2 => nc c 0 fun e => by
          have := (Prod.ext_iff.mp e).1
          dsimp only at this
          omega) (fun q _ _ => nG q) w0 w1 hs)
    · refine .inl (in_A (nG _) (ns _ _) h1 h2 (fun c c1 c2 => nc c 0 fun e => ?_) (fun q _ _ => nG q) w0 w1 fun i i1 i2 => nc a i fun e => ?_)
      · have := (Prod.ext_iff.mp e).2
        dsimp only at this
        omega
      · have e1 := (Prod.ext_iff.mp e).1
        have e2 := (Prod.ext_iff.mp e).2
        dsimp only at e1 e2
        exact h ⟨by omega, e1, by omega⟩
/-! ### a short -/
def isOp (L : List Pl) (q : Int) : Prop := q = 0 ∨ q = (L.length : Int) + 1 ∨ ∃ (j : Nat) (x : Pl), L[j]? = some x ∧ x.kind = opener ∧ q = (j : Int) + 1
theorem ops_isOp {Ls : List (List Pl)} {i : Nat} {L : List Pl} (e : Ls[i]? = some L) {q : Int} : ((i : Int), q) ∈ opsOf Ls ↔ isOp L q := by
  rw [opsOf_in]
  constructor
  · rintro ⟨i2, M, e2, h⟩
    have fst : ∀ {b : Int}, ((i : Int), q) = ((i2 : Int), b) → i2 = i ∧ q = b := fun z => by
      have e1 := (Prod.ext_iff.mp z).1
      have e3 := (Prod.ext_iff.mp z).2
      dsimp only at e1 e3
      exact ⟨by omega, e3⟩
    rcases h with h | h | ⟨j, x, ex, ek, h⟩
    · exact .inl (fst h).2
    · obtain ⟨rfl, h2⟩ := fst h
      rw [e] at e2
      cases e2
      exact .inr (.inl h2)
    · obtain ⟨rfl, h2⟩ := fst h
      rw [e] at e2
      cases e2
      exact .inr (.inr ⟨j, x, ex, ek, h2⟩)
  · intro h
    refine ⟨i, L, e, ?_⟩
    rcases h with rfl | rfl | ⟨j, x, ex, ek, rfl⟩
    · exact .inl rfl
    · exact .inr (.inl rfl)
    · exact .inr (.inr ⟨j, x, ex, ek, rfl⟩)
structure Gap (L : List Pl) (a0 b0 at_ way : Int) : Prop where
  h0 : 0 ≤ a0
  h1 : b0 ≤ (L.length : Int) + 1
  o0 : isOp L a0
  o1 : isOp L b0
  free : ∀ q, a0 < q → q < b0 → ¬ isOp L q
  at0 : a0 ≤ at_
  at1 : at_ < b0
  way0 : 0 ≤ way
  wayP : 0 < way → a0 < at_ ∧ way ≤ (spl L at_ : Int)
section
variable {G : Stops} {l : Int} {L : List Pl} {at_ way p : Int}
theorem short_fwd (p0 : 0 ≤ p) (p1 : p ≤ (L.length : Int)) (y0 : 0 ≤ way) : (l, at_, way) ∈ (comeTo [((l, at_, way), "short")] G l L p 1).1 ↔ (way = 0 ∧ p ≤ at_ ∧ at_ ≤ (L.length : Int) ∧ Fre G l p (at_ + 1)) ∨ (0 < way ∧ p < at_ ∧ at_ ≤ (L.length : Int) ∧ way ≤ (spl L at_ : Int) ∧ Fre G l p at_) := by
  rw [fwd1 p0 p1]
  constructor
  · rintro ⟨a, ⟨a1, a2⟩, _, f, h⟩
    rcases h with h | ⟨h1, h2⟩
    · have e1 := (Prod.ext_iff.mp (Prod.ext_iff.mp h).2).1
      have e2 := (Prod.ext_iff.mp (Prod.ext_iff.mp h).2).2
      dsimp only at e1 e2
      have e3 : a = at_ + 1 := by omega
      subst e3
      exact .inl ⟨e2, by omega, by omega, f⟩
    · obtain ⟨w, e⟩ := spur_in h2
      have e1 := (Prod.ext_iff.mp (Prod.ext_iff.mp e).2).1
      dsimp only at e1
      subst e1
      have z := (in_spur.mp h2).1
      exact .inr ⟨by omega, a1, h1, z.2, f⟩
  · rintro (⟨rfl, h1, h2, f⟩ | ⟨h0, h1, h2, h3, f⟩)
    · exact ⟨at_ + 1, ⟨by omega, by omega⟩, fun c _ _ => hv_short_nc _ _, f, .inl (by rw [show at_ + 1 - 1 = at_ by omega])⟩
    · exact ⟨at_, ⟨h1, by omega⟩, fun c _ _ => hv_short_nc _ _, f, .inr ⟨h2, in_spur.mpr ⟨⟨by omega, h3⟩, fun _ _ _ => hv_short_nc _ _⟩⟩⟩
theorem short_bwd (p0 : 1 ≤ p) (p1 : p ≤ (L.length : Int) + 1) (y0 : 0 ≤ way) : (l, at_, way) ∈ (comeTo [((l, at_, way), "short")] G l L p (-1)).1 ↔ (way = 0 ∧ 0 ≤ at_ ∧ at_ < p ∧ Fre G l at_ p) ∨ (0 < way ∧ 1 ≤ at_ ∧ at_ < p ∧ way ≤ (spl L at_ : Int) ∧ Fre G l at_ p) := by
  rw [bwd1 p0 p1]
  constructor
  · rintro ⟨a, ⟨a1, a2⟩, _, f, h⟩
    rcases h with h | ⟨h1, h2⟩
    · have e1 := (Prod.ext_iff.mp (Prod.ext_iff.mp h).2).1
      have e2 := (Prod.ext_iff.mp (Prod.ext_iff.mp h).2).2
      dsimp only at e1 e2
      subst e1
      exact .inl ⟨e2, by omega, by omega, f⟩
    · obtain ⟨w, e⟩ := spur_in h2
      have e1 := (Prod.ext_iff.mp (Prod.ext_iff.mp e).2).1
      dsimp only at e1
      subst e1
      have z := (in_spur.mp h2).1
      exact .inr ⟨by omega, h1, a2, z.2, f⟩
  · rintro (⟨rfl, h1, h2, f⟩ | ⟨h0, h1, h2, h3, f⟩)
    · exact ⟨at_, ⟨by omega, by omega⟩, fun c _ _ => hv_short_nc _ _, f, .inl rfl⟩
    · exact ⟨at_, ⟨by omega, h2⟩, fun c _ _ => hv_short_nc _ _, f, .inr ⟨h1, in_spur.mpr ⟨⟨by omega, h3⟩, fun _ _ _ => hv_short_nc _ _⟩⟩⟩
theorem mem_steps {n : Nat} {p st : Int} (p0 : 0 ≤ p) (p1 : p ≤ (n : Int) + 1) : st ∈ stepsM n p ↔ (st = 1 ∧ p ≤ (n : Int)) ∨ (st = -1 ∧ 1 ≤ p) := by
  unfold stepsM
  split
  · rw [List.mem_singleton]; omega
  · split
    · rw [List.mem_singleton]; omega
    · rw [List.mem_cons, List.mem_singleton]; omega
theorem feels_iff {F : Hows} {o : Int × Int} : feelsM F G L o = true ↔ ∃ st ∈ stepsM L.length o.2, (comeTo F G o.1 L o.2 st).1.any (isShort F) = true := List.any_eq_true
theorem isOp_bd {q : Int} (h : isOp L q) : 0 ≤ q ∧ q ≤ (L.length : Int) + 1 := by
  rcases h with rfl | rfl | ⟨j, x, ex, _, rfl⟩
  · omega
  · omega
  · have := (List.getElem?_eq_some_iff.mp ex).1
    omega
/-- both gates feel the short, when no opener between them is parted -/
theorem gates_feel {a0 b0 : Int} (g : Gap L a0 b0 at_ way) (hG : ∀ q, a0 < q → q < b0 → (l, q) ∉ G) : feelsM [((l, at_, way), "short")] G L (l, a0) = true ∧ feelsM [((l, at_, way), "short")] G L (l, b0) = true := by
  obtain ⟨h0, h1, o0, o1, free, at0, at1, way0, wayP⟩ := g
  constructor
  · refine feels_iff.mpr ⟨1, (mem_steps h0 (by first | omega | (dsimp only; omega))).mpr (.inl ⟨rfl, by first | omega | (dsimp only; omega)⟩), any_short.mpr ((short_fwd h0 (by first | omega | (dsimp only; omega)) way0).mpr ?_)⟩
    by_cases hw : way = 0
    · exact .inl ⟨hw, at0, by omega, fun q q1 q2 => hG q q1 (by omega)⟩
    · obtain ⟨z1, z2⟩ := wayP (by omega)
      exact .inr ⟨by omega, z1, by omega, z2, fun q q1 q2 => hG q q1 (by omega)⟩
  · refine feels_iff.mpr ⟨-1, (mem_steps (by first | omega | (dsimp only; omega)) h1).mpr (.inr ⟨rfl, by first | omega | (dsimp only; omega)⟩), any_short.mpr ((short_bwd (by first | omega | (dsimp only; omega)) h1 way0).mpr ?_)⟩
    by_cases hw : way = 0
    · exact .inl ⟨hw, by omega, at1, fun q q1 q2 => hG q (by omega) q2⟩
    · obtain ⟨z1, z2⟩ := wayP (by omega)
      exact .inr ⟨by omega, by omega, at1, z2, fun q q1 q2 => hG q (by omega) q2⟩
/-- and no other opener does, when all openers are parted -/
theorem feels_gate {a0 b0 p : Int} (g : Gap L a0 b0 at_ way) (hG : ∀ q, (l, q) ∈ G ↔ isOp L q) (hp : isOp L p) (h : feelsM [((l, at_, way), "short")] G L (l, p) = true) : p = a0 ∨ p = b0 := by
  obtain ⟨h0, h1, o0, o1, free, at0, at1, way0, wayP⟩ := g
  obtain ⟨p0, p1⟩ := isOp_bd hp
  obtain ⟨st, hst, h⟩ := feels_iff.mp h
  have h := any_short.mp h
  dsimp only at hst h
  have nf : ¬ (a0 < p ∧ p < b0) := fun z => free p z.1 z.2 hp
  rcases (mem_steps p0 p1).mp hst with ⟨rfl, hp2⟩ | ⟨rfl, hp2⟩
  · rcases (short_fwd p0 hp2 way0).mp h with ⟨_, z1, z2, f⟩ | ⟨z0, z1, z2, _, f⟩
    · left
      rcases Int.lt_trichotomy p a0 with c | c | c
      · exact absurd ((hG a0).mpr o0) (f a0 c (by omega))
      · exact c
      · omega
    · left
      have := (wayP z0).1
      rcases Int.lt_trichotomy p a0 with c | c | c
      · exact absurd ((hG a0).mpr o0) (f a0 c (by omega))
      · exact c
      · omega
  · rcases (short_bwd hp2 p1 way0).mp h with ⟨_, z1, z2, f⟩ | ⟨z0, z1, z2, _, f⟩
    · right
      rcases Int.lt_trichotomy p b0 with c | c | c
      · omega
      · exact c
      · exact absurd ((hG b0).mpr o1) (f b0 (by omega) c)
    · right
      rcases Int.lt_trichotomy p b0 with c | c | c
      · omega
      · exact c
      · exact absurd ((hG b0).mpr o1) (f b0 (by omega) c)
/-- what is heard, when just the gates are parted -/
theorem short_heard {a0 b0 a w : Int} (g : Gap L a0 b0 at_ way) (h1 : 1 ≤ a) (h2 : a ≤ (L.length : Int)) (w0 : 0 ≤ w) (w1 : w ≤ (spl L a : Int)) (hG : ∀ q, (l, q) ∈ G ↔ q = a0 ∨ q = b0) :
    ((l, a, w) ∈ heardM [((l, at_, way), "short")] G l L "A" ∨ (l, a, w) ∈ heardM [((l, at_, way), "short")] G l L "B") ↔ ¬ (a0 < a ∧ a < b0) := by
  obtain ⟨h0, h1', o0, o1, free, at0, at1, way0, wayP⟩ := g
  have inG : ∀ {q : Int}, (l, q) ∉ G → q ≠ a0 ∧ q ≠ b0 := fun {q} h => ⟨fun e => h ((hG q).mpr (.inl e)), fun e => h ((hG q).mpr (.inr e))⟩
  have ninG : ∀ {q : Int}, q ≠ a0 → q ≠ b0 → (l, q) ∉ G := fun {q} x y h => ((hG q).mp h).elim x y
  constructor
  · rintro h ⟨z1, z2⟩
    rcases h with h | h
    · obtain ⟨n0, _, f, _⟩ := of_A h
      have := (inG n0).1
      exact f a0 (by omega) z1 ((hG a0).mpr (.inl rfl))
    · obtain ⟨n0, _, f, _⟩ := of_B h
      have := (inG n0).2
      exact f b0 z2 (by omega) ((hG b0).mpr (.inr rfl))
  · intro h
    by_cases ha : a ≤ a0
    · left
      refine in_A (ninG (by omega) (by omega)) ?_ h1 h2 (fun c _ _ => hv_short_nc _ _) (fun q q1 q2 => ninG (by omega) (by omega)) w0 w1 fun i _ _ => hv_short_nc _ _
      rw [Bool.eq_false_iff]
      intro z
      rcases (short_fwd (Int.le_refl _) (by omega) way0).mp (any_short.mp z) with ⟨_, z1, z2, f⟩ | ⟨y0, z1, z2, _, f⟩
      · exact f a0 (by omega) (by omega) ((hG a0).mpr (.inl rfl))
      · have := (wayP y0).1
        exact f a0 (by omega) (by omega) ((hG a0).mpr (.inl rfl))
    · right
      refine in_B (ninG (by omega) (by omega)) ?_ h1 h2 (fun c _ _ => hv_short_nc _ _) (fun q q1 q2 => ninG (by omega) (by omega)) w0 w1 fun i _ _ => hv_short_nc _ _
      rw [Bool.eq_false_iff]
      intro z
      rcases (short_bwd (by omega) (Int.le_refl _) way0).mp (any_short.mp z) with ⟨_, z1, z2, f⟩ | ⟨y0, z1, z2, _, f⟩
      · exact f b0 (by omega) (by omega) ((hG b0).mpr (.inr rfl))
      · exact f b0 (by omega) (by omega) ((hG b0).mpr (.inr rfl))
end
/-! ### coming to rest -/
theorem sorted_ext {α : Type} {c : α → Int} {l m : List α} (h1 : l.Pairwise fun x y => c x < c y) (h2 : m.Pairwise fun x y => c x < c y) (h : ∀ x, x ∈ l ↔ x ∈ m) : l = m :=
  sorted_eq h2 ((List.perm_ext_iff_of_nodup (lt_nodup h2) (lt_nodup h1)).mpr fun x => (h x).symm) (h1.imp fun z => Int.le_of_lt z)
theorem feels_none {F : Hows} (hF : ∀ t, isShort F t = false) (G : Stops) (Ls : List (List Pl)) (o : Int × Int) : feelsP F G Ls o = false := by
  unfold feelsP feelsM
  rw [List.any_eq_false]
  intro st _
  rw [any_false hF]
  decide
theorem rest1_none {F : Hows} (hF : ∀ t, isShort F t = false) (Ls : List (List Pl)) (G : Stops) : rest1 F Ls G = G := by
  have key : ∀ l : List (Int × Int), l.foldl (addM F Ls) G = G := by
    intro l
    induction l with
    | nil => rfl
    | cons o l ih =>
      rw [List.foldl_cons]
      have e : addM F Ls G o = G := by
        unfold addM
        rw [if_neg fun z => absurd (z.2.symm.trans (feels_none hF _ _ _)) (by decide)]
      rw [e, ih]
  exact key _
theorem fold_add (F : Hows) (Ls : List (List Pl)) : ∀ (l : List (Int × Int)) (G : Stops), (G ++ l).Nodup → l.foldl (addM F Ls) G = G ++ l.filter fun o => feelsP F (opsOf Ls) Ls o
  | [], G, _ => (List.append_nil G).symm
  | o :: l, G, nd => by
    have nG : o ∉ G := fun h => (List.nodup_append.mp nd).2.2 o h o List.mem_cons_self rfl
    rw [List.foldl_cons]
    by_cases hf : feelsP F (opsOf Ls) Ls o = true
    · have e : addM F Ls G o = G ++ [o] := by
        unfold addM tog
        rw [if_pos ⟨nG, hf⟩, if_neg nG]
      rw [e, fold_add F Ls l (G ++ [o]) (by rw [List.append_assoc]; exact nd), List.filter_cons_of_pos (by exact hf), List.append_assoc]
      rfl
    · have e : addM F Ls G o = G := by
        unfold addM
        rw [if_neg fun z => hf z.2]
      rw [e, fold_add F Ls l G (nd.sublist (List.Sublist.append_left (List.sublist_cons_self o l) G)), List.filter_cons_of_neg (by exact hf)]
def gates (i a0 b0 : Int) : Stops := [(i, a0), (i, b0)]
theorem gates_lt {i a0 b0 : Int} (h : a0 < b0) : (gates i a0 b0).Pairwise fun x y => codeO x < codeO y := by
  unfold gates
  rw [List.pairwise_cons]
  refine ⟨fun x hx => ?_, List.pairwise_singleton _ _⟩
  obtain rfl := List.mem_singleton.mp hx
  unfold codeO
  dsimp only
  omega
theorem gates_in {i a0 b0 : Int} {q : Int} : (i, q) ∈ gates i a0 b0 ↔ q = a0 ∨ q = b0 := by
  unfold gates
  rw [List.mem_cons, List.mem_singleton]
  constructor
  · rintro (h | h)
    · exact .inl (Prod.ext_iff.mp h).2
    · exact .inr (Prod.ext_iff.mp h).2
  · rintro (rfl | rfl)
    · exact .inl rfl
    · exact .inr rfl
theorem lp_of {Ls : List (List Pl)} {i : Nat} {L : List Pl} (e : Ls[i]? = some L) (p : Int) : lp Ls ((i : Int), p) = L := by
  unfold lp
  dsimp only
  rw [Int.toNat_natCast, e]
  rfl
theorem rest1_short {Ls : List (List Pl)} (bd : Bnd Ls) {i : Nat} {L : List Pl} (e : Ls[i]? = some L) {a0 b0 at_ way : Int} (g : Gap L a0 b0 at_ way) : rest1 [(((i : Int), at_, way), "short")] Ls [] = gates i a0 b0 := by
  unfold rest1
  rw [fold_add _ _ _ _ (lt_nodup (opsOf_lt bd)), List.nil_append]
  have ab : a0 < b0 := by have := g.at0; have := g.at1; omega
  refine sorted_ext (c := codeO) ((opsOf_lt bd).filter _) (gates_lt ab) fun o => ?_
  rw [List.mem_filter]
  have gf := gates_feel (G := opsOf Ls) (l := i) g fun q q1 q2 h => g.free q q1 q2 ((ops_isOp e).mp h)
  have mm : ∀ {q : Int}, feelsM [(((i : Int), at_, way), "short")] (opsOf Ls) L ((i : Int), q) = true → feelsP [(((i : Int), at_, way), "short")] (opsOf Ls) Ls ((i : Int), q) = true := fun {q} h => by
    unfold feelsP
    rw [lp_of e]
    exact h
  constructor
  · rintro ⟨h1, h2⟩
    obtain ⟨i2, p, rfl, e2, _, _⟩ := op_loop h1
    by_cases hi : i2 = i
    · subst hi
      unfold feelsP at h2
      rw [lp_of e] at h2
      exact gates_in.mpr (feels_gate g (fun q => ops_isOp e) ((ops_isOp e).mp h1) h2)
    · exfalso
      unfold feelsP at h2
      obtain ⟨st, _, h⟩ := feels_iff.mp h2
      have h := passed_loop (any_short.mp h)
      dsimp only at h
      exact hi (by omega)
  · intro h
    obtain ⟨o1, o2⟩ := o
    have hi : o1 = (i : Int) := by
      unfold gates at h
      rcases List.mem_cons.mp h with h | h
      · exact (Prod.ext_iff.mp h).1
      · exact (Prod.ext_iff.mp (List.mem_singleton.mp h)).1
    subst hi
    rcases gates_in.mp h with rfl | rfl
    · exact ⟨(ops_isOp e).mpr g.o0, mm gf.1⟩
    · exact ⟨(ops_isOp e).mpr g.o1, mm gf.2⟩
theorem rest2_short {Ls : List (List Pl)} {i : Nat} {L : List Pl} (e : Ls[i]? = some L) {a0 b0 at_ way : Int} (g : Gap L a0 b0 at_ way) : (gates i a0 b0).foldl (actM [(((i : Int), at_, way), "short")] Ls) (gates i a0 b0) = gates i a0 b0 := by
  have gf := gates_feel (G := gates i a0 b0) (l := i) g fun q q1 q2 h => by
    rcases gates_in.mp h with rfl | rfl
    · omega
    · omega
  have e1 : ∀ {q : Int}, feelsM [(((i : Int), at_, way), "short")] (gates i a0 b0) L ((i : Int), q) = true → (q = a0 ∨ q = b0) → actM [(((i : Int), at_, way), "short")] Ls (gates i a0 b0) ((i : Int), q) = gates i a0 b0 := fun {q} h hq => by
    unfold actM feelsP
    rw [lp_of e, h, decide_eq_true (gates_in.mpr hq), if_pos rfl]
  show actM _ Ls (actM _ Ls (gates i a0 b0) ((i : Int), a0)) ((i : Int), b0) = _
  rw [e1 gf.1 (.inl rfl), e1 gf.2 (.inr rfl)]
theorem rest2_none {F : Hows} (hF : ∀ t, isShort F t = false) (Ls : List (List Pl)) : ∀ (tt : List (Int × Int)) (G : Stops), tt.Nodup → (∀ o, o ∈ G ↔ o ∈ tt) → tt.foldl (actM F Ls) G = []
  | [], G, _, h => by
    cases G with
    | nil => rfl
    | cons o G => exact absurd ((h o).mp List.mem_cons_self) (by intro z; cases z)
  | o :: tt, G, nd, h => by
    rw [List.nodup_cons] at nd
    have hG : o ∈ G := (h o).mpr List.mem_cons_self
    rw [List.foldl_cons]
    have e : actM F Ls G o = G.filter fun x => decide (x ≠ o) := by
      unfold actM tog
      rw [feels_none hF, decide_eq_true hG, if_neg Bool.false_ne_true, if_pos hG]
    rw [e]
    refine rest2_none hF Ls tt _ nd.2 fun x => ?_
    rw [List.mem_filter, h x, List.mem_cons, decide_eq_true_iff]
    constructor
    · rintro ⟨rfl | h1, h2⟩
      · exact absurd rfl h2
      · exact h1
    · intro h1
      exact ⟨.inr h1, fun e => nd.1 (e ▸ h1)⟩
/-! ### silent, due, own -/
def spotsOf (Ls : List (List Pl)) : List Spot := (devsOf Ls).map (·.1)
theorem spots_lt {Ls : List (List Pl)} (b : Bnd Ls) : (spotsOf Ls).Pairwise fun x y => codeS x < codeS y := List.pairwise_map.mpr (devsOf_lt b)
theorem spl_at {L : List Pl} {j : Nat} {x : Pl} (e : L[j]? = some x) : spl L ((j : Int) + 1) = x.spur.length := by
  unfold spl
  rw [show ((j : Int) + 1 - 1).toNat = j by omega, e]
  rfl
theorem told_bd {Ls : List (List Pl)} {i : Nat} {L : List Pl} (e : Ls[i]? = some L) {s : Spot} (h : s ∈ spotsOf Ls) (hi : s.1 = (i : Int)) : (1 ≤ s.2.1 ∧ s.2.1 ≤ (L.length : Int)) ∧ 0 ≤ s.2.2 ∧ s.2.2 ≤ (spl L s.2.1 : Int) := by
  obtain ⟨d, hd, rfl⟩ := List.mem_map.mp h
  obtain ⟨i2, M, e2, h1, h2⟩ := devsOf_in hd
  have : i2 = i := by omega
  subst this
  rw [e] at e2
  cases e2
  obtain ⟨_, j, x, ex, h3, h4⟩ := devsLoop_in h2
  obtain ⟨_, _, h5, h6⟩ := devsPl_in h4
  have := (List.getElem?_eq_some_iff.mp ex).1
  rw [h3, spl_at ex]
  omega
theorem told_mk {Ls : List (List Pl)} {i : Nat} {L : List Pl} (e : Ls[i]? = some L) {a w : Int} (h1 : 1 ≤ a) (h2 : a ≤ (L.length : Int)) (w0 : 0 ≤ w) (w1 : w ≤ (spl L a : Int)) (h : w = 0 → ¬ isOp L a) : ((i : Int), a, w) ∈ spotsOf Ls := by
  obtain ⟨j, rfl⟩ : ∃ j : Nat, a = (j : Int) + 1 := ⟨(a - 1).toNat, by omega⟩
  have hj : j < L.length := by omega
  have ex : L[j]? = some L[j] := List.getElem?_eq_getElem hj
  rw [spl_at ex] at w1
  generalize L[j] = x at ex w1
  have key : ∃ d : DevAt, d ∈ devsPl (i : Int) ((j : Int) + 1) x ∧ d.1 = ((i : Int), (j : Int) + 1, w) := by
    unfold devsPl
    by_cases hw : w = 0
    · subst hw
      have nk : ¬ x.kind = opener := fun z => h rfl (.inr (.inr ⟨j, x, ex, z, rfl⟩))
      rw [if_neg nk]
      exact ⟨_, List.mem_append_left _ (List.mem_singleton.mpr rfl), rfl⟩
    · have hk : (w - 1).toNat < x.spur.length := by omega
      refine ⟨(((i : Int), (j : Int) + 1, (((w - 1).toNat : Nat) : Int) + 1), (x.spur[(w - 1).toNat]).kind, (x.spur[(w - 1).toNat]).addr), List.mem_append_right _ ((fmI_mem _).mpr ⟨(w - 1).toNat, x.spur[(w - 1).toNat], List.getElem?_eq_getElem hk, ?_⟩), ?_⟩
      · rw [Nat.zero_add]
        exact List.mem_singleton.mpr rfl
      · show ((i : Int), (j : Int) + 1, (((w - 1).toNat : Nat) : Int) + 1) = _
        rw [show (((w - 1).toNat : Nat) : Int) + 1 = w by omega]
  obtain ⟨d, hd, ed⟩ := key
  rw [← ed]
  refine List.mem_map_of_mem ((fmI_mem _).mpr ⟨i, L, e, (fmI_mem _).mpr ⟨j, x, ex, ?_⟩⟩)
  rw [Nat.zero_add, Nat.zero_add]
  exact hd
def quiet (F : Hows) (G : Stops) (i : Nat) (L : List Pl) (s : Spot) : Bool := decide (s.1 = (i : Int) ∧ ¬ (s ∈ heardM F G (i : Nat) L "A" ∨ s ∈ heardM F G (i : Nat) L "B"))
def silentM (F : Hows) (G : Stops) (Ls : List (List Pl)) : List Spot := fmI (fun i L => (spotsOf Ls).filter (quiet F G i L)) 0 Ls
theorem silent_lt {Ls : List (List Pl)} (b : Bnd Ls) (F : Hows) (G : Stops) : (silentM F G Ls).Pairwise fun x y => codeS x < codeS y := by
  refine fmI_pair _ (fun i L e => (spots_lt b).filter _) (fun i j L M x y hij e1 e2 m1 m2 => ?_)
  obtain ⟨x1, x2⟩ := List.mem_filter.mp m1
  obtain ⟨y1, y2⟩ := List.mem_filter.mp m2
  have hx := (of_decide_eq_true x2).1
  have hy := (of_decide_eq_true y2).1
  obtain ⟨dx, hdx, rfl⟩ := List.mem_map.mp x1
  obtain ⟨dy, hdy, rfl⟩ := List.mem_map.mp y1
  have bx := devsOf_bd b hdx
  have bY := devsOf_bd b hdy
  unfold codeS
  omega
theorem silent_in {Ls : List (List Pl)} {F : Hows} {G : Stops} {s : Spot} : s ∈ silentM F G Ls ↔ s ∈ spotsOf Ls ∧ ∃ (i : Nat) (L : List Pl), Ls[i]? = some L ∧ s.1 = (i : Int) ∧ ¬ (s ∈ heardM F G (i : Nat) L "A" ∨ s ∈ heardM F G (i : Nat) L "B") := by
  unfold silentM
  rw [fmI_mem]
  constructor
  · rintro ⟨i, L, e, m⟩
    rw [Nat.zero_add] at m
    obtain ⟨m1, m2⟩ := List.mem_filter.mp m
    exact ⟨m1, i, L, e, of_decide_eq_true m2⟩
  · rintro ⟨m1, i, L, e, m2⟩
    refine ⟨i, L, e, ?_⟩
    rw [Nat.zero_add]
    exact List.mem_filter.mpr ⟨m1, decide_eq_true m2⟩
def dueS (i : Int) (L : List Pl) (a0 : Int) (n : Nat) : List Spot := fmI (fun k _ => (List.range (spl L (a0 + 1 + (k : Nat)) + 1)).map fun (w : Nat) => ((i, a0 + 1 + (k : Int), (w : Int)) : Spot)) 0 (List.range n)
theorem dueS_in {i : Int} {L : List Pl} {a0 : Int} {n : Nat} {s : Spot} : s ∈ dueS i L a0 n ↔ s.1 = i ∧ (a0 < s.2.1 ∧ s.2.1 ≤ a0 + n) ∧ 0 ≤ s.2.2 ∧ s.2.2 ≤ (spl L s.2.1 : Int) := by
  unfold dueS
  rw [fmI_mem]
  constructor
  · rintro ⟨k, z, ez, m⟩
    rw [Nat.zero_add] at m
    have hk := (List.getElem?_eq_some_iff.mp ez).1
    rw [List.length_range] at hk
    obtain ⟨w, hw, rfl⟩ := List.mem_map.mp m
    rw [List.mem_range] at hw
    dsimp only
    omega
  · rintro ⟨rfl, ⟨h1, h2⟩, h3, h4⟩
    obtain ⟨i, a, w⟩ := s
    dsimp only at h1 h2 h3 h4 ⊢
    refine ⟨(a - a0 - 1).toNat, (a - a0 - 1).toNat, List.getElem?_range (by omega), ?_⟩
    rw [Nat.zero_add, show a0 + 1 + (((a - a0 - 1).toNat : Nat) : Int) = a by omega]
    refine List.mem_map.mpr ⟨w.toNat, List.mem_range.mpr (by omega), ?_⟩
    rw [show ((w.toNat : Nat) : Int) = w by omega]
theorem dueS_lt {i : Int} {L : List Pl} {a0 : Int} {n : Nat} (hs : ∀ a, (spl L a : Int) ≤ 3) : (dueS i L a0 n).Pairwise fun x y => codeS x < codeS y := by
  refine fmI_pair _ (fun k z e => ?_) (fun k j z u x y hkj e1 e2 m1 m2 => ?_)
  · rw [List.pairwise_map]
    refine (List.pairwise_lt_range).imp fun {x y} h => ?_
    unfold codeS
    dsimp only
    omega
  · obtain ⟨w1, hw1, rfl⟩ := List.mem_map.mp m1
    obtain ⟨w2, hw2, rfl⟩ := List.mem_map.mp m2
    rw [List.mem_range] at hw1 hw2
    have h1 := hs (a0 + 1 + ((0 + k : Nat) : Int))
    have h2 := hs (a0 + 1 + ((0 + j : Nat) : Int))
    unfold codeS
    dsimp only
    omega
theorem spl_le {Ls : List (List Pl)} (b : Bnd Ls) {i : Nat} {L : List Pl} (e : Ls[i]? = some L) (a : Int) : (spl L a : Int) ≤ 3 := by
  unfold spl
  cases h : L[(a - 1).toNat]? with
  | none => show ((0 : Nat) : Int) ≤ 3; decide
  | some x =>
    have := b.spur L (List.mem_of_getElem? e) x (List.mem_of_getElem? h)
    show ((x.spur.length : Nat) : Int) ≤ 3
    omega
theorem silent_short {Ls : List (List Pl)} (bd : Bnd Ls) {i : Nat} {L : List Pl} (e : Ls[i]? = some L) {a0 b0 at_ way : Int} (g : Gap L a0 b0 at_ way) : silentM [(((i : Int), at_, way), "short")] (gates i a0 b0) Ls = dueS i L a0 (b0 - a0 - 1).toNat := by
  have ab : a0 < b0 := by have := g.at0; have := g.at1; omega
  refine sorted_ext (silent_lt bd _ _) (dueS_lt (spl_le bd e)) fun s => ?_
  rw [silent_in, dueS_in]
  constructor
  · rintro ⟨m, i2, M, e2, hi, nh⟩
    obtain ⟨⟨t1, t2⟩, t3, t4⟩ := told_bd e2 m hi
    obtain ⟨s1, a, w⟩ := s
    dsimp only at hi t1 t2 t3 t4 ⊢
    subst hi
    by_cases hx : i2 = i
    · subst hx
      rw [e] at e2
      cases e2
      rw [short_heard g t1 t2 t3 t4 (fun q => gates_in)] at nh
      have := Classical.not_not.mp nh
      omega
    · exfalso
      refine nh (.inl (heard_all (other_loop (by dsimp only; omega)) (fun q h => ?_) t1 t2 t3 t4).1)
      unfold gates at h
      rcases List.mem_cons.mp h with h | h
      · have := (Prod.ext_iff.mp h).1
        dsimp only at this
        omega
      · have := (Prod.ext_iff.mp (List.mem_singleton.mp h)).1
        dsimp only at this
        omega
  · rintro ⟨hi, ⟨h1, h2⟩, h3, h4⟩
    obtain ⟨s1, a, w⟩ := s
    dsimp only at hi h1 h2 h3 h4 ⊢
    subst hi
    have g0 := g.h0
    have g1 := g.h1
    have hb : a < b0 := by omega
    refine ⟨told_mk e (by omega) (by omega) h3 h4 fun _ => g.free a h1 hb, i, L, e, rfl, ?_⟩
    rw [short_heard g (by omega) (by omega) h3 h4 (fun q => gates_in)]
    exact fun z => z ⟨h1, hb⟩
def dueC (i at_ way : Int) (n : Nat) : List Spot := (List.range n).map fun (k : Nat) => ((i, at_, way + (k : Int)) : Spot)
theorem silent_cut0 {Ls : List (List Pl)} {i : Nat} {at_ : Int} : silentM [(((i : Int), at_, 0), "cut")] [] Ls = [] := by
  cases h : silentM [(((i : Int), at_, 0), "cut")] [] Ls with
  | nil => rfl
  | cons s l =>
    exfalso
    have hs : s ∈ silentM [(((i : Int), at_, 0), "cut")] [] Ls := by rw [h]; exact List.mem_cons_self
    obtain ⟨m, i2, M, e2, hi, nh⟩ := silent_in.mp hs
    obtain ⟨⟨t1, t2⟩, t3, t4⟩ := told_bd e2 m hi
    obtain ⟨s1, a, w⟩ := s
    dsimp only at hi t1 t2 t3 t4
    subst hi
    by_cases hx : i2 = i
    · subst hx
      exact nh ((cut_heard t1 t2 t3 t4 (Int.le_refl _)).mpr fun z => by omega)
    · exact nh (.inl (heard_all (other_loop (by dsimp only; omega)) (fun q h => by cases h) t1 t2 t3 t4).1)
theorem silent_cut {Ls : List (List Pl)} (bd : Bnd Ls) {i : Nat} {L : List Pl} (e : Ls[i]? = some L) {at_ way : Int} (y0 : 0 < way) (h1 : 1 ≤ at_) (h2 : at_ ≤ (L.length : Int)) : silentM [(((i : Int), at_, way), "cut")] [] Ls = dueC i at_ way ((spl L at_ : Int) + 1 - way).toNat := by
  refine sorted_ext (silent_lt bd _ _) ?_ fun s => ?_
  · unfold dueC
    rw [List.pairwise_map]
    refine (List.pairwise_lt_range).imp fun {x y} h => ?_
    unfold codeS
    dsimp only
    omega
  · rw [silent_in]
    unfold dueC
    rw [List.mem_map]
    constructor
    · rintro ⟨m, i2, M, e2, hi, nh⟩
      obtain ⟨⟨t1, t2⟩, t3, t4⟩ := told_bd e2 m hi
      obtain ⟨s1, a, w⟩ := s
      dsimp only at hi t1 t2 t3 t4 ⊢
      subst hi
      by_cases hx : i2 = i
      · subst hx
        rw [e] at e2
        cases e2
        rw [cut_heard t1 t2 t3 t4 (Int.le_of_lt y0)] at nh
        obtain ⟨_, rfl, z⟩ := Classical.not_not.mp nh
        exact ⟨(w - way).toNat, List.mem_range.mpr (by omega), by rw [show way + (((w - way).toNat : Nat) : Int) = w by omega]⟩
      · exact absurd (.inl (heard_all (other_loop (by dsimp only; omega)) (fun q h => by cases h) t1 t2 t3 t4).1) nh
    · rintro ⟨k, hk, rfl⟩
      rw [List.mem_range] at hk
      refine ⟨told_mk e h1 h2 (by omega) (by omega) (fun z => by omega), i, L, e, rfl, ?_⟩
      rw [cut_heard h1 h2 (by omega) (by omega) (Int.le_of_lt y0)]
      exact fun z => z ⟨y0, rfl, by omega⟩
/-! ### all is heard -/
theorem spurGo_nd (F : Hows) (l p : Int) : ∀ (r w : Nat), (spurGo F l p r w).Nodup
  | 0, _ => .nil
  | r + 1, w => by
    rw [spurGo_succ]
    split
    · exact .nil
    · rw [List.nodup_cons]
      refine ⟨fun h => ?_, spurGo_nd F l p r (w + 1)⟩
      obtain ⟨k, _, e, _⟩ := (spurGo_mem F l p _ r (w + 1)).mp h
      have := (Prod.ext_iff.mp (Prod.ext_iff.mp e).2).2
      dsimp only at this
      omega
theorem goes_nd (F : Hows) (G : Stops) (l : Int) (L : List Pl) {st : Int} (hs : st = 1 ∨ st = -1) : ∀ (m : Nat) (p : Int), (goes F G l L st m p).2.Nodup
  | 0, _ => .nil
  | m + 1, p => by
    have blk : ((l, p + st, (0 : Int)) :: spurGo F l (p + st) (spl L (p + st)) 1).Nodup := by
      rw [List.nodup_cons]
      refine ⟨fun h => ?_, spurGo_nd _ _ _ _ _⟩
      have := (in_spur.mp h).1
      omega
    unfold goes
    split
    · exact .nil
    · split
      · exact .nil
      · split
        · exact blk
        · dsimp only
          rw [List.nodup_append]
          refine ⟨blk, goes_nd F G l L hs m _, fun a ha b hb e => ?_⟩
          subst e
          have h1 : a.2.1 = p + st := by
            rcases List.mem_cons.mp ha with rfl | ha
            · rfl
            · obtain ⟨w, rfl⟩ := spur_in ha
              rfl
          obtain ⟨j, _, _, h⟩ := ((goes_mem F G l L st a m (p + st)).2).mp hb
          have h2 : a.2.1 = qAt (p + st) st j := by
            rcases h with ⟨_, rfl⟩ | ⟨_, h⟩
            · rfl
            · obtain ⟨w, rfl⟩ := spur_in h
              rfl
          rw [h1] at h2
          rcases hs with rfl | rfl
          · rw [qF] at h2; omega
          · rw [qB] at h2; omega
theorem heard_nd (F : Hows) (G : Stops) (l : Int) (L : List Pl) (e : Str) : (heardM F G l L e).Nodup := by
  have key : ∀ p st : Int, (st = 1 ∨ st = -1) → (if (l, p) ∈ G then [] else if (comeTo F G l L p st).1.any (isShort F) then [] else (comeTo F G l L p st).2).Nodup := by
    intro p st hs
    split
    · exact .nil
    · split
      · exact .nil
      · exact goes_nd F G l L hs _ _
  refine key _ _ ?_
  split
  · exact .inr rfl
  · exact .inl rfl
def ownM (Ls : List (List Pl)) (i : Nat) : List Spot := (spotsOf Ls).filter fun s => decide (s.1 = (i : Int))
theorem own_eq {Ls : List (List Pl)} (bd : Bnd Ls) {i : Nat} {L : List Pl} (e : Ls[i]? = some L) {x : Str} (hx : x = "A" ∨ x = "B") {tt : List Spot} (pm : (heardIn [] [] Ls i L x).Perm tt) (pw : tt.Pairwise fun a b => codeS a ≤ codeS b) : tt = ownM Ls i := by
  have ol : (ownM Ls i).Pairwise fun a b => codeS a < codeS b := (spots_lt bd).filter _
  refine sorted_eq ol (List.Perm.trans ?_ pm) pw
  refine (List.perm_ext_iff_of_nodup (lt_nodup ol) ((heard_nd _ _ _ _ _).filter _)).mpr fun s => ?_
  unfold ownM
  rw [List.mem_filter, List.mem_filter, decide_eq_true_iff, decide_eq_true_iff]
  constructor
  · rintro ⟨m, hi⟩
    obtain ⟨⟨t1, t2⟩, t3, t4⟩ := told_bd e m hi
    refine ⟨?_, m⟩
    obtain ⟨s1, a, w⟩ := s
    dsimp only at hi t1 t2 t3 t4
    subst hi
    have z := heard_all (F := []) (G := []) (l := (i : Int)) (L := L) (fun t _ => rfl) (fun q h => by cases h) t1 t2 t3 t4
    rcases hx with rfl | rfl
    · exact z.1
    · exact z.2
  · rintro ⟨m, hi⟩
    exact ⟨hi, spots_loop m⟩
end K12
/-! K12: the law's own words, and the law. -/
namespace K12
open PySem PySem.Spec PyProof.Rows L2
theorem not_op_at {L : List Pl} (ok : ∀ x ∈ L, PlOk x) {at_ way : Int} (y : 0 < way) (h1 : 1 ≤ at_) (h2 : at_ ≤ (L.length : Int)) (h3 : way ≤ (spl L at_ : Int)) : ¬ isOp L at_ := by
  rintro (h | h | ⟨j, x, ex, ek, rfl⟩)
  · omega
  · omega
  · rw [spl_at ex] at h3
    rcases ok x (List.mem_of_getElem? ex) with ⟨_, _, e⟩ | ⟨d, _⟩
    · rw [e] at h3
      simp only [List.length_nil] at h3
      omega
    · exact opener_no (ek ▸ d.1)
theorem dueS_succ (i : Int) (L : List Pl) (a0 : Int) (n : Nat) : dueS i L a0 (n + 1) = dueS i L a0 n ++ (List.range (spl L (a0 + 1 + (n : Nat)) + 1)).map fun (w : Nat) => ((i, a0 + 1 + (n : Int), (w : Int)) : Spot) := by
  unfold dueS
  rw [List.range_succ, fmI_append, List.length_range, Nat.zero_add]
  show _ ++ (_ ++ []) = _
  rw [List.append_nil]
theorem dueS_len {i : Int} {L : List Pl} {a0 : Int} (hs : ∀ a, (spl L a : Int) ≤ 3) (n : Nat) : (dueS i L a0 n).length ≤ 4 * n := by
  induction n with
  | zero => exact Nat.le_refl _
  | succ n ih =>
    rw [dueS_succ, List.length_append, List.length_map, List.length_range]
    have := hs (a0 + 1 + (n : Nat))
    omega
section
variable {P : Program} {w : World} {K : PySem.W.Frag} {mg : Str → Option Value} {base : Heap} {aK aT cC : Addr}
abbrev s_law_between : Stmt := top 56
abbrev n_law_between : List Str := ["_law_places", "_law_loop_here", "_law_stretch", "_law_first", "_law_last", "_law_spots", "_law_at", "_law_way"]
theorem sc_law_between : FnScope n_law_between ["_law_places", "_law_loop_here", "_law_stretch"] (defScope s_law_between) := ⟨rfl, rfl, rfl, by decide +kernel, rfl, by decide +kernel, by decide +kernel⟩
abbrev s_law_silent : Stmt := top 57
abbrev n_law_silent : List Str := ["_law_plan_here", "_law_wires", "_law_told", "_law_found", "_law_loop_here", "_law_heard", "_law_spot"]
theorem sc_law_silent : FnScope n_law_silent ["_law_plan_here", "_law_wires", "_law_told"] (defScope s_law_silent) := ⟨rfl, rfl, rfl, by decide +kernel, rfl, by decide +kernel, by decide +kernel⟩
abbrev s_law_due : Stmt := top 58
abbrev n_law_due : List Str := ["_law_plan_here", "_law_stretch", "_law_how", "_law_loop_here", "_law_at", "_law_way", "_law_places", "_law_gates", "_law_spots", "_law_more"]
theorem sc_law_due : FnScope n_law_due ["_law_plan_here", "_law_stretch", "_law_how"] (defScope s_law_due) := ⟨rfl, rfl, rfl, by decide +kernel, rfl, by decide +kernel, by decide +kernel⟩
abbrev s_law : Stmt := top 59
abbrev n_law : List Str := ["_law_script", "_law_bag_here", "_law_plan_here", "_law_wires", "_law_told", "_law_k", "_law_loop_here", "_law_at", "_law_way", "_law_how", "_law_spots", "_law_gates", "_law_own", "_law_spot", "_law_kind", "_law_address"]
theorem sc_law : FnScope n_law ["_law_script"] (defScope s_law) := ⟨rfl, rfl, rfl, by decide +kernel, rfl, by decide +kernel, by decide +kernel⟩
def sp_law_between : Sp := fun vs H Q _ => ∃ (v u : V) (i : Nat) (L : List Pl) (at_ way : Int), vs = [v, .int (i : Nat), u] ∧ Tp H (dLoop L) v ∧ L.length ≤ 12 ∧ (∀ x ∈ L, PlOk x) ∧ Tp H (dSpot ((i : Int), at_, way)) u ∧ (0 ≤ at_ ∧ at_ ≤ (L.length : Int)) ∧ 0 ≤ way ∧ (0 < way → 1 ≤ at_ ∧ way ≤ (spl L at_ : Int)) ∧
  ∀ (H' : Hp) (t : Addr) (a0 b0 : Int), Gap L a0 b0 at_ way → Same H H' → Pr2 H H' t ((gates i a0 b0).map dOp) ((dueS i L a0 (b0 - a0 - 1).toNat).map dSpot) → Q (.ref t) H'
theorem ok_law_between {f : Addr} {fd : FuncData} (F0 : Fun K "_law_between" "_law_between" s_law_between f fd) (B : Blt mg) : FnOk P w K mg base CX0 1 f fd ["_law_places", "_law_loop_here", "_law_stretch"] sp_law_between := by
  refine F0.ok sc_law_between (fun vs H Q E h => ?_) (fun cdv A outer s H vs Q E hr h => ?_)
  · obtain ⟨_, _, _, _, _, _, rfl, _⟩ := h
    rfl
  · obtain ⟨v, u, i, L, at_, way, rfl, hv, l12, okL, hu, ⟨at0, at1⟩, y0, yP, q⟩ := h
    obtain ⟨an, rfl⟩ : ∃ k : Nat, at_ = (k : Int) := ⟨at_.toNat, by omega⟩
    obtain ⟨c, ps, rfl, hc, rp⟩ := id hv
    have lp : ps.length = L.length := tall_len rp
    obtain ⟨tu, rfl, htu⟩ := spot_key hu
    have htu : H tu = some (.tup [.int (i : Nat), .int (an : Nat), .int way]) := htu
    -- the kind of a place
    have kind : ∀ j : Nat, j < L.length → ∃ (x : Pl) (d : Addr) (xs : List V), L[j]? = some x ∧ ps[j]? = some (.ref d) ∧ H d = some (.tup (.str x.kind :: xs)) := fun j hj => by
      have ex : L[j]? = some L[j] := List.getElem?_eq_getElem hj
      obtain ⟨y, ey, d, _, rfl, hd, _, _, rfl, rfl, _⟩ := rp.get (i := j) (d := dPl L[j]) (by rw [List.getElem?_map, ex]; rfl)
      exact ⟨_, d, _, ex, ey, hd⟩
    have nd := sc_law_between.nd
    refine ⟨_, (pss_cons (ps_set (i := 3) nd rfl (Or.inl rfl) (pe_ix (r := rIxT K) ix_tup (pv 2) pe_int (fun _ _ => rfl)))
      (pss_cons (ps_set (i := 4) nd rfl (Or.inl rfl) (pe_op op_add (pv 3) pe_int))
      (pss_cons (ps_mid (ps_if (pt_cmpR op_gt (pe_ix (r := rIxT K) ix_tup (pv 2) pe_int (fun _ _ => rfl)) pe_int (nomark _))
        (pss_one (ps_set (i := 4) nd rfl (Or.inl rfl) (pv 3)))
        pss_nil))
      (pss_cons (ps_mid (ps_while PassesOwn.never (PW.pt (pw_and (pt_cmpR op_gt (pv 3) pe_int (nomark _)) (pw_and1 (pt_cmpR op_ne (pe_ix (r := rIxT K) ix_tup (pe_ix (r := rIxT K) ix_tup (pv 0) (pe_op op_sub (pv 3) pe_int) (fun _ _ => rfl)) pe_int (fun _ _ => rfl)) pe_str (nomark _)))))
        (pss_one (ps_set (i := 3) nd rfl (Or.inl rfl) (pe_op op_sub (pv 3) pe_int)))))
      (pss_cons (ps_mid (ps_while PassesOwn.never (PW.pt (pw_and (pt_cmpR op_le (pv 4) (pe_callB call_len_seq (by rfl) B._len boot_len (pa_cons (pv 0) pa_nil)) (nomark _)) (pw_and1 (pt_cmpR op_ne (pe_ix (r := rIxT K) ix_tup (pe_ix (r := rIxT K) ix_tup (pv 0) (pe_op op_sub (pv 4) pe_int) (fun _ _ => rfl)) pe_int (fun _ _ => rfl)) pe_str (nomark _)))))
        (pss_one (ps_set (i := 4) nd rfl (Or.inl rfl) (pe_op op_add (pv 4) pe_int)))))
      (pss_cons (ps_set (i := 5) nd rfl (Or.inl rfl) (pe_lst pa_nil))
      (pss_cons (ps_for PassesOwn.never rfl (pi_range2 (by rfl) B._range (pa_cons (pe_op op_add (pv 3) pe_int) (pa_cons (pv 4) pa_nil))) (pg_name (i := 6) nd rfl (Or.inr rfl))
        (pss_one (ps_expr (pe_bm PySem.F.plainAttrs_list PySem.F.slot_list_extend PySem.F.type_list_extend mt_extend (pv 5) (pa_cons (pe_lc (own := [("_law_way", 7)]) rfl nd (pi_range1 (by rfl) B._range (pa_cons (pe_op op_add (pe_callB call_len_seq (by rfl) B._len boot_len (pa_cons (pe_ix (r := rIxT K) ix_tup (pe_ix (r := rIxT K) ix_tup (pv 0) (pe_op op_sub (pv 6) pe_int) (fun _ _ => rfl)) pe_int (fun _ _ => rfl)) pa_nil)) pe_int) pa_nil)) (blkOk_by (own := [("_law_way", 7)]) (N := n_law_between) (sc := defScope s_law_between) (by decide +kernel)) (fun _ _ _ _ _ => (pg_name (i := 7) nd rfl (Or.inl rfl))) (fun _ _ _ _ _ => pts_nil) (fun _ _ _ _ _ => (pe_tup (pa_cons (pv 1) (pa_cons (pv 6) (pa_cons (pv 7) pa_nil)))))) pa_nil)))))
      (pss_one (ps_ret (pe_tup (pa_cons (pe_lst (pa_cons (pe_tup (pa_cons (pv 1) (pa_cons (pv 3) pa_nil))) (pa_cons (pe_tup (pa_cons (pv 1) (pa_cons (pv 4) pa_nil))) pa_nil))) (pa_cons (pv 5) pa_nil)))))))))))), ?_⟩
    refine ⟨_, rfl, tu, _, 1, _, rfl, rfl, SqT.of htu, rfl, _, rfl, _, _, rfl, rfl, ?_⟩
    obtain ⟨lo, elo⟩ : ∃ lo : Int, lo = if 0 < way then (an : Int) else (an : Int) + 1 := ⟨_, rfl⟩
    refine ⟨fun σ H' => ∃ (y5 y6 y7 : Option V), σ = [some (.ref c), some (.int (i : Nat)), some (.ref tu), some (.int (an : Int)), some (.int lo), y5, y6, y7] ∧ H' = H, ?_, ?_⟩
    · refine ⟨_, rfl, tu, _, 2, _, rfl, rfl, SqT.of htu, rfl, _, _, rfl, rfl, _, rfl, ?_⟩
      by_cases hw : 0 < way
      · rw [decide_eq_true hw]
        rw [if_pos hw] at elo
        subst elo
        refine iteT ⟨_, rfl, ?_⟩
        exact ⟨_, _, _, rfl, rfl⟩
      · rw [decide_eq_false hw]
        rw [if_neg hw] at elo
        subst elo
        exact iteF ⟨_, _, _, rfl, rfl⟩
    rintro σ H1 ⟨y5, y6, y7, rfl, rfl⟩
    have lo0 : (an : Int) ≤ lo ∧ lo ≤ (an : Int) + 1 := by split at elo <;> omega
    have lo1 : 1 ≤ lo := by
      split at elo
      · rename_i z; have := (yP z).1; omega
      · omega
    -- the first gate
    refine ⟨fun σ H' => ∃ (a0 : Int), σ = [some (.ref c), some (.int (i : Nat)), some (.ref tu), some (.int a0), some (.int lo), y5, y6, y7] ∧ H' = H1 ∧ (0 ≤ a0 ∧ a0 ≤ (an : Int)) ∧ isOp L a0 ∧ ∀ q, a0 < q → q ≤ (an : Int) → ¬ isOp L q, ?_, ?_⟩
    · refine ⟨fun m σ H' => σ = [some (.ref c), some (.int (i : Nat)), some (.ref tu), some (.int (m : Nat)), some (.int lo), y5, y6, y7] ∧ H' = H1 ∧ (m : Int) ≤ (an : Int) ∧ ∀ q, (m : Int) < q → q ≤ (an : Int) → ¬ isOp L q, ⟨an, rfl, rfl, Int.le_refl _, fun q q1 q2 => absurd q1 (by omega)⟩, ?_⟩
      rintro m σ H' ⟨rfl, rfl, m1, m2⟩
      refine ⟨_, rfl, _, _, rfl, rfl, _, rfl, ?_⟩
      cases m with
      | zero =>
        refine iteF ?_
        exact ⟨0, rfl, rfl, ⟨Int.le_refl _, at0⟩, .inl rfl, fun q q1 q2 => m2 q (by omega) q2⟩
      | succ j =>
        rw [decide_eq_true (show (0 : Int) < ((j + 1 : Nat) : Int) by omega)]
        refine iteT ?_
        obtain ⟨x, d, xs, ex, ed, hd⟩ := kind j (by omega)
        refine ⟨_, rfl, _, rfl, _, _, rfl, rfl, c, _, _, _, rfl, rfl, SqT.of hc, by rw [show (((j + 1 : Nat) : Int) - 1) = (j : Int) by omega]; exact atI_nat ed, d, _, 0, _, rfl, rfl, SqT.of hd, atI_nat (j := 0) rfl, ?_⟩
        refine ⟨rfl, !decide (V.str x.kind = V.str "opener"), rfl, ?_⟩
        by_cases hk : x.kind = opener
        · rw [decide_eq_true (show V.str x.kind = V.str "opener" from congrArg V.str hk)]
          refine iteF ?_
          exact ⟨((j + 1 : Nat) : Int), rfl, rfl, ⟨by omega, m1⟩, .inr (.inr ⟨j, x, ex, hk, by omega⟩), m2⟩
        · rw [decide_eq_false (show ¬ V.str x.kind = V.str "opener" from fun z => hk (V.str.inj z))]
          refine iteT ⟨_, fun _ _ n => ⟨j, Nat.lt_succ_self j, n⟩, ?_⟩
          refine ⟨_, rfl, _, _, rfl, rfl, ?_⟩
          refine ⟨by show [some (V.ref c), some (V.int (i : Nat)), some (V.ref tu), some (V.int (((j + 1 : Nat) : Int) - 1)), some (V.int lo), y5, y6, y7] = _; rw [show ((j + 1 : Nat) : Int) - 1 = (j : Int) by omega], rfl, by omega, fun q q1 q2 => ?_⟩
          by_cases hq : ((j + 1 : Nat) : Int) < q
          · exact m2 q hq q2
          · rintro (z | z | ⟨j2, x2, e2, k2, z⟩)
            · omega
            · omega
            · have : j2 = j := by omega
              subst this
              rw [ex] at e2
              cases e2
              exact hk k2
    rintro σ H2 ⟨a0, rfl, rfl, ⟨a00, a01⟩, opA, freeA⟩
    -- the last gate
    refine ⟨fun σ H' => ∃ (b0 : Int), σ = [some (.ref c), some (.int (i : Nat)), some (.ref tu), some (.int a0), some (.int b0), y5, y6, y7] ∧ H' = H2 ∧ (lo ≤ b0 ∧ b0 ≤ (L.length : Int) + 1) ∧ isOp L b0 ∧ ∀ q, lo ≤ q → q < b0 → ¬ isOp L q, ?_, ?_⟩
    · refine ⟨fun m σ H' => ∃ b : Int, σ = [some (.ref c), some (.int (i : Nat)), some (.ref tu), some (.int a0), some (.int b), y5, y6, y7] ∧ H' = H2 ∧ b + (m : Int) = (L.length : Int) + 1 ∧ lo ≤ b ∧ ∀ q, lo ≤ q → q < b → ¬ isOp L q, ⟨((L.length : Int) + 1 - lo).toNat, lo, rfl, rfl, by omega, Int.le_refl _, fun q q1 q2 => absurd q1 (by omega)⟩, ?_⟩
      rintro m σ H' ⟨b, rfl, rfl, bm, b1, b2⟩
      refine ⟨_, rfl, _, rfl, c, ps, rfl, .inr (SqT.of hc), _, _, rfl, rfl, _, rfl, ?_⟩
      rw [lp]
      cases m with
      | zero =>
        rw [decide_eq_false (show ¬ b ≤ (L.length : Int) by omega)]
        refine iteF ?_
        exact ⟨b, rfl, rfl, ⟨b1, by omega⟩, .inr (.inl (by omega)), b2⟩
      | succ m =>
        rw [decide_eq_true (show b ≤ (L.length : Int) by omega)]
        refine iteT ?_
        obtain ⟨j, rfl⟩ : ∃ j : Nat, b = (j : Int) + 1 := ⟨(b - 1).toNat, by omega⟩
        obtain ⟨x, d, xs, ex, ed, hd⟩ := kind j (by omega)
        refine ⟨_, rfl, _, rfl, _, _, rfl, rfl, c, _, _, _, rfl, rfl, SqT.of hc, by rw [show ((j : Int) + 1 - 1) = (j : Int) by omega]; exact atI_nat ed, d, _, 0, _, rfl, rfl, SqT.of hd, atI_nat (j := 0) rfl, ?_⟩
        refine ⟨rfl, !decide (V.str x.kind = V.str "opener"), rfl, ?_⟩
        by_cases hk : x.kind = opener
        · rw [decide_eq_true (show V.str x.kind = V.str "opener" from congrArg V.str hk)]
          refine iteF ?_
          exact ⟨_, rfl, rfl, ⟨b1, by omega⟩, .inr (.inr ⟨j, x, ex, hk, rfl⟩), b2⟩
        · rw [decide_eq_false (show ¬ V.str x.kind = V.str "opener" from fun z => hk (V.str.inj z))]
          refine iteT ⟨_, fun _ _ n => ⟨m, Nat.lt_succ_self m, n⟩, ?_⟩
          refine ⟨_, rfl, _, _, rfl, rfl, ?_⟩
          refine ⟨_, rfl, rfl, by omega, by omega, fun q q1 q2 => ?_⟩
          by_cases hq : q < (j : Int) + 1
          · exact b2 q q1 hq
          · rintro (z | z | ⟨j2, x2, e2, k2, z⟩)
            · omega
            · omega
            · have : j2 = j := by omega
              subst this
              rw [ex] at e2
              cases e2
              exact hk k2
    rintro σ H3 ⟨b0, rfl, rfl, ⟨b00, b01⟩, opB, freeB⟩
    have g : Gap L a0 b0 (an : Int) way := by
      refine ⟨a00, b01, opA, opB, fun q q1 q2 => ?_, a01, ?_, y0, fun y => ?_⟩
      · by_cases hq : q ≤ (an : Int)
        · exact freeA q q1 hq
        · exact freeB q (by omega) q2
      · by_cases y : 0 < way
        · obtain ⟨y1, y2⟩ := yP y
          have n := not_op_at okL y y1 at1 y2
          have : b0 ≠ (an : Int) := fun z => n (z ▸ opB)
          omega
        · rw [if_neg y] at elo
          omega
      · obtain ⟨y1, y2⟩ := yP y
        have n := not_op_at okL y y1 at1 y2
        have : a0 ≠ (an : Int) := fun z => n (z ▸ opA)
        exact ⟨by omega, y2⟩
    have ab : a0 < b0 := by have := g.at0; have := g.at1; omega
    have s3 : ∀ a, (spl L a : Int) ≤ 3 := fun a => by
      unfold spl
      cases h : L[(a - 1).toNat]? with
      | none => show ((0 : Nat) : Int) ≤ 3; decide
      | some x =>
        have := (okL x (List.mem_of_getElem? h)).spur
        show ((x.spur.length : Nat) : Int) ≤ 3
        omega
    -- the spots
    refine ⟨Nat.zero_le _, fun p np => ?_⟩
    have g0 : Gr H3 (upd H3 p (.lst [])) p ((dueS (i : Int) L a0 0).map dSpot) := Gr.new np
    refine ⟨_, rfl, _, _, rfl, rfl, _, rfl, _, _, rfl, ⟨by omega, by omega, by omega, by omega⟩, ?_⟩
    refine for_it walk_range (fun k σ H' => ∃ (y6 y7 : Option V), σ = [some (.ref c), some (.int (i : Nat)), some (.ref tu), some (.int a0), some (.int b0), some (.ref p), y6, y7] ∧ Gr H3 H' p ((dueS (i : Int) L a0 k).map dSpot)) ⟨_, _, rfl, g0⟩ (fun _ _ _ _ _ => trivial) ?_ ?_
    · rintro k x σ _ H4 hk ⟨y6, y7, rfl, g4⟩ ⟨rfl, rfl⟩
      obtain ⟨j, ej⟩ : ∃ j : Nat, a0 + 1 + (k : Int) = (j : Int) + 1 := ⟨(a0 + (k : Int)).toNat, by omega⟩
      have hj : j < L.length := by omega
      have ex : L[j]? = some L[j] := List.getElem?_eq_getElem hj
      obtain ⟨y, ey, d, _, rfl, hd, _, _, rfl, rfl, _, _, rfl, rfl, _, _, rfl, ⟨e, ss, rfl, he, rs⟩, rfl⟩ := rp.get (i := j) (d := dPl L[j]) (by rw [List.getElem?_map, ex]; rfl)
      have lss : ss.length = spl L (a0 + 1 + (k : Int)) := by
        rw [ej, spl_at ex]
        exact tall_len rs
      have l3 := s3 (a0 + 1 + (k : Int))
      obtain ⟨xs4, hp4, rx4⟩ := g4.ls
      refine ⟨_, rfl, .inl ⟨rfl, _, SqL.of hp4⟩, _, rfl, _, rfl, _, _, rfl, rfl, c, _, _, _, rfl, rfl, SqT.of (g4.same _ _ hc), by rw [show (a0 + 1 + (k : Int) - 1) = (j : Int) by omega]; exact atI_nat ey, d, _, 2, _, rfl, rfl, SqT.of (g4.same _ _ hd), rfl, e, ss, rfl, .inr (SqT.of (g4.same _ _ he)), _, _, rfl, rfl, _, rfl, (by omega), (by omega), fun D nD => ?_⟩
      refine lc_it walk_range (fun w H8 => Gr H4 H8 D (((List.range w).map fun (w : Nat) => ((((i : Nat) : Int), a0 + 1 + (k : Int), (w : Int)) : Spot)).map dSpot)) (Gr.new nD) (fun _ _ _ _ => trivial) ?_ ?_
      · rintro w y _ H8 hw g8 ⟨rfl, rfl⟩
        refine ⟨rfl, _, rfl, _, rfl, _, rfl, le_line (by show 3 ≤ 1000; decide), fun t1 nt1 => ?_⟩
        obtain ⟨xs8, hp8, rx8⟩ := g8.ls
        have s1 := same_new (o := .tup [.int (i : Nat), .int (a0 + 1 + (k : Nat)), .int (0 + (w : Nat))]) nt1
        refine ⟨xs8, s1 _ _ hp8, small_len rx8 (by rw [List.length_map, List.length_map, List.length_range]; omega), ?_⟩
        rw [List.range_succ, List.map_append, List.map_append]
        refine Gr.app (g8.same.trans s1) g8.fresh (s1 _ _ hp8) (rx8.mono (ts_of s1)) (d := dSpot (((i : Nat) : Int), a0 + 1 + (k : Int), (w : Int))) (tp_tup upd_same (ta_cons tp_int (ta_cons tp_int (ta_cons ?_ ta_nil))))
        show V.int (0 + (w : Int)) = V.int (w : Int)
        rw [Int.zero_add]
      · rintro H8 g8
        obtain ⟨xs8, hp8, rx8⟩ := g8.ls
        have h4 := g8.same _ _ hp4
        have l1 : xs4.length ≤ 60 := by
          rw [rx4.length, List.length_map]
          have := dueS_len (i := (i : Int)) (a0 := a0) s3 k
          omega
        have l2 : xs8.length ≤ 4 := by
          rw [rx8.length, List.length_map, List.length_map, List.length_range]
          omega
        refine ⟨p, D, xs4, xs8, rfl, rfl, h4, hp8, le_line (by omega), _, _, rfl, ?_⟩
        rw [dueS_succ, List.map_append]
        refine Gr.ext (g4.same.trans g8.same) g4.fresh h4 (rx4.mono (ts_of g8.same)) ?_
        have en : (((ss.length : Nat) : Int) + 1).toNat = spl L (a0 + 1 + (k : Nat)) + 1 := by omega
        rw [← en]
        exact rx8
    · rintro σ H4 ⟨y6, y7, rfl, g4⟩
      have en : (b0 - (a0 + 1)).toNat = (b0 - a0 - 1).toNat := by omega
      rw [en] at g4
      refine ⟨_, rfl, _, rfl, le_line (by show 2 ≤ 1000; decide), fun t1 n1 => ⟨_, rfl, _, rfl, le_line (by show 2 ≤ 1000; decide), fun t2 n2 => ⟨le_line (by show 2 ≤ 1000; decide), fun r nr => ⟨_, rfl, le_line (by show 2 ≤ 1000; decide), fun t nt => ?_⟩⟩⟩⟩
      have sA := same_new (o := .tup [.int (i : Nat), .int a0]) n1
      have sB := same_new (o := .tup [.int (i : Nat), .int b0]) n2
      have sC := same_new (o := .lst [V.ref t1, .ref t2]) nr
      have sD := same_new (o := .tup [V.ref r, .ref p]) nt
      have sAC := sA.trans (sB.trans sC)
      have pr : p ≠ r := fun z => by
        obtain ⟨xs4, hp4, _⟩ := g4.ls
        have := sB _ _ (sA _ _ hp4)
        rw [z, nr] at this
        cases this
      have nrH : H3 r = none := (g4.same.trans (sA.trans sB)).free nr
      refine q _ t a0 b0 g (g4.same.trans (sAC.trans sD)) ⟨r, p, upd_same, pr.symm, ?_, g4.keep (sAC.trans sD)⟩
      refine Gr.keep ⟨g4.same.trans sAC, nrH, _, upd_same, ?_⟩ sD
      exact ta_cons (tp_tup (sC _ _ (sB _ _ upd_same)) (ta_cons tp_int (ta_cons tp_int ta_nil))) (ta_cons (tp_tup (sC _ _ upd_same) (ta_cons tp_int (ta_cons tp_int ta_nil))) ta_nil)
abbrev C_law_between (P : Program) (w : World) (K : PySem.W.Frag) (mg : Str → Option Value) (base : Heap) := Cal P w K mg base 1 "_law_between" ["_law_places", "_law_loop_here", "_law_stretch"] sp_law_between
def Due (i : Nat) (L : List Pl) (at_ way : Int) (how : Str) (sp : List Spot) (gs : Stops) : Prop :=
  (how = "short" ∧ ∃ a0 b0, Gap L a0 b0 at_ way ∧ sp = dueS (i : Int) L a0 (b0 - a0 - 1).toNat ∧ gs = gates i a0 b0) ∨
  (how = "cut" ∧ gs = [] ∧ ((way = 0 ∧ sp = []) ∨ (0 < way ∧ sp = dueC i at_ way ((spl L at_ : Int) + 1 - way).toNat)))
def sp_law_due : Sp := fun vs H Q _ => ∃ (v u : V) (Pn : Plan) (i : Nat) (L : List Pl) (at_ way : Int) (how : Str), vs = [v, u, .str how] ∧ Tp H (dPlan Pn) v ∧ PlanOk Pn ∧ Pn.loops[i]? = some L ∧ Tp H (dSpot ((i : Int), at_, way)) u ∧ (0 ≤ at_ ∧ at_ ≤ (L.length : Int)) ∧ 0 ≤ way ∧ (0 < way → 1 ≤ at_ ∧ way ≤ (spl L at_ : Int)) ∧ (how = "cut" ∨ how = "short") ∧
  ∀ (H' : Hp) (t : Addr) (sp : List Spot) (gs : Stops), Same H H' → Pr2 H H' t (sp.map dSpot) (gs.map dOp) → Due i L at_ way how sp gs → Q (.ref t) H'
theorem ok_law_due {f f1 : Addr} {fd fd1 : FuncData} (F0 : Fun K "_law_due" "_law_due" s_law_due f fd) (B : Blt mg) (c_law_between : C_law_between P w K mg base f1 fd1) : FnOk P w K mg base CX0 2 f fd ["_law_plan_here", "_law_stretch", "_law_how"] sp_law_due := by
  refine F0.ok sc_law_due (fun vs H Q E h => ?_) (fun cdv A outer s H vs Q E hr h => ?_)
  · obtain ⟨_, _, _, _, _, _, _, _, rfl, _⟩ := h
    rfl
  · obtain ⟨v, u, Pn, i, L, at_, way, how, rfl, hv, ok, eL, hu, ⟨at0, at1⟩, y0, yP, hhow, q⟩ := h
    have mL := List.mem_of_getElem? eL
    have l12 := ok.bnd.lens L mL
    have okL := ok.pls L mL
    obtain ⟨a, b, c, x0, x2, ls, ps, rfl, ha, hb, ec, hc, rp⟩ := plan_loop (K := K) hv eL
    obtain ⟨tu, rfl, htu⟩ := spot_key hu
    have htu : H tu = some (.tup [.int (i : Nat), .int at_, .int way]) := htu
    have nd := sc_law_due.nd
    refine ⟨_, (pss_cons (ps_asg (pv 1) (pg_tup rfl (pgs_cons (pg_name (i := 3) nd rfl (Or.inr rfl)) (pgs_cons (pg_name (i := 4) nd rfl (Or.inr rfl)) (pgs_cons (pg_name (i := 5) nd rfl (Or.inl rfl)) pgs_nil)))))
      (pss_cons (ps_set (i := 6) nd rfl (Or.inl rfl) (pe_ix (r := rIxT K) ix_tup (pe_ix (r := rIxT K) ix_tup (pv 0) pe_int (fun _ _ => rfl)) (pv 3) (fun _ _ => rfl)))
      (pss_cons (ps_asg (pe_call c_law_between.F (hr.mono (by decide)) (by rfl) c_law_between.g c_law_between.kp c_law_between.b .nil pass0 (pa_cons (pv 6) (pa_cons (pv 3) (pa_cons (pv 1) pa_nil)))) (pg_tup rfl (pgs_cons (pg_name (i := 7) nd rfl (Or.inl rfl)) (pgs_cons (pg_name (i := 8) nd rfl (Or.inl rfl)) pgs_nil))))
      (pss_cons (ps_if (pt_cmpR op_eq (pv 2) pe_str (nomark _))
        (pss_one (ps_ret (pe_tup (pa_cons (pv 8) (pa_cons (pv 7) pa_nil)))))
        pss_nil)
      (pss_cons (ps_if (pt_cmpR op_eq (pv 5) pe_int (nomark _))
        (pss_one (ps_ret (pe_tup (pa_cons (pe_lst pa_nil) (pa_cons (pe_lst pa_nil) pa_nil)))))
        pss_nil)
      (pss_one (ps_ret (pe_tup (pa_cons (pe_lc (own := [("_law_more", 9)]) rfl nd (pi_range2 (by rfl) B._range (pa_cons (pv 5) (pa_cons (pe_op op_add (pe_callB call_len_seq (by rfl) B._len boot_len (pa_cons (pe_ix (r := rIxT K) ix_tup (pe_ix (r := rIxT K) ix_tup (pv 6) (pe_op op_sub (pv 4) pe_int) (fun _ _ => rfl)) pe_int (fun _ _ => rfl)) pa_nil)) pe_int) pa_nil))) (blkOk_by (own := [("_law_more", 9)]) (N := n_law_due) (sc := defScope s_law_due) (by decide +kernel)) (fun _ _ _ _ _ => (pg_name (i := 9) nd rfl (Or.inl rfl))) (fun _ _ _ _ _ => pts_nil) (fun _ _ _ _ _ => (pe_tup (pa_cons (pv 3) (pa_cons (pv 4) (pa_cons (pv 9) pa_nil)))))) (pa_cons (pe_lst pa_nil) pa_nil)))))))))), ?_⟩
    refine ⟨_, rfl, tu, _, rfl, SqT.of htu, rfl, _, _, rfl, _, _, rfl, _, _, rfl, rfl, ?_⟩
    refine ⟨_, rfl, a, _, 1, _, rfl, rfl, SqT.of ha, rfl, _, rfl, b, _, (i : Nat), _, rfl, rfl, SqT.of hb, atI_nat ec, ?_⟩
    refine ⟨_, rfl, _, rfl, _, rfl, .ref c, .ref tu, i, L, at_, way, rfl, tp_tup hc rp, l12, okL, hu, ⟨at0, at1⟩, y0, yP, fun H1 t a0 b0 g s1 pr => ?_⟩
    obtain ⟨r1, r2, ht, n12, g1, g2⟩ := pr
    refine ⟨t, _, rfl, SqT.of ht, rfl, _, _, rfl, _, _, rfl, rfl, ?_⟩
    refine ⟨_, rfl, rfl, _, rfl, ?_⟩
    by_cases hs : how = "short"
    · rw [decide_eq_true (show V.str how = V.str "short" from congrArg V.str hs)]
      refine iteT ?_
      refine ⟨_, rfl, _, rfl, le_line (by show 2 ≤ 1000; decide), fun t2 n2 => ?_⟩
      have s2 := same_new (o := .tup [V.ref r2, .ref r1]) n2
      exact q _ t2 _ _ (s1.trans s2) ⟨r2, r1, upd_same, n12.symm, g2.keep s2, g1.keep s2⟩ (.inl ⟨hs, a0, b0, g, rfl, rfl⟩)
    rw [decide_eq_false (show ¬ V.str how = V.str "short" from fun z => hs (V.str.inj z))]
    refine iteF ?_
    have hc' : how = "cut" := hhow.resolve_right hs
    refine ⟨_, rfl, rfl, _, rfl, ?_⟩
    by_cases hw : way = 0
    · rw [decide_eq_true (show V.int way = V.int 0 from congrArg V.int hw)]
      refine iteT ?_
      refine ⟨Nat.zero_le _, fun p1 m1 => ⟨Nat.zero_le _, fun p2 m2 => ⟨le_line (by show 2 ≤ 1000; decide), fun t2 n2 => ?_⟩⟩⟩
      have k1 := Gr.new m1
      have sB := same_new (o := .lst []) m2
      have sC := same_new (o := .tup [V.ref p1, .ref p2]) n2
      have n12 : p1 ≠ p2 := ne_of_none (upd_same (H := H1) (a := p1) (o := .lst [])) m2
      have k2 : Gr H1 (upd (upd H1 p1 (.lst [])) p2 (.lst [])) p2 (([] : Stops).map dOp) := (Gr.new m2).base k1.same
      exact q _ t2 [] [] (s1.trans (k1.same.trans (sB.trans sC))) ⟨p1, p2, upd_same, n12, ((k1.keep sB).keep sC).base s1, (k2.keep sC).base s1⟩ (.inr ⟨hc', rfl, .inl ⟨hw, rfl⟩⟩)
    · rw [decide_eq_false (show ¬ V.int way = V.int 0 from fun z => hw (V.int.inj z))]
      refine iteF ?_
      have hw0 : 0 < way := by omega
      obtain ⟨yp1, yp2⟩ := yP hw0
      obtain ⟨j, rfl⟩ : ∃ j : Nat, at_ = (j : Int) + 1 := ⟨(at_ - 1).toNat, by omega⟩
      have hj : j < L.length := by omega
      have ex : L[j]? = some L[j] := List.getElem?_eq_getElem hj
      obtain ⟨y, ey, d, _, rfl, hd, _, _, rfl, rfl, _, _, rfl, rfl, _, _, rfl, ⟨e, ss, rfl, he, rs⟩, rfl⟩ := rp.get (i := j) (d := dPl L[j]) (by rw [List.getElem?_map, ex]; rfl)
      have lss : ss.length = spl L ((j : Int) + 1) := by
        rw [spl_at ex]
        exact tall_len rs
      have l3 := spl_le ok.bnd eL ((j : Int) + 1)
      refine ⟨_, rfl, _, rfl, _, rfl, _, _, rfl, rfl, c, _, _, _, rfl, rfl, SqT.of (s1 _ _ hc), by rw [show ((j : Int) + 1 - 1) = (j : Int) by omega]; exact atI_nat ey, d, _, 2, _, rfl, rfl, SqT.of (s1 _ _ hd), rfl, e, ss, rfl, .inr (SqT.of (s1 _ _ he)), _, _, rfl, rfl, _, _, rfl, ⟨by omega, by omega, by omega, by omega⟩, fun D nD => ?_⟩
      refine lc_it walk_range (fun k H8 => Gr H1 H8 D ((dueC (i : Int) ((j : Int) + 1) way k).map dSpot)) (Gr.new nD) (fun _ _ _ _ => trivial) ?_ ?_
      · rintro k y _ H8 hk g8 ⟨rfl, rfl⟩
        refine ⟨rfl, _, rfl, _, rfl, _, rfl, le_line (by show 3 ≤ 1000; decide), fun t1 nt1 => ?_⟩
        obtain ⟨xs8, hp8, rx8⟩ := g8.ls
        have sA := same_new (o := .tup [.int (i : Nat), .int ((j : Nat) + 1), .int (way + (k : Nat))]) nt1
        refine ⟨xs8, sA _ _ hp8, small_len rx8 (by unfold dueC; rw [List.length_map, List.length_map, List.length_range]; omega), ?_⟩
        unfold dueC
        rw [List.range_succ, List.map_append, List.map_append]
        exact Gr.app (g8.same.trans sA) g8.fresh (sA _ _ hp8) (rx8.mono (ts_of sA)) (d := dSpot (((i : Nat) : Int), (j : Int) + 1, way + (k : Int))) (tp_tup upd_same (ta_cons tp_int (ta_cons tp_int (ta_cons tp_int ta_nil))))
      · rintro H8 g8
        have en : ((((ss.length : Nat) : Int) + 1) - way).toNat = ((spl L ((j : Int) + 1) : Int) + 1 - way).toNat := by rw [lss]
        rw [en] at g8
        refine ⟨Nat.zero_le _, fun p2 m2 => ⟨le_line (by show 2 ≤ 1000; decide), fun t2 n2 => ?_⟩⟩
        have sB := same_new (o := .lst []) m2
        have sC := same_new (o := .tup [V.ref D, .ref p2]) n2
        obtain ⟨xs8, hp8, _⟩ := g8.ls
        have nDp : D ≠ p2 := ne_of_none hp8 m2
        have k2 : Gr H1 (upd H8 p2 (.lst [])) p2 (([] : Stops).map dOp) := (Gr.new m2).base g8.same
        exact q _ t2 _ [] (s1.trans (g8.same.trans (sB.trans sC))) ⟨D, p2, upd_same, nDp, ((g8.keep sB).keep sC).base s1, (k2.keep sC).base s1⟩ (.inr ⟨hc', rfl, .inr ⟨hw0, rfl⟩⟩)
abbrev C_law_due (P : Program) (w : World) (K : PySem.W.Frag) (mg : Str → Option Value) (base : Heap) := Cal P w K mg base 2 "_law_due" ["_law_plan_here", "_law_stretch", "_law_how"] sp_law_due
abbrev M_heard (P : Program) (w : World) (K : PySem.W.Frag) (mg : Str → Option Value) (base : Heap) (C : Addr) := Mal P w K mg base C 4 "heard" ["self", "loop", "end"] (sp_heard C)
theorem heardIn_mem {F : Hows} {G : Stops} {Ls : List (List Pl)} {i : Nat} {L : List Pl} {e : Str} {tt : List Spot} (pm : (heardIn F G Ls i L e).Perm tt) {s : Spot} (h : s ∈ spotsOf Ls) : s ∈ tt ↔ s ∈ heardM F G (i : Nat) L e := by
  rw [← pm.mem_iff]
  unfold heardIn
  rw [List.mem_filter, decide_eq_true_iff]
  exact ⟨fun z => z.1, fun z => ⟨z, h⟩⟩
def sp_law_silent (C : Addr) : Sp := fun vs H Q _ => ∃ (o h st dv tl : Addr) (v : V) (Pn : Plan) (F : Hows) (G : Stops) (kvs : List (List L2.Key × V)) (xs : List V), vs = [v, .ref o, .ref tl] ∧ WAt C H o v h st dv Pn F G kvs ∧ H tl = some (.lst xs) ∧ TpAll H ((spotsOf Pn.loops).map dSpot) xs ∧ ∀ H' r, Gr H H' r ((silentM F G Pn.loops).map dSpot) → Q (.ref r) H'
theorem ok_law_silent {f f1 : Addr} {fd fd1 : FuncData} (F0 : Fun K "_law_silent" "_law_silent" s_law_silent f fd) (B : Blt mg) (C : Wcl K mg cC) (c_heard : M_heard P w K mg base cC f1 fd1) : FnOk P w K mg base CX0 5 f fd ["_law_plan_here", "_law_wires", "_law_told"] (sp_law_silent cC) := by
  refine F0.ok sc_law_silent (fun vs H Q E h => ?_) (fun cdv A outer s H vs Q E hr h => ?_)
  · obtain ⟨_, _, _, _, _, _, _, _, _, _, _, rfl, _⟩ := h
    rfl
  · obtain ⟨o, h, st, dv, tl, v, Pn, Fh, Gs, kvs, xs, rfl, wa, htl, rtl, q⟩ := h
    have hu64 := hu64_of hr
    have hu65 := hu65_of hr
    have bd := wa.ok.bnd
    have l3 := bd.loops
    obtain ⟨a, b, x0, x2, ls, rfl, ha, e0, hb, rl, -⟩ := plan_loops wa.pl
    have ll : ls.length = Pn.loops.length := tall_len rl
    have lxs : xs.length = (spotsOf Pn.loops).length := tall_len rtl
    have l30 : (spotsOf Pn.loops).length ≤ 30 := by
      unfold spotsOf
      rw [List.length_map]
      exact wa.ok.few.2
    have nd := sc_law_silent.nd
    refine ⟨_, (pss_cons (ps_set (i := 3) nd rfl (Or.inl rfl) (pe_lst pa_nil))
      (pss_cons (ps_for PassesOwn.never rfl (pi_range1 (by rfl) B._range (pa_cons (pe_callB call_len_seq (by rfl) B._len boot_len (pa_cons (pe_ix (r := rIxT K) ix_tup (pv 0) pe_int (fun _ _ => rfl)) pa_nil)) pa_nil)) (pg_name (i := 4) nd rfl (Or.inr rfl))
        (pss_cons (ps_set (i := 5) nd rfl (Or.inr rfl) (pe_op op_cat (pe_meth (pv 1) C.cl c_heard.m c_heard.F (hr.mono (by decide)) c_heard.b .nil pass0 (pa_cons (pv 4) (pa_cons pe_str pa_nil))) (pe_meth (pv 1) C.cl c_heard.m c_heard.F (hr.mono (by decide)) c_heard.b .nil pass0 (pa_cons (pv 4) (pa_cons pe_str pa_nil)))))
        (pss_one (ps_expr (pe_bm PySem.F.plainAttrs_list PySem.F.slot_list_extend PySem.F.type_list_extend mt_extend (pv 3) (pa_cons (pe_lc (own := [("_law_spot", 6)]) rfl nd (pi_list (pv 2)) (blkOk_by (own := [("_law_spot", 6)]) (N := n_law_silent) (sc := defScope s_law_silent) (by decide +kernel)) (fun _ _ _ _ _ => (pg_name (i := 6) nd rfl (Or.inl rfl))) (fun _ _ _ _ _ => (pts_one (PW.pt (pw_and (pt_cmpR op_eq (pe_ix (r := rIxT K) ix_tup (pv 6) pe_int (fun _ _ => rfl)) (pv 4) (nomark _)) (pw_and1 (pt_cmpR (r := rNotInD K) (op_notInD hu65) (pv 6) (pv 5) (by rfl))))))) (fun _ _ _ _ _ => (pv 6))) pa_nil))))))
      (pss_one (ps_ret (pv 3))))), ?_⟩
    refine ⟨Nat.zero_le _, fun r nr => ?_⟩
    have g0 := Gr.new nr
    have s0 := g0.same
    refine ⟨_, rfl, a, _, 1, _, rfl, rfl, SqT.of (s0 _ _ ha), rfl, b, ls, rfl, .inr (SqT.of (s0 _ _ hb)), _, rfl, (by omega), (by omega), ?_⟩
    refine for_it walk_range (fun k σ H' => ∃ (y4 y5 y6 : Option V), σ = [some (.ref a), some (.ref o), some (.ref tl), some (.ref r), y4, y5, y6] ∧ Gr H H' r ((fmI (fun i L => (spotsOf Pn.loops).filter (quiet Fh Gs i L)) 0 (Pn.loops.take k)).map dSpot)) ⟨_, _, _, rfl, g0⟩ (fun _ _ _ _ _ => trivial) ?_ ?_
    · rintro k x σ _ H1 hk ⟨y4, y5, y6, rfl, g1⟩ ⟨rfl, hx⟩
      have hx : x = .int (k : Nat) := hx.trans (congrArg V.int (Int.zero_add _))
      subst hx
      have hk2 : k < Pn.loops.length := by omega
      have eL : Pn.loops[k]? = some Pn.loops[k] := List.getElem?_eq_getElem hk2
      generalize Pn.loops[k] = L at eL
      have wa1 := wa.mono g1.same
      obtain ⟨dx, eo⟩ := wa1.ob
      refine ⟨_, rfl, o, dx, _, rfl, eo, wf_no (by decide +kernel) (by decide +kernel) (by decide +kernel) (by decide +kernel), _, rfl, o, h, st, dv, _, Pn, Fh, Gs, kvs, k, L, "A", rfl, wa1, eL, fun H2 p2 t2 g2 pm2 pw2 => ?_⟩
      have wa2 := wa1.mono g2.same
      refine ⟨_, rfl, o, dx, _, rfl, g2.same _ _ eo, wf_no (by decide +kernel) (by decide +kernel) (by decide +kernel) (by decide +kernel), _, rfl, o, h, st, dv, _, Pn, Fh, Gs, kvs, k, L, "B", rfl, wa2, eL, fun H3 p3 t3 g3 pm3 pw3 => ?_⟩
      obtain ⟨xs2, hp2, rx2⟩ := (g2.keep g3.same).ls
      obtain ⟨xs3, hp3, rx3⟩ := g3.ls
      have sublen : ∀ {e : Str} {tt : List Spot}, (heardIn Fh Gs Pn.loops k L e).Perm tt → tt.length ≤ 30 := fun {e tt} pm => by
        rw [← pm.length_eq]
        refine Nat.le_trans (List.Nodup.length_le_of_subset ((heard_nd _ _ _ _ _).filter _) (fun s hs => ?_)) l30
        exact of_decide_eq_true (List.mem_filter.mp hs).2
      have l2 := sublen pm2
      have l3' := sublen pm3
      have lx2 : xs2.length = t2.length := tall_len rx2
      have lx3 : xs3.length = t3.length := tall_len rx3
      refine ⟨p2, p3, xs2, xs3, rfl, rfl, hp2, hp3, le_line (by omega), fun p4 n4 => ?_⟩
      have s4 := same_new (o := .lst (xs2 ++ xs3)) n4
      have hp4 : (upd H3 p4 (.lst (xs2 ++ xs3))) p4 = some (.lst (xs2 ++ xs3)) := upd_same
      have rx4 : TpAll (upd H3 p4 (.lst (xs2 ++ xs3))) ((t2 ++ t3).map dSpot) (xs2 ++ xs3) := by
        rw [List.map_append]
        exact (rx2.append rx3).mono (ts_of s4)
      have s14 := g2.same.trans (g3.same.trans s4)
      generalize upd H3 p4 (.lst (xs2 ++ xs3)) = H4 at s4 hp4 rx4 s14 ⊢
      have g4 := g1.keep s14
      obtain ⟨xs1, hr4, rx1⟩ := g4.ls
      have ht4 := g4.same _ _ htl
      have rt4 := rtl.mono (ts_of g4.same)
      refine ⟨_, rfl, .inl ⟨rfl, _, SqL.of hr4⟩, _, rfl, tl, rfl, ⟨_, SqL.of ht4⟩, fun D nD => ?_⟩
      refine lc_it (walk_list (xs := xs)) (fun i H5 => Gr H4 H5 D ((((spotsOf Pn.loops).take i).filter (quiet Fh Gs k L)).map dSpot)) (Gr.new nD) (fun i H5 _ g => SqL.of (g.same _ _ ht4)) ?_ ?_
      · rintro i x _ H5 hi g5 ⟨rfl, hx⟩
        obtain ⟨s, es, ts⟩ := tall_map rt4 hx
        have ms := List.mem_of_getElem? es
        have ts5 := ts.mono (ts_of g5.same)
        obtain ⟨t, rfl, ht⟩ := spot_key ts5
        have ht : H5 t = some (.tup [.int s.1, .int s.2.1, .int s.2.2]) := ht
        refine ⟨rfl, _, rfl, t, _, 0, _, rfl, rfl, SqT.of ht, rfl, _, rfl, rfl, _, rfl, ?_⟩
        rw [take_snoc es, List.filter_append]
        have qn : ∀ {b : Bool}, quiet Fh Gs k L s = false → [s].filter (quiet Fh Gs k L) = [] := fun {b} z => List.filter_cons_of_neg (by rw [z]; decide)
        by_cases h1 : s.1 = ((k : Nat) : Int)
        · rw [decide_eq_true (show V.int s.1 = V.int (k : Nat) from congrArg V.int h1)]
          refine iteT ?_
          refine ⟨_, rfl, _, rfl, dSpot s, _, ts5.dp, dp_list (g5.same _ _ hp4) (rx4.mono (ts_of g5.same)), shaped_of (flat_spot _), shaped_spots _, ?_⟩
          have mm : s ∈ t2 ++ t3 ↔ (s ∈ heardM Fh Gs (k : Nat) L "A" ∨ s ∈ heardM Fh Gs (k : Nat) L "B") := by
            rw [List.mem_append, heardIn_mem pm2 ms, heardIn_mem pm3 ms]
          by_cases h2 : s ∈ t2 ++ t3
          · rw [any_in eqv_spot h2]
            refine ⟨false, rfl, iteF ?_⟩
            rw [qn (b := false) (decide_eq_false fun z => z.2 (mm.mp h2)), List.append_nil]
            exact g5
          · rw [any_notin eqv_spot h2]
            refine ⟨true, rfl, iteT ?_⟩
            obtain ⟨ys, hD, rD⟩ := g5.ls
            refine ⟨_, rfl, ys, hD, small_len rD ?_, ?_⟩
            · rw [List.length_map]
              refine Nat.le_trans (List.length_filter_le _ _) ?_
              rw [List.length_take]
              omega
            · have e1 : [s].filter (quiet Fh Gs k L) = [s] := List.filter_cons_of_pos (decide_eq_true ⟨h1, fun z => h2 (mm.mpr z)⟩)
              rw [e1, List.map_append]
              exact Gr.app g5.same g5.fresh hD rD (d := dSpot s) ts5
        · rw [decide_eq_false (show ¬ V.int s.1 = V.int (k : Nat) from fun z => h1 (V.int.inj z))]
          refine iteF ?_
          rw [qn (b := false) (decide_eq_false fun z => h1 z.1), List.append_nil]
          exact g5
      · rintro H5 g5
        rw [lxs, List.take_length] at g5
        obtain ⟨ys, hD, rD⟩ := g5.ls
        have hr5 := g5.same _ _ hr4
        have lys : ys.length ≤ 30 := by
          rw [rD.length, List.length_map]
          exact Nat.le_trans (List.length_filter_le _ _) l30
        have lx1 : xs1.length ≤ 90 := by
          rw [rx1.length, List.length_map]
          have z := fmI_len (fun (i : Nat) (L : List Pl) => (spotsOf Pn.loops).filter (quiet Fh Gs i L)) 30 0 (Pn.loops.take k) fun i M _ => Nat.le_trans (List.length_filter_le _ _) l30
          rw [List.length_take] at z
          omega
        refine ⟨r, D, xs1, ys, rfl, rfl, hr5, hD, le_line (by omega), _, _, _, rfl, ?_⟩
        have e := fmI_take (fun (i : Nat) (L : List Pl) => (spotsOf Pn.loops).filter (quiet Fh Gs i L)) eL
        rw [e, List.map_append]
        exact Gr.ext (g4.same.trans g5.same) g4.fresh hr5 (rx1.mono (ts_of g5.same)) rD
    · rintro σ H1 ⟨y4, y5, y6, rfl, g1⟩
      have en : ((ls.length : Nat) : Int).toNat = Pn.loops.length := by omega
      rw [en, List.take_length] at g1
      exact ⟨_, rfl, q _ r g1⟩
abbrev C_law_silent (P : Program) (w : World) (K : PySem.W.Frag) (mg : Str → Option Value) (base : Heap) (C : Addr) := Cal P w K mg base 5 "_law_silent" ["_law_plan_here", "_law_wires", "_law_told"] (sp_law_silent C)
/-! ### the law -/
abbrev M_there (P : Program) (w : World) (K : PySem.W.Frag) (mg : Str → Option Value) (base : Heap) (C : Addr) := Mal P w K mg base C 1 "there" ["self"] (sp_there C)
abbrev M_come_to_rest (P : Program) (w : World) (K : PySem.W.Frag) (mg : Str → Option Value) (base : Heap) (C : Addr) := Mal P w K mg base C 5 "come_to_rest" ["self"] (sp_come_to_rest C)
/-- the class, as it is called -/
structure Wmk (P : Program) (w : World) (K : PySem.W.Frag) (mg : Str → Option Value) (base : Heap) (C : Addr) (f : Addr) (fd : FuncData) : Prop where
  F : FnOk P w K mg base CX0 7 f fd ["self", "plan"] (sp_init C)
  made : Mk K C f
  b : Binds K fd ["self", "plan"] []
/-- what is neither of the two dicts stands -/
def Kp (h st : Addr) (H H' : Hp) : Prop := ∀ b u, b ≠ h → b ≠ st → H b = some u → H' b = some u
theorem kp_of {h st : Addr} {H H' : Hp} (s : Same H H') : Kp h st H H' := fun b u _ _ e => s b u e
theorem Kp.trans {h st : Addr} {H H1 H2 : Hp} (s : Kp h st H H1) (t : Kp h st H1 H2) : Kp h st H H2 := fun b u n m e => t b u n m (s b u n m e)
theorem kp_h {h st : Addr} {H H' : Hp} (s : Ex h H H') : Kp h st H H' := fun b u n _ e => s b u n e
theorem kp_s {h st : Addr} {H H' : Hp} (s : Ex st H H') : Kp h st H H' := fun b u _ m e => s b u m e
theorem Kp.bag {h st p : Addr} {H H1 H2 : Hp} (s : Kp h st H H1) (n : H p = none) (t : Ex p H1 H2) : Kp h st H H2 := fun b u k m e => t b u (ne_of_none e n) (s b u k m e)
section
variable {H H' : Hp} {o h st dv : Addr} {v : V} {Pn : Plan} {F : Hows} {G : Stops} {kvs : List (List L2.Key × V)}
theorem WAt.exb {p : Addr} {xs : List V} (w : WAt cC H o v h st dv Pn F G kvs) (s : Ex p H H') (e : H p = some (.lst xs)) : WAt cC H' o v h st dv Pn F G kvs :=
  let ⟨dx, e1⟩ := w.ob
  have t : TS H H' := s.ts e (by intro _ z; cases z)
  ⟨⟨dx, s _ _ (ne_of e1 e (by intro z; cases z)) e1⟩, w.pl.mono t, w.ok, s _ _ (ne_of w.hh e (by intro z; cases z)) w.hh, s _ _ (ne_of w.hst e (by intro z; cases z)) w.hst, s _ _ (ne_of w.hdv e (by intro z; cases z)) w.hdv, kv_mono t w.kv, w.n1, w.n2, w.n3⟩
theorem WAt.kl (w : WAt cC H o v h st dv Pn F G kvs) (k : Kp h st H H') {a : Addr} {xs : List V} (e : H a = some (.lst xs)) : H' a = some (.lst xs) := k a _ (ne_of e w.hh (by intro z; cases z)) (ne_of e w.hst (by intro z; cases z)) e
theorem WAt.kts (w : WAt cC H o v h st dv Pn F G kvs) (k : Kp h st H H') : TS H H' := fun a xs e => k a _ (ne_of e w.hh (by intro z; cases z)) (ne_of e w.hst (by intro z; cases z)) e
theorem WAt.ksq (w : WAt cC H o v h st dv Pn F G kvs) (k : Kp h st H H') {a : Addr} {xs : List V} (e : SqL K H a xs) : SqL K H' a xs := by
  rcases e with (e | ⟨z, e⟩) | e
  · exact .inl (.inl (k a _ (ne_of e w.hh (by intro z; cases z)) (ne_of e w.hst (by intro z; cases z)) e))
  · exact .inl (.inr ⟨z, k a _ (ne_of e w.hh (by intro z; cases z)) (ne_of e w.hst (by intro z; cases z)) e⟩)
  · exact .inr e
end
def sp_law (K : PySem.W.Frag) : Sp := fun vs H Q _ => ∃ (a : Addr) (ns : List Int), vs = [.ref a] ∧ SqL K H a (ns.map V.int) ∧ ns.length ≤ 63 ∧ ∀ H', Q (.bl true) H'
theorem how_at {d : Int} (h0 : 0 ≤ d) (h1 : d < 2) : ∃ c : Str, atI [V.str "cut", .str "short"] d = some (.str c) ∧ (c = "cut" ∨ c = "short") := by
  have : d = 0 ∨ d = 1 := by omega
  rcases this with rfl | rfl
  · exact ⟨_, rfl, .inl rfl⟩
  · exact ⟨_, rfl, .inr rfl⟩
theorem ok_law {f f1 f2 f3 f4 f5 f6 f7 f8 f9 g1 g2 : Addr} {fd fd1 fd2 fd3 fd4 fd5 fd6 fd7 fd8 fd9 gd1 gd2 : FuncData} (F0 : Fun K "law" "law" s_law f fd) (B : Blt mg) (C : Wcl K mg cC)
    (c_law_bag : C_law_bag P w K mg base f1 fd1) (c_law_take : C_law_take P w K mg base f2 fd2) (c_law_plan : C_law_plan P w K mg base f3 fd3) (MW : Wmk P w K mg base cC f4 fd4) (c_there : M_there P w K mg base cC f5 fd5) (c_cut : M_cut P w K mg base cC f6 fd6) (c_short : M_short P w K mg base cC f7 fd7)
    (c_come_to_rest : M_come_to_rest P w K mg base cC f8 fd8) (c_law_due : C_law_due P w K mg base f9 fd9) (c_law_silent : C_law_silent P w K mg base cC g1 gd1) (c_parted : M_parted P w K mg base cC g2 gd2) {g4 g5 : Addr} {gd4 gd5 : FuncData} (c_mend : M_mend P w K mg base cC g4 gd4) (c_heard : M_heard P w K mg base cC g5 gd5) : FnOk P w K mg base CX0 9 f fd ["_law_script"] (sp_law K) := by
  refine F0.ok sc_law (fun vs H Q E h => ?_) (fun cdv A outer s H vs Q E hr h => ?_)
  · obtain ⟨_, _, rfl, _⟩ := h
    rfl
  · obtain ⟨a, ns, rfl, ha, l63, q⟩ := h
    have hu := hu1_of hr
    have hu64 := hu64_of hr
    have hu65 := hu65_of hr
    have nd := sc_law.nd
    refine ⟨_, (pss_cons (ps_set (i := 1) nd rfl (Or.inl rfl) (pe_call c_law_bag.F (hr.mono (by decide)) (by rfl) c_law_bag.g c_law_bag.kp c_law_bag.b .nil pass0 (pa_cons (pv 0) (pa_cons pe_int pa_nil))))
      (pss_cons (ps_set (i := 2) nd rfl (Or.inl rfl) (pe_call c_law_plan.F (hr.mono (by decide)) (by rfl) c_law_plan.g c_law_plan.kp c_law_plan.b .nil pass0 (pa_cons (pv 1) (pa_cons pe_int (pa_cons pe_int pa_nil)))))
      (pss_cons (ps_set (i := 3) nd rfl (Or.inl rfl) (pe_make MW.made MW.F (hr.mono (by decide)) (by rfl) C.g MW.b .nil pass0 (pa_cons (pv 2) pa_nil)))
      (pss_cons (ps_setLc (i := 4) (own := [("_law_spot", 13), ("_law_kind", 14), ("_law_address", 15)]) (g := (gTup K 3 (gCons (gName 13) (gCons (gName 14) (gCons (gName 15) gNil))))) rfl nd rfl rfl (sw_true rfl rfl rfl (by decide +kernel)) (pi_list (pe_meth0 (pv 3) C.cl c_there.m c_there.F (hr.mono (by decide)) c_there.b .nil pass0)) (blkOk_by (own := [("_law_spot", 13), ("_law_kind", 14), ("_law_address", 15)]) (N := n_law) (sc := defScope s_law) (by decide +kernel)) (fun _ _ _ _ _ => (pg_tup rfl (pgs_cons (pg_name (i := 13) nd rfl (Or.inl rfl)) (pgs_cons (pg_name (i := 14) nd rfl (Or.inl rfl)) (pgs_cons (pg_name (i := 15) nd rfl (Or.inl rfl)) pgs_nil))))) (fun _ _ _ _ _ => pts_nil) (fun _ _ _ _ _ => (pv 13)))
      (pss_cons (ps_for PassesOwn.never rfl (pi_range1 (by rfl) B._range (pa_cons (pe_callB (call_max2 rfl) (by rfl) B._max boot_max (pa_cons pe_int (pa_cons (pe_callB (call_min2 rfl) (by rfl) B._min boot_min (pa_cons pe_int (pa_cons (pe_callB call_len_seq (by rfl) B._len boot_len (pa_cons (pv 0) pa_nil)) pa_nil))) pa_nil))) pa_nil)) (pg_name (i := 5) nd rfl (Or.inl rfl))
        (pss_cons (ps_set (i := 1) nd rfl (Or.inl rfl) (pe_call c_law_bag.F (hr.mono (by decide)) (by rfl) c_law_bag.g c_law_bag.kp c_law_bag.b .nil pass0 (pa_cons (pv 0) (pa_cons (pv 5) pa_nil))))
        (pss_cons (ps_set (i := 6) nd rfl (Or.inr rfl) (pe_call c_law_take.F (hr.mono (by decide)) (by rfl) c_law_take.g c_law_take.kp c_law_take.b .nil pass0 (pa_cons (pv 1) (pa_cons (pe_callB call_len_seq (by rfl) B._len boot_len (pa_cons (pe_ix (r := rIxT K) ix_tup (pv 2) pe_int (fun _ _ => rfl)) pa_nil)) pa_nil))))
        (pss_cons (ps_set (i := 7) nd rfl (Or.inl rfl) (pe_call c_law_take.F (hr.mono (by decide)) (by rfl) c_law_take.g c_law_take.kp c_law_take.b .nil pass0 (pa_cons (pv 1) (pa_cons (pe_op op_add (pe_callB call_len_seq (by rfl) B._len boot_len (pa_cons (pe_ix (r := rIxT K) ix_tup (pe_ix (r := rIxT K) ix_tup (pv 2) pe_int (fun _ _ => rfl)) (pv 6) (fun _ _ => rfl)) pa_nil)) pe_int) pa_nil))))
        (pss_cons (ps_set (i := 8) nd rfl (Or.inl rfl) pe_int)
        (pss_cons (ps_mid (ps_if (pt_cmpR op_gt (pv 7) pe_int (nomark _))
          (pss_one (ps_set (i := 8) nd rfl (Or.inl rfl) (pe_call c_law_take.F (hr.mono (by decide)) (by rfl) c_law_take.g c_law_take.kp c_law_take.b .nil pass0 (pa_cons (pv 1) (pa_cons (pe_op op_add (pe_callB call_len_seq (by rfl) B._len boot_len (pa_cons (pe_ix (r := rIxT K) ix_tup (pe_ix (r := rIxT K) ix_tup (pe_ix (r := rIxT K) ix_tup (pe_ix (r := rIxT K) ix_tup (pv 2) pe_int (fun _ _ => rfl)) (pv 6) (fun _ _ => rfl)) (pe_op op_sub (pv 7) pe_int) (fun _ _ => rfl)) pe_int (fun _ _ => rfl)) pa_nil)) pe_int) pa_nil)))))
          pss_nil))
        (pss_cons (ps_set (i := 9) nd rfl (Or.inl rfl) (pe_ix (r := rIxL K) ix_list (pe_lst (pa_cons pe_str (pa_cons pe_str pa_nil))) (pe_call c_law_take.F (hr.mono (by decide)) (by rfl) c_law_take.g c_law_take.kp c_law_take.b .nil pass0 (pa_cons (pv 1) (pa_cons pe_int pa_nil))) (fun _ _ => rfl)))
        (pss_cons (ps_mid (ps_if (pt_cmpR op_eq (pv 9) pe_str (nomark _))
          (pss_one (ps_expr (pe_meth (pv 3) C.cl c_cut.m c_cut.F (hr.mono (by decide)) c_cut.b .nil pass0 (pa_cons (pe_tup (pa_cons (pv 6) (pa_cons (pv 7) (pa_cons (pv 8) pa_nil)))) pa_nil))))
          (pss_one (ps_expr (pe_meth (pv 3) C.cl c_short.m c_short.F (hr.mono (by decide)) c_short.b .nil pass0 (pa_cons (pe_tup (pa_cons (pv 6) (pa_cons (pv 7) (pa_cons (pv 8) pa_nil)))) pa_nil))))))
        (pss_cons (ps_expr (pe_meth0 (pv 3) C.cl c_come_to_rest.m c_come_to_rest.F (hr.mono (by decide)) c_come_to_rest.b .nil pass0))
        (pss_cons (ps_asg (pe_call c_law_due.F (hr.mono (by decide)) (by rfl) c_law_due.g c_law_due.kp c_law_due.b .nil pass0 (pa_cons (pv 2) (pa_cons (pe_tup (pa_cons (pv 6) (pa_cons (pv 7) (pa_cons (pv 8) pa_nil)))) (pa_cons (pv 9) pa_nil)))) (pg_tup rfl (pgs_cons (pg_name (i := 10) nd rfl (Or.inl rfl)) (pgs_cons (pg_name (i := 11) nd rfl (Or.inl rfl)) pgs_nil))))
        (pss_cons (ps_if (PW.pt (pw_or (pt_cmpR (r := rNeD K) (op_neD hu64) (pe_call c_law_silent.F (hr.mono (by decide)) (by rfl) c_law_silent.g c_law_silent.kp c_law_silent.b .nil pass0 (pa_cons (pv 2) (pa_cons (pv 3) (pa_cons (pv 4) pa_nil)))) (pv 10) (nomark _)) (pw_or1 (pt_cmpR (r := rNeD K) (op_neD hu64) (pe_meth0 (pv 3) C.cl c_parted.m c_parted.F (hr.mono (by decide)) c_parted.b .nil pass0) (pv 11) (nomark _)))))
          (pss_one (ps_ret pe_bl))
          pss_nil)
        (pss_cons (ps_expr (pe_meth (pv 3) C.cl c_mend.m c_mend.F (hr.mono (by decide)) c_mend.b .nil pass0 (pa_cons (pe_tup (pa_cons (pv 6) (pa_cons (pv 7) (pa_cons (pv 8) pa_nil)))) pa_nil)))
        (pss_cons (ps_expr (pe_meth0 (pv 3) C.cl c_come_to_rest.m c_come_to_rest.F (hr.mono (by decide)) c_come_to_rest.b .nil pass0))
        (pss_one (ps_for PassesOwn.never rfl (pi_range1 (by rfl) B._range (pa_cons (pe_callB call_len_seq (by rfl) B._len boot_len (pa_cons (pe_ix (r := rIxT K) ix_tup (pv 2) pe_int (fun _ _ => rfl)) pa_nil)) pa_nil)) (pg_name (i := 6) nd rfl (Or.inr rfl))
          (pss_cons (ps_setLc (i := 12) (own := [("_law_spot", 13)]) rfl nd rfl rfl (sw_true rfl rfl rfl (by decide +kernel)) (pi_list (pv 4)) (blkOk_by (own := [("_law_spot", 13)]) (N := n_law) (sc := defScope s_law) (by decide +kernel)) (fun _ _ _ _ _ => (pg_name (i := 13) nd rfl (Or.inl rfl))) (fun _ _ _ _ _ => (pts_one (pt_cmpR op_eq (pe_ix (r := rIxT K) ix_tup (pv 13) pe_int (fun _ _ => rfl)) (pv 6) (nomark _)))) (fun _ _ _ _ _ => (pv 13)))
          (pss_one (ps_if (PW.pt (pw_or (pt_cmpR (r := rNeD K) (op_neD hu64) (pe_meth (pv 3) C.cl c_heard.m c_heard.F (hr.mono (by decide)) c_heard.b .nil pass0 (pa_cons (pv 6) (pa_cons pe_str pa_nil))) (pv 12) (nomark _)) (pw_or (pt_cmpR (r := rNeD K) (op_neD hu64) (pe_meth (pv 3) C.cl c_heard.m c_heard.F (hr.mono (by decide)) c_heard.b .nil pass0 (pa_cons (pv 6) (pa_cons pe_str pa_nil))) (pv 12) (nomark _)) (pw_or1 (pt_cmpR (r := rNeD K) (op_neD hu64) (pe_meth0 (pv 3) C.cl c_parted.m c_parted.F (hr.mono (by decide)) c_parted.b .nil pass0) (pe_lst pa_nil) (nomark _))))))
            (pss_one (ps_ret pe_bl))
            pss_nil))))))))))))))))))
      (pss_one (ps_ret pe_bl))))))), ?_⟩
    -- bag, plan
    refine ⟨_, rfl, a, ns, 0, rfl, ha, by decide, fun H1 p1 s1 n1 b1 => ?_⟩
    refine ⟨_, rfl, p1, rfl, b1, fun H2 v Pn e2 ok tv => ?_⟩
    have ha1 := sql_keep ha (s1 a)
    have ha2 : SqL K H2 a (ns.map V.int) := by
      refine sql_keep ha fun o e => e2 _ _ (ne_of_none e n1) (s1 _ _ e)
    -- wires
    refine ⟨_, rfl, fun x dx nx ndx ne => ⟨x, dx, v, Pn, rfl, upd_same, (tv.mono (ts_new ndx)).mono (ts_new ((upd_ne ne.symm).trans nx)), ok, fun H3 h st dv kvs e3 w3 => ⟨rfl, ?_⟩⟩⟩
    have ha3 : SqL K H3 a (ns.map V.int) := by
      refine sql_keep ha2 fun o e => e3 _ _ (ne_of_none e nx) ((upd_ne (ne_of_none e nx)).trans ((upd_ne (ne_of_none e ndx)).trans e))
    clear e3 tv ha1 ha2 e2 b1 n1 s1
    have bd := ok.bnd
    -- told
    obtain ⟨dx3, eo3⟩ := w3.ob
    refine ⟨_, rfl, x, dx3, _, rfl, eo3, wf_no (by decide +kernel) (by decide +kernel) (by decide +kernel) (by decide +kernel), x, h, st, dv, v, Pn, [], [], kvs, rfl, w3, fun H4 p4 g4 => ?_⟩
    obtain ⟨xs4, hp4, rx4⟩ := g4.ls
    refine ⟨p4, rfl, ⟨_, SqL.of hp4⟩, fun tl ntl => ?_⟩
    refine lc_it (walk_list (xs := xs4)) (fun i H5 => Gr H4 H5 tl (((spotsOf Pn.loops).take i).map dSpot)) (Gr.new ntl) (fun i H5 _ g => SqL.of (g.same _ _ hp4)) ?_ ?_
    · rintro i y _ H5 hi g5 ⟨rfl, hx⟩
      obtain ⟨d, ed, td⟩ := tall_map rx4 hx
      obtain ⟨t, sv, rfl, ht, hs⟩ := devAt_of (td.mono (ts_of g5.same))
      refine ⟨t, _, rfl, SqT.of ht, rfl, _, _, rfl, _, _, rfl, _, _, rfl, rfl, rfl, ?_⟩
      obtain ⟨ys, hD, rD⟩ := g5.ls
      have few := ok.few.2
      refine ⟨_, rfl, ys, hD, small_len rD ?_, ?_⟩
      · unfold spotsOf
        rw [List.length_map, List.length_take, List.length_map]
        omega
      · have es : (spotsOf Pn.loops)[i]? = some d.1 := by
          unfold spotsOf
          rw [List.getElem?_map, ed]
          rfl
        rw [take_snoc es, List.map_append]
        exact Gr.app g5.same g5.fresh hD rD (d := dSpot d.1) hs
    rintro H5 g5
    have len4 : xs4.length = (spotsOf Pn.loops).length := by
      unfold spotsOf
      rw [tall_len rx4, List.length_map]
    rw [len4, List.take_length] at g5
    obtain ⟨xs, htl, rtl⟩ := g5.ls
    have lxs : xs.length = (spotsOf Pn.loops).length := tall_len rtl
    have l30 : (spotsOf Pn.loops).length ≤ 30 := by
      unfold spotsOf
      rw [List.length_map]
      exact ok.few.2
    have s35 := g4.same.trans g5.same
    have w5 := w3.mono s35
    have ha5 := sql_keep ha3 (s35 a)
    -- the faults
    refine ⟨_, rfl, a, _, rfl, .inl ha5, 12, _, rfl, 1, _, rfl, _, rfl, ?_, ?_, ?_⟩
    · split <;> split <;> omega
    · split <;> split <;> omega
    refine for_it walk_range (fun k σ H' => ∃ (y1 y5 y6 y7 y8 y9 y10 y11 y12 y13 y14 y15 : Option V), σ = [some (.ref a), y1, some v, some (.ref x), some (.ref tl), y5, y6, y7, y8, y9, y10, y11, y12, y13, y14, y15] ∧ WAt cC H' x v h st dv Pn [] [] kvs ∧ SqL K H' a (ns.map V.int) ∧ H' tl = some (.lst xs) ∧ TpAll H' ((spotsOf Pn.loops).map dSpot) xs)
      ⟨_, _, _, _, _, _, _, _, _, _, _, _, rfl, w5, ha5, htl, rtl⟩ (fun _ _ _ _ _ => trivial) ?_ ?_
    · rintro k y σ _ H6 hk ⟨y1, y5, y6, y7, y8, y9, y10, y11, y12, y13, y14, y15, rfl, w6, ha6, htl6, rtl6⟩ ⟨rfl, hy⟩
      have hy : y = .int (k : Nat) := hy.trans (congrArg V.int (Int.zero_add _))
      subst hy
      have k12 : k < 64 := by
        have : k < 12 + 1 := by
          split at hk <;> split at hk <;> omega
        omega
      -- bag
      refine ⟨_, rfl, _, rfl, a, ns, k, rfl, ha6, k12, fun H7 p s7 np b7 => ?_⟩
      have kp7 : Kp h st H6 H7 := kp_of s7
      have w7 := w6.mono s7
      -- loop_here
      obtain ⟨pa, pb, x0, x2, ls, rfl, hpa, e0, hpb, rl, -⟩ := plan_loops w6.pl
      have ll : ls.length = Pn.loops.length := tall_len rl
      have l3 := bd.loops
      have l1 := ok.loops.1
      refine ⟨_, rfl, _, rfl, pa, _, 1, _, rfl, rfl, SqT.of (s7 _ _ hpa), rfl, pb, ls, rfl, .inr (SqT.of (s7 _ _ hpb)), p, _, 0, rfl, b7, by omega, ⟨by omega, by omega⟩, fun H8 d8 e8 b8 d80 d81 => ?_⟩
      obtain ⟨i, rfl⟩ : ∃ i : Nat, d8 = (i : Int) := ⟨d8.toNat, by omega⟩
      have kp8 : Kp h st H6 H8 := kp7.bag np e8
      have t8 : TS H6 H8 := w6.kts kp8
      have hi : i < Pn.loops.length := by omega
      have eL : Pn.loops[i]? = some Pn.loops[i] := List.getElem?_eq_getElem hi
      have mL := List.getElem_mem hi
      generalize Pn.loops[i] = L at eL mL
      have okL := ok.pls L mL
      have l12 := bd.lens L mL
      obtain ⟨vL, evL, pc', ps, rfl, hpc, rps⟩ := rl.get (i := i) (d := dLoop L) (by rw [List.getElem?_map, eL]; rfl)
      have lp : ps.length = L.length := tall_len rps
      -- at
      refine ⟨_, rfl, _, rfl, pa, _, 1, _, rfl, rfl, SqT.of (t8 _ _ hpa), rfl, _, rfl, pb, _, (i : Nat), _, rfl, rfl, SqT.of (t8 _ _ hpb), atI_nat evL, pc', ps, rfl, .inr (SqT.of (t8 _ _ hpc)), _, _, rfl, rfl, p, _, _, rfl, b8, by omega, ⟨by omega, by omega⟩, fun H9 at_ e9 b9 at0 at1 => ?_⟩
      have kp9 : Kp h st H6 H9 := kp8.bag np e9
      have t9 : TS H6 H9 := w6.kts kp9
      have at1 : at_ ≤ (L.length : Int) := by omega
      -- way
      refine ⟨fun σ H' => ∃ (way : Int), σ = [some (.ref a), some (.ref p), some (.ref pa), some (.ref x), some (.ref tl), some (.int (k : Nat)), some (.int (i : Nat)), some (.int at_), some (.int way), y9, y10, y11, y12, y13, y14, y15] ∧ Kp h st H6 H' ∧ BagN H' p 3 ∧ Ex p H7 H' ∧ 0 ≤ way ∧ (0 < way → 1 ≤ at_ ∧ way ≤ (spl L at_ : Int)), ?_, ?_⟩
      · refine ⟨_, rfl, _, _, rfl, rfl, _, rfl, ?_⟩
        by_cases hat : 0 < at_
        · rw [decide_eq_true hat]
          refine iteT ?_
          obtain ⟨j, rfl⟩ : ∃ j : Nat, at_ = (j : Int) + 1 := ⟨(at_ - 1).toNat, by omega⟩
          have hj : j < L.length := by omega
          have ex : L[j]? = some L[j] := List.getElem?_eq_getElem hj
          obtain ⟨vd, evd, d, _, rfl, hd, _, _, rfl, rfl, _, _, rfl, rfl, _, _, rfl, ⟨e, ss, rfl, he, rs⟩, rfl⟩ := rps.get (i := j) (d := dPl L[j]) (by rw [List.getElem?_map, ex]; rfl)
          have lss : ss.length = spl L ((j : Int) + 1) := by
            rw [spl_at ex]
            exact tall_len rs
          have s3 := spl_le bd eL ((j : Int) + 1)
          refine ⟨_, rfl, _, rfl, pa, _, 1, _, rfl, rfl, SqT.of (t9 _ _ hpa), rfl, _, rfl, pb, _, (i : Nat), _, rfl, rfl, SqT.of (t9 _ _ hpb), atI_nat evL, _, rfl, _, _, rfl, rfl, pc', _, _, _, rfl, rfl, SqT.of (t9 _ _ hpc), by rw [show ((j : Int) + 1 - 1) = (j : Int) by omega]; exact atI_nat evd, d, _, 2, _, rfl, rfl, SqT.of (t9 _ _ hd), rfl, e, ss, rfl, .inr (SqT.of (t9 _ _ he)), _, _, rfl, rfl, p, _, _, rfl, b9, by omega, ⟨by omega, by omega⟩, fun H10 way e10 b10 w0 w1 => ?_⟩
          exact ⟨way, rfl, kp9.bag np e10, b10, (e8.trans e9).trans e10, w0, fun _ => ⟨by omega, by omega⟩⟩
        · rw [decide_eq_false hat]
          exact iteF ⟨0, rfl, kp9, b9.le (by omega), e8.trans e9, Int.le_refl _, fun z => absurd z (by decide)⟩
      rintro σ H10 ⟨way, rfl, kp10, b10, e10, y0, yP⟩
      -- how
      refine ⟨le_line (by show 2 ≤ 1000; decide), fun t nt => ?_⟩
      have sA := same_new (o := .lst [V.str "cut", .str "short"]) nt
      have htA : (upd H10 t (.lst [V.str "cut", .str "short"])) t = some (.lst [V.str "cut", .str "short"]) := upd_same
      generalize upd H10 t (.lst [V.str "cut", .str "short"]) = H11 at sA htA ⊢
      obtain ⟨bx10, hp10⟩ := b10.ls
      have hpt : p ≠ t := ne_of_none hp10 nt
      refine ⟨_, rfl, p, 2, _, rfl, b10.keep sA, by omega, ⟨by decide, by decide⟩, fun H12 d12 e12 b12 d120 d121 => ?_⟩
      obtain ⟨how, ehow, hhow⟩ := how_at d120 d121
      refine ⟨t, _, _, _, rfl, rfl, SqL.of (e12 _ _ hpt.symm htA), ehow, ?_⟩
      have e712 : Ex p H7 H12 := (e10.trans (ex_of sA)).trans e12
      have kp12 : Kp h st H6 H12 := kp7.bag np e712
      have w12 : WAt cC H12 x (.ref pa) h st dv Pn [] [] kvs := by
        obtain ⟨bx7, hp7⟩ := b7.ls
        exact w7.exb e712 hp7
      have sIn : ((i : Int), at_, way) ∈ strOf Pn.loops := by
        refine strOf_in.mpr ⟨i, L, eL, ?_⟩
        by_cases hat : 0 < at_
        · right
          have hj : (at_ - 1).toNat < L.length := by omega
          have ex : L[(at_ - 1).toNat]? = some L[(at_ - 1).toNat] := List.getElem?_eq_getElem hj
          refine ⟨(at_ - 1).toNat, _, way.toNat, ex, ?_, ?_⟩
          · by_cases hw : 0 < way
            · have := (yP hw).2
              rw [show at_ = (((at_ - 1).toNat : Nat) : Int) + 1 by omega, spl_at ex] at this
              omega
            · omega
          · rw [show (((at_ - 1).toNat : Nat) : Int) + 1 = at_ by omega, show ((way.toNat : Nat) : Int) = way by omega]
        · left
          have hw : way = 0 := by
            by_cases hw : 0 < way
            · have := (yP hw).1; omega
            · omega
          rw [hw, show at_ = 0 by omega]
      -- the fault
      refine ⟨fun σ H' => σ = [some (.ref a), some (.ref p), some (.ref pa), some (.ref x), some (.ref tl), some (.int (k : Nat)), some (.int (i : Nat)), some (.int at_), some (.int way), some (.str how), y10, y11, y12, y13, y14, y15] ∧ Kp h st H6 H' ∧ WAt cC H' x (.ref pa) h st dv Pn [(((i : Int), at_, way), how)] [] kvs, ?_, ?_⟩
      · refine ⟨_, rfl, rfl, _, rfl, ?_⟩
        obtain ⟨dx, eo⟩ := w12.ob
        rcases hhow with rfl | rfl
        · refine iteT ?_
          refine ⟨_, rfl, x, dx, _, rfl, eo, wf_no (by decide +kernel) (by decide +kernel) (by decide +kernel) (by decide +kernel), _, rfl, _, rfl, _, rfl, le_line (by show 3 ≤ 1000; decide), fun t2 n2 => ?_⟩
          have sB := same_new (o := .tup [V.int (i : Nat), .int at_, .int way]) n2
          refine ⟨x, h, st, dv, .ref t2, .ref pa, ((i : Int), at_, way), Pn, [], kvs, rfl, w12.mono sB, tp_tup upd_same (ta_cons tp_int (ta_cons tp_int (ta_cons tp_int ta_nil))), sIn, fun H14 e14 w14 => ?_⟩
          exact ⟨rfl, (kp12.trans (kp_of sB)).trans (kp_h e14), w14⟩
        · rw [decide_eq_false (show ¬ V.str "short" = V.str "cut" from fun z => s3 (V.str.inj z))]
          refine iteF ?_
          refine ⟨_, rfl, x, dx, _, rfl, eo, wf_no (by decide +kernel) (by decide +kernel) (by decide +kernel) (by decide +kernel), _, rfl, _, rfl, _, rfl, le_line (by show 3 ≤ 1000; decide), fun t2 n2 => ?_⟩
          have sB := same_new (o := .tup [V.int (i : Nat), .int at_, .int way]) n2
          refine ⟨x, h, st, dv, .ref t2, .ref pa, ((i : Int), at_, way), Pn, [], kvs, rfl, w12.mono sB, tp_tup upd_same (ta_cons tp_int (ta_cons tp_int (ta_cons tp_int ta_nil))), sIn, fun H14 e14 w14 => ?_⟩
          exact ⟨rfl, (kp12.trans (kp_of sB)).trans (kp_h e14), w14⟩
      clear w12 e712 kp12 b12 e12 htA sA hpt b10 e10 kp10 b9 e9 kp9 t9 b8 e8 kp8 t8
      rintro σ H12 ⟨rfl, kp12, w12⟩
      -- come to rest
      obtain ⟨dx, eo⟩ := w12.ob
      refine ⟨_, rfl, x, dx, _, rfl, eo, wf_no (by decide +kernel) (by decide +kernel) (by decide +kernel) (by decide +kernel), x, h, st, dv, _, Pn, _, [], kvs, rfl, w12, ⟨.nil, fun _ z => (by cases z)⟩, fun H13 r13 tt e13 pm13 pw13 w13 => ?_⟩
      have kp13 := kp12.trans (kp_s e13)
      -- due
      refine ⟨_, rfl, _, rfl, _, rfl, _, rfl, le_line (by show 3 ≤ 1000; decide), fun t2 n2 => ⟨_, rfl, ?_⟩⟩
      have sB := same_new (o := .tup [V.int (i : Nat), .int at_, .int way]) n2
      have tSp : Tp (upd H13 t2 (.tup [V.int (i : Nat), .int at_, .int way])) (dSpot ((i : Int), at_, way)) (.ref t2) := tp_tup upd_same (ta_cons tp_int (ta_cons tp_int (ta_cons tp_int ta_nil)))
      have w14 := w13.mono sB
      have kp14 := kp13.trans (kp_of sB)
      generalize upd H13 t2 (.tup [V.int (i : Nat), .int at_, .int way]) = H14 at sB tSp w14 kp14 ⊢
      refine ⟨.ref pa, .ref t2, Pn, i, L, at_, way, how, rfl, w14.pl, ok, eL, tSp, ⟨at0, at1⟩, y0, yP, hhow, fun H15 t3 sp gs s15 pr due => ?_⟩
      obtain ⟨r1, r2, ht3, n12, gr1, gr2⟩ := pr
      refine ⟨t3, _, rfl, SqT.of ht3, rfl, _, _, rfl, _, _, rfl, rfl, ?_⟩
      have w15 := w14.mono s15
      have kp15 := kp14.trans (kp_of s15)
      -- what has come to rest
      have facts : tt.foldl (actM [(((i : Int), at_, way), how)] Pn.loops) (rest1 [(((i : Int), at_, way), how)] Pn.loops []) = gs ∧ silentM [(((i : Int), at_, way), how)] gs Pn.loops = sp ∧ (gs.Pairwise fun x y => codeO x < codeO y) ∧ ∀ o ∈ gs, o ∈ opsOf Pn.loops := by
        rcases due with ⟨rfl, a0, b0, g, rfl, rfl⟩ | ⟨rfl, rfl, hsp⟩
        · have ab : a0 < b0 := by have := g.at0; have := g.at1; omega
          have r1 := rest1_short bd eL g
          rw [r1] at pm13 ⊢
          have ett : tt = gates i a0 b0 := sorted_eq (gates_lt ab) pm13 pw13
          subst ett
          refine ⟨rest2_short eL g, silent_short bd eL g, gates_lt ab, fun o ho => ?_⟩
          obtain ⟨o1, o2⟩ := o
          have hi : o1 = (i : Int) := by
            unfold gates at ho
            rcases List.mem_cons.mp ho with z | z
            · exact (Prod.ext_iff.mp z).1
            · exact (Prod.ext_iff.mp (List.mem_singleton.mp z)).1
          subst hi
          rcases gates_in.mp ho with rfl | rfl
          · exact (ops_isOp eL).mpr g.o0
          · exact (ops_isOp eL).mpr g.o1
        · have r1 := rest1_none (cut_not ((i : Int), at_, way)) Pn.loops []
          rw [r1] at pm13 ⊢
          have ett : tt = [] := List.Perm.eq_nil pm13.symm
          subst ett
          refine ⟨rfl, ?_, .nil, fun _ z => (by cases z)⟩
          rcases hsp with ⟨rfl, rfl⟩ | ⟨hw, rfl⟩
          · exact silent_cut0
          · exact silent_cut bd eL hw (yP hw).1 at1
      obtain ⟨fG, fS, fW, fO⟩ := facts
      rw [fG] at w15
      have subG : Sub Pn.loops gs := ⟨lt_nodup fW, fO⟩
      have lG := subG.len bd
      -- silent, parted
      have htl15 := w6.kl kp15 htl6
      have rtl15 := rtl6.mono (w6.kts kp15)
      refine ⟨_, rfl, _, rfl, _, rfl, x, h, st, dv, tl, _, Pn, _, gs, kvs, xs, rfl, w15, htl15, rtl15, fun H16 r16 g16 => ?_⟩
      rw [fS] at g16
      have w16 := w15.mono g16.same
      obtain ⟨z16, hz16, rz16⟩ := g16.ls
      obtain ⟨zr1, hzr1, rzr1⟩ := (gr1.keep g16.same).ls
      refine ⟨_, rfl, _, _, dp_list hz16 rz16, dp_list hzr1 rzr1, shaped_spots _, shaped_spots _, false, ?_, iteF ?_⟩
      · rw [eqv_spots, decide_eq_true rfl]
        rfl
      obtain ⟨dx, eo⟩ := w16.ob
      refine ⟨_, rfl, x, dx, _, rfl, eo, wf_no (by decide +kernel) (by decide +kernel) (by decide +kernel) (by decide +kernel), x, h, st, dv, _, Pn, _, gs, kvs, rfl, w16, Nat.lt_of_le_of_lt lG (by decide), ?_, fun H17 r17 tt2 g17 pm17 pw17 => ?_⟩
      · intro o ho
        obtain ⟨z1, z2⟩ := opsOf_bd bd (fO o ho)
        unfold BdO
        omega
      have ett2 : tt2 = gs := sorted_eq fW pm17 pw17
      subst ett2
      have w17 := w16.mono g17.same
      obtain ⟨z17, hz17, rz17⟩ := g17.ls
      obtain ⟨zr2, hzr2, rzr2⟩ := (gr2.keep (g16.same.trans g17.same)).ls
      refine ⟨_, rfl, _, _, dp_list hz17 rz17, dp_list hzr2 rzr2, shaped_ops _, shaped_ops _, false, ?_, iteF ?_⟩
      · rw [eqv_ops, decide_eq_true rfl]
        rfl
      have kp17 := kp15.trans (kp_of (g16.same.trans g17.same))
      -- mended
      obtain ⟨dx, eo⟩ := w17.ob
      refine ⟨_, rfl, x, dx, _, rfl, eo, wf_no (by decide +kernel) (by decide +kernel) (by decide +kernel) (by decide +kernel), _, rfl, _, rfl, _, rfl, le_line (by show 3 ≤ 1000; decide), fun t5 n5 => ?_⟩
      have sC := same_new (o := .tup [V.int (i : Nat), .int at_, .int way]) n5
      refine ⟨x, h, st, dv, .ref t5, .ref pa, ((i : Int), at_, way), how, Pn, tt2, kvs, rfl, w17.mono sC, tp_tup upd_same (ta_cons tp_int (ta_cons tp_int (ta_cons tp_int ta_nil))), sIn, fun H18 e18 w18 => ?_⟩
      have kp18 := (kp17.trans (kp_of sC)).trans (kp_h e18)
      -- come to rest
      obtain ⟨dx, eo⟩ := w18.ob
      refine ⟨_, rfl, x, dx, _, rfl, eo, wf_no (by decide +kernel) (by decide +kernel) (by decide +kernel) (by decide +kernel), x, h, st, dv, _, Pn, [], tt2, kvs, rfl, w18, subG, fun H19 r19 tt3 e19 pm19 pw19 w19 => ?_⟩
      have kp19 := kp18.trans (kp_s e19)
      rw [rest1_none nil_not] at pm19 w19
      rw [rest2_none nil_not Pn.loops tt3 tt2 (pm19.nodup_iff.mp subG.1) (fun o => pm19.mem_iff)] at w19
      have htl19 := w6.kl kp19 htl6
      have rtl19 := rtl6.mono (w6.kts kp19)
      have ha19 := w6.ksq kp19 ha6
      have hpa19 := w6.kts kp19 _ _ hpa
      have hpb19 := w6.kts kp19 _ _ hpb
      -- all is heard
      refine ⟨_, rfl, pa, _, 1, _, rfl, rfl, SqT.of hpa19, rfl, pb, ls, rfl, .inr (SqT.of hpb19), _, rfl, (by omega), (by omega), ?_⟩
      refine for_it walk_range (fun j σ H' => ∃ (y6 y12 y13 : Option V), σ = [some (.ref a), some (.ref p), some (.ref pa), some (.ref x), some (.ref tl), some (.int (k : Nat)), y6, some (.int at_), some (.int way), some (.str how), some (.ref r1), some (.ref r2), y12, y13, y14, y15] ∧ Same H19 H') ⟨_, _, _, rfl, Same.refl _⟩ (fun _ _ _ _ _ => trivial) ?_ ?_
      · rintro j z σ _ H20 hj ⟨y6, y12, y13, rfl, s20⟩ ⟨rfl, hz⟩
        have hz : z = .int (j : Nat) := hz.trans (congrArg V.int (Int.zero_add _))
        subst hz
        have hj2 : j < Pn.loops.length := by omega
        have eM : Pn.loops[j]? = some Pn.loops[j] := List.getElem?_eq_getElem hj2
        generalize Pn.loops[j] = M at eM
        have htl20 := s20 _ _ htl19
        have rtl20 := rtl19.mono (ts_of s20)
        -- own
        refine ⟨_, rfl, tl, rfl, ⟨_, SqL.of htl20⟩, fun D nD => ?_⟩
        refine lc_it (walk_list (xs := xs)) (fun c H21 => Gr H20 H21 D ((((spotsOf Pn.loops).take c).filter fun s => decide (s.1 = ((j : Nat) : Int))).map dSpot)) (Gr.new nD) (fun c H21 _ g => SqL.of (g.same _ _ htl20)) ?_ ?_
        · rintro c y _ H21 hc ⟨s21, fr, hg⟩ ⟨rfl, hx⟩
          obtain ⟨s, es, ts⟩ := tall_map rtl20 hx
          have ts5 := ts.mono (ts_of s21)
          obtain ⟨t, rfl, ht⟩ := spot_key ts5
          have ht : H21 t = some (.tup [.int s.1, .int s.2.1, .int s.2.2]) := ht
          refine ⟨rfl, _, rfl, t, _, 0, _, rfl, rfl, SqT.of ht, rfl, _, rfl, rfl, _, rfl, ?_⟩
          rw [take_snoc es, List.filter_append]
          by_cases h1 : s.1 = ((j : Nat) : Int)
          · rw [decide_eq_true (show V.int s.1 = V.int (j : Nat) from congrArg V.int h1)]
            refine iteT ?_
            obtain ⟨ys, hD, rD⟩ := hg
            refine ⟨_, rfl, ys, hD, small_len rD ?_, ?_⟩
            · rw [List.length_map]
              refine Nat.le_trans (List.length_filter_le _ _) ?_
              rw [List.length_take]
              omega
            · rw [List.filter_cons_of_pos (by exact decide_eq_true h1), List.map_append]
              exact Gr.app s21 fr hD rD (d := dSpot s) ts5
          · rw [decide_eq_false (show ¬ V.int s.1 = V.int (j : Nat) from fun z => h1 (V.int.inj z))]
            refine iteF ?_
            rw [List.filter_cons_of_neg (by rw [decide_eq_false h1]; decide), List.filter_nil, List.append_nil]
            exact ⟨s21, fr, hg⟩
        · rintro H21 g21
          rw [lxs, List.take_length] at g21
          have g21 : Gr H20 H21 D ((ownM Pn.loops j).map dSpot) := g21
          have w21 := w19.mono (s20.trans g21.same)
          obtain ⟨dx, eo⟩ := w21.ob
          obtain ⟨zo, hzo, rzo⟩ := g21.ls
          -- from A
          refine ⟨_, rfl, x, dx, _, rfl, eo, wf_no (by decide +kernel) (by decide +kernel) (by decide +kernel) (by decide +kernel), _, rfl, x, h, st, dv, _, Pn, [], [], kvs, j, M, "A", rfl, w21, eM, fun H22 p22 tA g22 pmA pwA => ?_⟩
          have etA := own_eq bd eM (.inl rfl) pmA pwA
          subst etA
          obtain ⟨zA, hzA, rzA⟩ := g22.ls
          refine ⟨_, rfl, _, _, dp_list hzA rzA, dp_list (g22.same _ _ hzo) (rzo.mono (ts_of g22.same)), shaped_spots _, shaped_spots _, false, ?_, iteF ?_⟩
          · rw [eqv_spots, decide_eq_true rfl]
            rfl
          -- from B
          have w22 := w21.mono g22.same
          refine ⟨_, rfl, x, dx, _, rfl, g22.same _ _ eo, wf_no (by decide +kernel) (by decide +kernel) (by decide +kernel) (by decide +kernel), _, rfl, x, h, st, dv, _, Pn, [], [], kvs, j, M, "B", rfl, w22, eM, fun H23 p23 tB g23 pmB pwB => ?_⟩
          have etB := own_eq bd eM (.inr rfl) pmB pwB
          subst etB
          obtain ⟨zB, hzB, rzB⟩ := g23.ls
          have s23 := g22.same.trans g23.same
          refine ⟨_, rfl, _, _, dp_list hzB rzB, dp_list (s23 _ _ hzo) (rzo.mono (ts_of s23)), shaped_spots _, shaped_spots _, false, ?_, iteF ?_⟩
          · rw [eqv_spots, decide_eq_true rfl]
            rfl
          -- none parted
          have w23 := w22.mono g23.same
          refine ⟨_, rfl, x, dx, _, rfl, s23 _ _ eo, wf_no (by decide +kernel) (by decide +kernel) (by decide +kernel) (by decide +kernel), x, h, st, dv, _, Pn, [], [], kvs, rfl, w23, by decide, fun _ z => (by cases z), fun H24 p24 tP g24 pmP pwP => ?_⟩
          have etP : tP = [] := List.Perm.eq_nil pmP.symm
          subst etP
          obtain ⟨zP, hzP, rzP⟩ := g24.ls
          refine ⟨Nat.zero_le _, fun p25 n25 => ?_⟩
          have s25 := same_new (o := .lst []) n25
          refine ⟨_, _, dp_list (s25 _ _ hzP) (rzP.mono (ts_of s25)), dp_list (ds := ([] : Stops).map dOp) upd_same ta_nil, shaped_ops _, shaped_ops _, false, ?_, iteF ?_⟩
          · rw [eqv_ops, decide_eq_true rfl]
            rfl
          exact ⟨_, _, _, rfl, s20.trans (g21.same.trans (s23.trans (g24.same.trans s25)))⟩
      · rintro σ H20 ⟨y6, y12, y13, rfl, s20⟩
        exact ⟨_, _, _, _, _, _, _, _, _, _, _, _, rfl, w19.mono s20, sql_keep ha19 (s20 a), s20 _ _ htl19, rtl19.mono (ts_of s20)⟩
    · rintro σ H6 ⟨y1, y5, y6, y7, y8, y9, y10, y11, y12, y13, y14, y15, rfl, w6, ha6, htl6, rtl6⟩
      exact q _
end
end K12
/-! K13: what the top has left. -/
namespace K12
open PySem PySem.Spec PyProof.Rows L2
/-- a def of the top -/
structure GD (K : PySem.W.Frag) (x qual : Str) (st : Stmt) (f : Addr) (fd : FuncData) : Prop where
  a : PySem.W.nsIn K mainGlobals x = some (some (.ref f))
  F : Fun K x qual st f fd
  k : PySem.W.keepIn K (.ref f) = true
theorem gd_mk {K : PySem.W.Frag} {x qual : Str} {st : Stmt} {f : Addr} {od an : Option Addr} {sl : Array (Option Value)} {oc kV dc pm cd ct : Value} (a : PySem.W.nsIn K mainGlobals x = some (some (.ref f)))
    (l : K.lookup f = some ⟨oc, od, .func (PySem.W.fnOf x qual (defArgs st) (defBody st) (defScope st) .none kV dc pm an cd ct), sl⟩) (c : PySem.W.codeIn K cd qual = true) (k : PySem.W.keepIn K (.ref f) = true) : ∃ f fd, GD K x qual st f fd := ⟨_, _, a, fun_mk l c k, k⟩
/-- a method -/
structure MD (K : PySem.W.Frag) (C : Addr) (x qual : Str) (st : Stmt) (f : Addr) (fd : FuncData) : Prop where
  m : Meth K C x f
  F : Fun K x qual st f fd
theorem md_mk {K : PySem.W.Frag} {C : Addr} {x qual : Str} {st : Stmt} {f : Addr} {od an : Option Addr} {sl : Array (Option Value)} {oc kV dc pm cd ct : Value} (a : PySem.W.findIn K (.ref C) x = some (some (.ref f))) (i : PySem.W.isFn K (.ref f) = true)
    (l : K.lookup f = some ⟨oc, od, .func (PySem.W.fnOf x qual (defArgs st) (defBody st) (defScope st) .none kV dc pm an cd ct), sl⟩) (c : PySem.W.codeIn K cd qual = true) (k : PySem.W.keepIn K (.ref f) = true) : ∃ f fd, MD K C x qual st f fd := ⟨_, _, ⟨a, i, k⟩, fun_mk l c k⟩
/-- law, and how it is handed its script -/
structure LD (K : PySem.W.Frag) (f : Addr) (fd : FuncData) : Prop where
  d : GD K "law" "law" s_law f fd
  b : ∀ (s : Shared) (v : Value), BindsTo s fd ⟨[v], []⟩ [("_law_script", v)]
theorem ld_mk {K : PySem.W.Frag} {f : Addr} {od an : Option Addr} {sl : Array (Option Value)} {oc kV dc pm cd ct : Value} (a : PySem.W.nsIn K mainGlobals "law" = some (some (.ref f)))
    (l : K.lookup f = some ⟨oc, od, .func (PySem.W.fnOf "law" "law" (defArgs s_law) (defBody s_law) (defScope s_law) .none kV dc pm an cd ct), sl⟩) (c : PySem.W.codeIn K cd "law" = true) (k : PySem.W.keepIn K (.ref f) = true) : ∃ f fd, LD K f fd := ⟨_, _, ⟨a, fun_mk l c k, k⟩, fun s v => .of_eq rfl⟩
theorem cs_mk {K : PySem.W.Frag} {x s : Str} {t : Tok} (e : PySem.W.nsIn K mainGlobals x = some (some (.str s t))) : ∃ t, PySem.W.nsIn K mainGlobals x = some (some (.str s t)) := ⟨t, e⟩
theorem ci_mk {K : PySem.W.Frag} {x : Str} {s : Int} {t : Tok} (e : PySem.W.nsIn K mainGlobals x = some (some (.int s t))) : ∃ t, PySem.W.nsIn K mainGlobals x = some (some (.int s t)) := ⟨t, e⟩
/-- a tuple of texts of the top -/
def TupTop (K : PySem.W.Frag) (x : Str) (xs : List Str) : Prop := ∃ a, PySem.W.nsIn K mainGlobals x = some (some (.ref a)) ∧ ∀ H : Hp, SqT K H a (xs.map V.str)
theorem kinds_mk {K : PySem.W.Frag} {a : Addr} {od : Option Addr} {sl : Array (Option Value)} {t1 t2 t3 t4 : Tok} {n : Nat} (e : PySem.W.nsIn K mainGlobals "KINDS" = some (some (.ref a)))
    (l : K.lookup a = some ⟨.type "tuple", od, .seq #[.str "seeker" t1, .str "knob" t2, .str "bell" t3, .str "door" t4] n, sl⟩) : TupTop K "KINDS" ["seeker", "knob", "bell", "door"] :=
  ⟨a, e, fun H => .inr ⟨_, _, _, l, rfl, rfl, le_line (by show 4 ≤ 1000; decide), .cons ⟨_, rfl⟩ (.cons ⟨_, rfl⟩ (.cons ⟨_, rfl⟩ (.cons ⟨_, rfl⟩ .nil)))⟩⟩
theorem told_mk' {K : PySem.W.Frag} {a : Addr} {od : Option Addr} {sl : Array (Option Value)} {t1 t2 : Tok} {n : Nat} (e : PySem.W.nsIn K mainGlobals "TOLD_BY" = some (some (.ref a)))
    (l : K.lookup a = some ⟨.type "tuple", od, .seq #[.str "seeker" t1, .str "knob" t2] n, sl⟩) : TupTop K "TOLD_BY" ["seeker", "knob"] :=
  ⟨a, e, fun H => .inr ⟨_, _, _, l, rfl, rfl, le_line (by show 2 ≤ 1000; decide), .cons ⟨_, rfl⟩ (.cons ⟨_, rfl⟩ .nil)⟩⟩

theorem all_mk {l : PySem.W.OpenLaw} {w : World} {K : PySem.W.Frag} {h : Heap} {mg : Str → Option Value} {fa C : Addr} (X : K.In h) (N : h.Ns mainGlobals mg) (hfa : mg "law" = some (.ref fa))
    (aC : PySem.W.nsIn K mainGlobals "Wires" = some (some (.ref C)))
    (d0 : ∃ f fd, GD K "is_whole" "is_whole" s_is_whole f fd)
    (d1 : ∃ f fd, GD K "is_name" "is_name" s_is_name f fd)
    (d2 : ∃ f fd, GD K "rises" "rises" s_rises f fd)
    (d3 : ∃ f fd, GD K "are_rising" "are_rising" s_are_rising f fd)
    (d4 : ∃ f fd, GD K "are_whole" "are_whole" s_are_whole f fd)
    (d5 : ∃ f fd, GD K "is_device" "is_device" s_is_device f fd)
    (d6 : ∃ f fd, GD K "is_place" "is_place" s_is_place f fd)
    (d7 : ∃ f fd, GD K "is_loop" "is_loop" s_is_loop f fd)
    (d8 : ∃ f fd, GD K "is_zone" "is_zone" s_is_zone f fd)
    (d9 : ∃ f fd, GD K "are_zones" "are_zones" s_are_zones f fd)
    (d10 : ∃ f fd, GD K "devices" "devices" s_devices f fd)
    (d11 : ∃ f fd, GD K "stretches" "stretches" s_stretches f fd)
    (d12 : ∃ f fd, GD K "openers" "openers" s_openers f fd)
    (d13 : ∃ f fd, GD K "parts" "parts" s_parts f fd)
    (d14 : ∃ f fd, GD K "is_plan" "is_plan" s_is_plan f fd)
    (d15 : ∃ f fd, GD K "told_twice" "told_twice" s_told_twice f fd)
    (d16 : ∃ f fd, GD K "crowded" "crowded" s_crowded f fd)
    (d17 : ∃ f fd, GD K "zone_at_odds" "zone_at_odds" s_zone_at_odds f fd)
    (d18 : ∃ f fd, GD K "wrong" "wrong" s_wrong f fd)
    (d19 : ∃ f fd, GD K "is_let_by" "is_let_by" s_is_let_by f fd)
    (d20 : ∃ f fd, GD K "spur_come_to" "spur_come_to" s_spur_come_to f fd)
    (d21 : ∃ f fd, GD K "come_to" "come_to" s_come_to f fd)
    (d22 : ∃ f fd, GD K "steps_of" "steps_of" s_steps_of f fd)
    (d23 : ∃ f fd, GD K "feels" "feels" s_feels f fd)
    (d24 : ∃ f fd, GD K "heard_by" "heard_by" s_heard_by f fd)
    (d25 : ∃ f fd, MD K C "__init__" "Wires.__init__" s_init f fd)
    (d26 : ∃ f fd, MD K C "need_stretch" "Wires.need_stretch" s_need_stretch f fd)
    (d27 : ∃ f fd, MD K C "cut" "Wires.cut" s_cut f fd)
    (d28 : ∃ f fd, MD K C "short" "Wires.short" s_short f fd)
    (d29 : ∃ f fd, MD K C "mend" "Wires.mend" s_mend f fd)
    (d30 : ∃ f fd, MD K C "there" "Wires.there" s_there f fd)
    (d31 : ∃ f fd, MD K C "parted" "Wires.parted" s_parted f fd)
    (d32 : ∃ f fd, MD K C "change" "Wires.change" s_change f fd)
    (d33 : ∃ f fd, MD K C "act" "Wires.act" s_act f fd)
    (d34 : ∃ f fd, MD K C "come_to_rest" "Wires.come_to_rest" s_come_to_rest f fd)
    (d35 : ∃ f fd, MD K C "heard" "Wires.heard" s_heard f fd)
    (d36 : ∃ f fd, GD K "_law_bag" "_law_bag" s_law_bag f fd)
    (d37 : ∃ f fd, GD K "_law_take" "_law_take" s_law_take f fd)
    (d38 : ∃ f fd, GD K "_law_name" "_law_name" s_law_name f fd)
    (d39 : ∃ f fd, GD K "_law_names" "_law_names" s_law_names f fd)
    (d40 : ∃ f fd, GD K "_law_loop" "_law_loop" s_law_loop f fd)
    (d41 : ∃ f fd, GD K "_law_parts" "_law_parts" s_law_parts f fd)
    (d42 : ∃ f fd, GD K "_law_plan" "_law_plan" s_law_plan f fd)
    (d43 : ∃ f fd, GD K "_law_between" "_law_between" s_law_between f fd)
    (d44 : ∃ f fd, GD K "_law_due" "_law_due" s_law_due f fd)
    (d45 : ∃ f fd, GD K "_law_silent" "_law_silent" s_law_silent f fd)
    (dl : ∃ f fd, LD K f fd)
    (pg : PySem.W.plainGet K C Str.empty = true) (hd : PySem.W.hasDictIn K C = true) (po : PySem.W.plainOver K C = true) (sa : PySem.W.findIn K (.ref C) "__setattr__" = some (some (.builtin "object.__setattr__"))) (mk : PySem.W.makesIn K C = true) (kc : PySem.W.keepIn K (.ref C) = true)
    (n0 : PySem.W.findIn K (.ref C) "plan" = some none) (n1 : PySem.W.findIn K (.ref C) "hows" = some none) (n2 : PySem.W.findIn K (.ref C) "stops" = some none) (n3 : PySem.W.findIn K (.ref C) "devices_there" = some none)
    (z0 : PySem.W.nsIn K mainGlobals "len" = some none) (z1 : PySem.W.nsIn K mainGlobals "isinstance" = some none) (z2 : PySem.W.nsIn K mainGlobals "all" = some none) (z3 : PySem.W.nsIn K mainGlobals "any" = some none) (z4 : PySem.W.nsIn K mainGlobals "max" = some none) (z5 : PySem.W.nsIn K mainGlobals "min" = some none) (z6 : PySem.W.nsIn K mainGlobals "abs" = some none) (z7 : PySem.W.nsIn K mainGlobals "int" = some none) (z8 : PySem.W.nsIn K mainGlobals "bool" = some none) (z9 : PySem.W.nsIn K mainGlobals "str" = some none) (z10 : PySem.W.nsIn K mainGlobals "tuple" = some none) (z11 : PySem.W.nsIn K mainGlobals "list" = some none) (z12 : PySem.W.nsIn K mainGlobals "dict" = some none) (z13 : PySem.W.nsIn K mainGlobals "set" = some none) (z14 : PySem.W.nsIn K mainGlobals "sorted" = some none) (z15 : PySem.W.nsIn K mainGlobals "range" = some none) (z16 : PySem.W.nsIn K mainGlobals "enumerate" = some none)
    (q0 : ∃ t, PySem.W.nsIn K mainGlobals "LETTERS" = some (some (.str "abcdefghijklmnopqrstuvwxyz" t))) (q1 : ∃ t, PySem.W.nsIn K mainGlobals "MOST_LETTERS" = some (some (.int 8 t))) (q2 : ∃ t, PySem.W.nsIn K mainGlobals "OPENER" = some (some (.str "opener" t))) (q3 : ∃ t, PySem.W.nsIn K mainGlobals "MOST_ADDRESS" = some (some (.int 99 t))) (q4 : ∃ t, PySem.W.nsIn K mainGlobals "MOST_DEVICES" = some (some (.int 30 t))) (q5 : ∃ t, PySem.W.nsIn K mainGlobals "MOST_LOOPS" = some (some (.int 3 t))) (q6 : ∃ t, PySem.W.nsIn K mainGlobals "MOST_PLACES" = some (some (.int 12 t))) (q7 : ∃ t, PySem.W.nsIn K mainGlobals "MOST_SPUR" = some (some (.int 3 t))) (q8 : ∃ t, PySem.W.nsIn K mainGlobals "MOST_ZONES" = some (some (.int 8 t))) (q9 : ∃ t, PySem.W.nsIn K mainGlobals "MOST_NUMBER" = some (some (.int 99 t)))
    (tk : TupTop K "KINDS" ["seeker", "knob", "bell", "door"]) (tt : TupTop K "TOLD_BY" ["seeker", "knob"]) :
    ∃ fd : FuncData, (∀ (s : Shared) (v : Value), BindsTo s fd ⟨[v], []⟩ [("_law_script", v)]) ∧ ∀ base : Heap, K.In base → base.Ns mainGlobals mg → FnOk l.prog w K mg base CX0 9 fa fd ["_law_script"] (sp_law K) := by
  obtain ⟨fl, fdl, DL⟩ := dl
  have e := hfa.symm.trans (PySem.W.mg_of X N DL.d.a)
  cases e
  obtain ⟨aK, eK, tK⟩ := tk
  obtain ⟨aT, eT, tT⟩ := tt
  have B : Blt mg := ⟨PySem.W.mg_none_of X N z0, PySem.W.mg_none_of X N z1, PySem.W.mg_none_of X N z2, PySem.W.mg_none_of X N z3, PySem.W.mg_none_of X N z4, PySem.W.mg_none_of X N z5, PySem.W.mg_none_of X N z6, PySem.W.mg_none_of X N z7, PySem.W.mg_none_of X N z8, PySem.W.mg_none_of X N z9, PySem.W.mg_none_of X N z10, PySem.W.mg_none_of X N z11, PySem.W.mg_none_of X N z12, PySem.W.mg_none_of X N z13, PySem.W.mg_none_of X N z14, PySem.W.mg_none_of X N z15, PySem.W.mg_none_of X N z16⟩
  have cs : ∀ {x : Str} {s : Str}, (∃ t, PySem.W.nsIn K mainGlobals x = some (some (.str s t))) → ∃ t, mg x = some (.str s t) := fun {x s} ⟨t, e⟩ => ⟨t, PySem.W.mg_of X N e⟩
  have ci : ∀ {x : Str} {s : Int}, (∃ t, PySem.W.nsIn K mainGlobals x = some (some (.int s t))) → ∃ t, mg x = some (.int s t) := fun {x s} ⟨t, e⟩ => ⟨t, PySem.W.mg_of X N e⟩
  have G : Con K mg aK aT := ⟨cs q0, ci q1, PySem.W.mg_of X N eK, PySem.W.mg_of X N eT, cs q2, ci q3, ci q4, ci q5, ci q6, ci q7, ci q8, ci q9, tK, tT⟩
  have CW : Wcl K mg C := ⟨⟨pg, hd, po, sa⟩, n0, n1, n2, n3, PySem.W.mg_of X N aC⟩
  refine ⟨fdl, DL.b, fun base _ _ => ?_⟩
  obtain ⟨f0, fd0, D0⟩ := d0
  have c_is_whole : C_is_whole l.prog w K mg base f0 fd0 := ⟨(ok_is_whole D0.F B ), PySem.W.mg_of X N D0.a, D0.k, (D0.F.binds (ps := ["thing", "least", "most"]) fun _ _ _ _ _ _ us hl => match us, hl with | [_, _, _], _ => rfl)⟩
  obtain ⟨f1, fd1, D1⟩ := d1
  have c_is_name : C_is_name l.prog w K mg base f1 fd1 := ⟨(ok_is_name D1.F B G ), PySem.W.mg_of X N D1.a, D1.k, (D1.F.binds (ps := ["thing"]) fun _ _ _ _ _ _ us hl => match us, hl with | [_], _ => rfl)⟩
  obtain ⟨f2, fd2, D2⟩ := d2
  have c_rises : Cal l.prog w K mg base 1 "rises" ["things"] sp_rises f2 fd2 := ⟨(ok_rises D2.F B ), PySem.W.mg_of X N D2.a, D2.k, (D2.F.binds (ps := ["things"]) fun _ _ _ _ _ _ us hl => match us, hl with | [_], _ => rfl)⟩
  obtain ⟨f3, fd3, D3⟩ := d3
  have c_are_rising : C_are_rising l.prog w K mg base f3 fd3 := ⟨(ok_are_rising D3.F B c_is_whole c_rises), PySem.W.mg_of X N D3.a, D3.k, (D3.F.binds (ps := ["thing", "many", "least", "most"]) fun _ _ _ _ _ _ us hl => match us, hl with | [_, _, _, _], _ => rfl)⟩
  obtain ⟨f4, fd4, D4⟩ := d4
  have c_are_whole : C_are_whole l.prog w K mg base f4 fd4 := ⟨(ok_are_whole D4.F B c_is_whole), PySem.W.mg_of X N D4.a, D4.k, (D4.F.binds (ps := ["thing", "many", "least", "most"]) fun _ _ _ _ _ _ us hl => match us, hl with | [_, _, _, _], _ => rfl)⟩
  obtain ⟨f5, fd5, D5⟩ := d5
  have c_is_device : C_is_device l.prog w K mg base f5 fd5 := ⟨(ok_is_device D5.F B G c_is_whole), PySem.W.mg_of X N D5.a, D5.k, (D5.F.binds (ps := ["thing"]) fun _ _ _ _ _ _ us hl => match us, hl with | [_], _ => rfl)⟩
  obtain ⟨f6, fd6, D6⟩ := d6
  have c_is_place : C_is_place l.prog w K mg base f6 fd6 := ⟨(ok_is_place D6.F B G c_is_whole c_is_device), PySem.W.mg_of X N D6.a, D6.k, (D6.F.binds (ps := ["thing"]) fun _ _ _ _ _ _ us hl => match us, hl with | [_], _ => rfl)⟩
  obtain ⟨f7, fd7, D7⟩ := d7
  have c_is_loop : C_is_loop l.prog w K mg base f7 fd7 := ⟨(ok_is_loop D7.F B G c_is_place), PySem.W.mg_of X N D7.a, D7.k, (D7.F.binds (ps := ["thing"]) fun _ _ _ _ _ _ us hl => match us, hl with | [_], _ => rfl)⟩
  obtain ⟨f8, fd8, D8⟩ := d8
  have c_is_zone : C_is_zone l.prog w K mg base f8 fd8 := ⟨(ok_is_zone D8.F B G c_is_name c_are_rising), PySem.W.mg_of X N D8.a, D8.k, (D8.F.binds (ps := ["thing"]) fun _ _ _ _ _ _ us hl => match us, hl with | [_], _ => rfl)⟩
  obtain ⟨f9, fd9, D9⟩ := d9
  have c_are_zones : C_are_zones l.prog w K mg base f9 fd9 := ⟨(ok_are_zones D9.F B G c_is_zone), PySem.W.mg_of X N D9.a, D9.k, (D9.F.binds (ps := ["thing"]) fun _ _ _ _ _ _ us hl => match us, hl with | [_], _ => rfl)⟩
  obtain ⟨f10, fd10, D10⟩ := d10
  have c_devices : C_devices l.prog w K mg base f10 fd10 := ⟨(ok_devices D10.F B G ), PySem.W.mg_of X N D10.a, D10.k, (D10.F.binds (ps := ["plan"]) fun _ _ _ _ _ _ us hl => match us, hl with | [_], _ => rfl)⟩
  obtain ⟨f11, fd11, D11⟩ := d11
  have c_stretches : C_stretches l.prog w K mg base f11 fd11 := ⟨(ok_stretches D11.F B G ), PySem.W.mg_of X N D11.a, D11.k, (D11.F.binds (ps := ["plan"]) fun _ _ _ _ _ _ us hl => match us, hl with | [_], _ => rfl)⟩
  obtain ⟨f12, fd12, D12⟩ := d12
  have c_openers : C_openers l.prog w K mg base f12 fd12 := ⟨(ok_openers D12.F B G ), PySem.W.mg_of X N D12.a, D12.k, (D12.F.binds (ps := ["plan"]) fun _ _ _ _ _ _ us hl => match us, hl with | [_], _ => rfl)⟩
  obtain ⟨f13, fd13, D13⟩ := d13
  have c_parts : C_parts l.prog w K mg base f13 fd13 := ⟨(ok_parts D13.F B G ), PySem.W.mg_of X N D13.a, D13.k, (D13.F.binds (ps := ["plan", "loop"]) fun _ _ _ _ _ _ us hl => match us, hl with | [_, _], _ => rfl)⟩
  obtain ⟨f14, fd14, D14⟩ := d14
  have c_is_plan : C_is_plan l.prog w K mg base f14 fd14 := ⟨(ok_is_plan D14.F B G c_is_whole c_is_loop c_are_zones c_devices), PySem.W.mg_of X N D14.a, D14.k, (D14.F.binds (ps := ["thing"]) fun _ _ _ _ _ _ us hl => match us, hl with | [_], _ => rfl)⟩
  obtain ⟨f15, fd15, D15⟩ := d15
  have c_told_twice : C_told_twice l.prog w K mg base f15 fd15 := ⟨(ok_told_twice D15.F B c_devices), PySem.W.mg_of X N D15.a, D15.k, (D15.F.binds (ps := ["plan"]) fun _ _ _ _ _ _ us hl => match us, hl with | [_], _ => rfl)⟩
  obtain ⟨f16, fd16, D16⟩ := d16
  have c_crowded : C_crowded l.prog w K mg base f16 fd16 := ⟨(ok_crowded D16.F B c_parts), PySem.W.mg_of X N D16.a, D16.k, (D16.F.binds (ps := ["plan"]) fun _ _ _ _ _ _ us hl => match us, hl with | [_], _ => rfl)⟩
  obtain ⟨f17, fd17, D17⟩ := d17
  have c_zone_at_odds : C_zone_at_odds l.prog w K mg base f17 fd17 := ⟨(ok_zone_at_odds D17.F B G c_devices), PySem.W.mg_of X N D17.a, D17.k, (D17.F.binds (ps := ["plan"]) fun _ _ _ _ _ _ us hl => match us, hl with | [_], _ => rfl)⟩
  obtain ⟨f18, fd18, D18⟩ := d18
  have c_wrong : C_wrong l.prog w K mg base f18 fd18 := ⟨(ok_wrong D18.F  c_told_twice c_crowded c_zone_at_odds), PySem.W.mg_of X N D18.a, D18.k, (D18.F.binds (ps := ["plan"]) fun _ _ _ _ _ _ us hl => match us, hl with | [_], _ => rfl)⟩
  obtain ⟨f19, fd19, D19⟩ := d19
  have c_is_let_by : C_is_let_by l.prog w K mg base f19 fd19 := ⟨(ok_is_let_by D19.F  c_is_plan c_wrong), PySem.W.mg_of X N D19.a, D19.k, (D19.F.binds (ps := ["thing"]) fun _ _ _ _ _ _ us hl => match us, hl with | [_], _ => rfl)⟩
  obtain ⟨f20, fd20, D20⟩ := d20
  have c_spur_come_to : C_spur_come_to l.prog w K mg base f20 fd20 := ⟨(ok_spur_come_to D20.F B ), PySem.W.mg_of X N D20.a, D20.k, (D20.F.binds (ps := ["plan", "hows", "loop", "at"]) fun _ _ _ _ _ _ us hl => match us, hl with | [_, _, _, _], _ => rfl)⟩
  obtain ⟨f21, fd21, D21⟩ := d21
  have c_come_to : C_come_to l.prog w K mg base f21 fd21 := ⟨(ok_come_to D21.F B c_spur_come_to), PySem.W.mg_of X N D21.a, D21.k, (D21.F.binds (ps := ["plan", "hows", "stops", "loop", "place", "step"]) fun _ _ _ _ _ _ us hl => match us, hl with | [_, _, _, _, _, _], _ => rfl)⟩
  obtain ⟨f22, fd22, D22⟩ := d22
  have c_steps_of : C_steps_of l.prog w K mg base f22 fd22 := ⟨(ok_steps_of D22.F B ), PySem.W.mg_of X N D22.a, D22.k, (D22.F.binds (ps := ["plan", "opener"]) fun _ _ _ _ _ _ us hl => match us, hl with | [_, _], _ => rfl)⟩
  obtain ⟨f23, fd23, D23⟩ := d23
  have c_feels : C_feels l.prog w K mg base f23 fd23 := ⟨(ok_feels D23.F B c_steps_of c_come_to), PySem.W.mg_of X N D23.a, D23.k, (D23.F.binds (ps := ["plan", "hows", "stops", "opener"]) fun _ _ _ _ _ _ us hl => match us, hl with | [_, _, _, _], _ => rfl)⟩
  obtain ⟨f24, fd24, D24⟩ := d24
  have c_heard_by : C_heard_by l.prog w K mg base f24 fd24 := ⟨(ok_heard_by D24.F B c_come_to), PySem.W.mg_of X N D24.a, D24.k, (D24.F.binds (ps := ["plan", "hows", "stops", "loop", "end"]) fun _ _ _ _ _ _ us hl => match us, hl with | [_, _, _, _, _], _ => rfl)⟩
  obtain ⟨f25, fd25, D25⟩ := d25
  have c_init : Wmk l.prog w K mg base C f25 fd25 := ⟨(ok_init D25.F B CW c_is_let_by c_devices), ⟨mk, D25.m.at_, D25.m.fn, kc⟩, (D25.F.binds (ps := ["self", "plan"]) fun _ _ _ _ _ _ us hl => match us, hl with | [_, _], _ => rfl)⟩
  obtain ⟨f26, fd26, D26⟩ := d26
  have c_need_stretch : M_need_stretch l.prog w K mg base C f26 fd26 := ⟨(ok_need_stretch D26.F B G CW c_are_whole c_stretches), D26.m, (D26.F.binds (ps := ["self", "stretch"]) fun _ _ _ _ _ _ us hl => match us, hl with | [_, _], _ => rfl)⟩
  obtain ⟨f27, fd27, D27⟩ := d27
  have c_cut : M_cut l.prog w K mg base C f27 fd27 := ⟨(ok_cut D27.F CW c_need_stretch), D27.m, (D27.F.binds (ps := ["self", "stretch"]) fun _ _ _ _ _ _ us hl => match us, hl with | [_, _], _ => rfl)⟩
  obtain ⟨f28, fd28, D28⟩ := d28
  have c_short : M_short l.prog w K mg base C f28 fd28 := ⟨(ok_short D28.F CW c_need_stretch), D28.m, (D28.F.binds (ps := ["self", "stretch"]) fun _ _ _ _ _ _ us hl => match us, hl with | [_, _], _ => rfl)⟩
  obtain ⟨f29, fd29, D29⟩ := d29
  have c_mend : M_mend l.prog w K mg base C f29 fd29 := ⟨(ok_mend D29.F CW c_need_stretch), D29.m, (D29.F.binds (ps := ["self", "stretch"]) fun _ _ _ _ _ _ us hl => match us, hl with | [_, _], _ => rfl)⟩
  obtain ⟨f30, fd30, D30⟩ := d30
  have c_there : M_there l.prog w K mg base C f30 fd30 := ⟨(ok_there D30.F B CW ), D30.m, (D30.F.binds (ps := ["self"]) fun _ _ _ _ _ _ us hl => match us, hl with | [_], _ => rfl)⟩
  obtain ⟨f31, fd31, D31⟩ := d31
  have c_parted : M_parted l.prog w K mg base C f31 fd31 := ⟨(ok_parted D31.F B CW ), D31.m, (D31.F.binds (ps := ["self"]) fun _ _ _ _ _ _ us hl => match us, hl with | [_], _ => rfl)⟩
  obtain ⟨f32, fd32, D32⟩ := d32
  have c_change : M_change l.prog w K mg base C f32 fd32 := ⟨(ok_change D32.F CW ), D32.m, (D32.F.binds (ps := ["self", "opener"]) fun _ _ _ _ _ _ us hl => match us, hl with | [_, _], _ => rfl)⟩
  obtain ⟨f33, fd33, D33⟩ := d33
  have c_act : M_act l.prog w K mg base C f33 fd33 := ⟨(ok_act D33.F G CW c_are_whole c_openers c_feels c_change), D33.m, (D33.F.binds (ps := ["self", "opener"]) fun _ _ _ _ _ _ us hl => match us, hl with | [_, _], _ => rfl)⟩
  obtain ⟨f34, fd34, D34⟩ := d34
  have c_come_to_rest : M_come_to_rest l.prog w K mg base C f34 fd34 := ⟨(ok_come_to_rest D34.F B CW c_openers c_feels c_change c_parted c_act), D34.m, (D34.F.binds (ps := ["self"]) fun _ _ _ _ _ _ us hl => match us, hl with | [_], _ => rfl)⟩
  obtain ⟨f35, fd35, D35⟩ := d35
  have c_heard : M_heard l.prog w K mg base C f35 fd35 := ⟨(ok_heard D35.F B CW c_heard_by), D35.m, (D35.F.binds (ps := ["self", "loop", "end"]) fun _ _ _ _ _ _ us hl => match us, hl with | [_, _, _], _ => rfl)⟩
  obtain ⟨f36, fd36, D36⟩ := d36
  have c_law_bag : C_law_bag l.prog w K mg base f36 fd36 := ⟨(ok_law_bag D36.F B ), PySem.W.mg_of X N D36.a, D36.k, (D36.F.binds (ps := ["_law_script", "_law_k"]) fun _ _ _ _ _ _ us hl => match us, hl with | [_, _], _ => rfl)⟩
  obtain ⟨f37, fd37, D37⟩ := d37
  have c_law_take : C_law_take l.prog w K mg base f37 fd37 := ⟨(ok_law_take D37.F  ), PySem.W.mg_of X N D37.a, D37.k, (D37.F.binds (ps := ["_law_bag_here", "_law_many"]) fun _ _ _ _ _ _ us hl => match us, hl with | [_, _], _ => rfl)⟩
  obtain ⟨f38, fd38, D38⟩ := d38
  have c_law_name : C_law_name l.prog w K mg base f38 fd38 := ⟨(ok_law_name D38.F B c_law_take), PySem.W.mg_of X N D38.a, D38.k, (D38.F.binds (ps := ["_law_bag_here"]) fun _ _ _ _ _ _ us hl => match us, hl with | [_], _ => rfl)⟩
  obtain ⟨f39, fd39, D39⟩ := d39
  have c_law_names : C_law_names l.prog w K mg base f39 fd39 := ⟨(ok_law_names D39.F B c_law_name), PySem.W.mg_of X N D39.a, D39.k, (D39.F.binds (ps := ["_law_bag_here", "_law_many"]) fun _ _ _ _ _ _ us hl => match us, hl with | [_, _], _ => rfl)⟩
  obtain ⟨f40, fd40, D40⟩ := d40
  have c_law_loop : C_law_loop l.prog w K mg base f40 fd40 := ⟨(ok_law_loop D40.F B c_law_take), PySem.W.mg_of X N D40.a, D40.k, (D40.F.binds (ps := ["_law_bag_here", "_law_numbers", "_law_most_places"]) fun _ _ _ _ _ _ us hl => match us, hl with | [_, _, _], _ => rfl)⟩
  obtain ⟨f41, fd41, D41⟩ := d41
  have c_law_parts : C_law_parts l.prog w K mg base f41 fd41 := ⟨(ok_law_parts D41.F B ), PySem.W.mg_of X N D41.a, D41.k, (D41.F.binds (ps := ["_law_places"]) fun _ _ _ _ _ _ us hl => match us, hl with | [_], _ => rfl)⟩
  obtain ⟨f42, fd42, D42⟩ := d42
  have c_law_plan : C_law_plan l.prog w K mg base f42 fd42 := ⟨(ok_law_plan D42.F B c_law_take c_law_loop c_law_parts c_law_names), PySem.W.mg_of X N D42.a, D42.k, (D42.F.binds (ps := ["_law_bag_here", "_law_most_loops", "_law_most_places"]) fun _ _ _ _ _ _ us hl => match us, hl with | [_, _, _], _ => rfl)⟩
  obtain ⟨f43, fd43, D43⟩ := d43
  have c_law_between : C_law_between l.prog w K mg base f43 fd43 := ⟨(ok_law_between D43.F B ), PySem.W.mg_of X N D43.a, D43.k, (D43.F.binds (ps := ["_law_places", "_law_loop_here", "_law_stretch"]) fun _ _ _ _ _ _ us hl => match us, hl with | [_, _, _], _ => rfl)⟩
  obtain ⟨f44, fd44, D44⟩ := d44
  have c_law_due : C_law_due l.prog w K mg base f44 fd44 := ⟨(ok_law_due D44.F B c_law_between), PySem.W.mg_of X N D44.a, D44.k, (D44.F.binds (ps := ["_law_plan_here", "_law_stretch", "_law_how"]) fun _ _ _ _ _ _ us hl => match us, hl with | [_, _, _], _ => rfl)⟩
  obtain ⟨f45, fd45, D45⟩ := d45
  have c_law_silent : C_law_silent l.prog w K mg base C f45 fd45 := ⟨(ok_law_silent D45.F B CW c_heard), PySem.W.mg_of X N D45.a, D45.k, (D45.F.binds (ps := ["_law_plan_here", "_law_wires", "_law_told"]) fun _ _ _ _ _ _ us hl => match us, hl with | [_, _, _], _ => rfl)⟩
  exact ok_law DL.d.F B CW c_law_bag c_law_take c_law_plan c_init c_there c_cut c_short c_come_to_rest c_law_due c_law_silent c_parted c_mend c_heard
theorem walk {l : PySem.W.OpenLaw} {q : Program} {loose : List Str} {XP : (Str → Option Value) → Heap → Prop} {YP : World → Heap → Prop} {d : DefRec} {K : Params → PySem.W.Frag} (hn : l.most = some 63) (hdf : d.params.defaults = [])
    (hY : ∀ (w : World) (h : Heap), YP w h → (K w.params).In h)
    (F : ∀ (w : World) (mg : Str → Option Value) (fa : Addr) (h : Heap), (K w.params).In h → h.Ns mainGlobals mg → mg d.name = some (.ref fa) →
      ∃ fd : FuncData, (∀ (s : Shared) (u : Value), BindsTo s fd ⟨[u], []⟩ [("_law_script", u)]) ∧ ∀ base : Heap, (K w.params).In base → base.Ns mainGlobals mg → FnOk l.prog w (K w.params) mg base CX0 9 fa fd ["_law_script"] (sp_law (K w.params))) :
    PySem.W.WalkO q loose XP YP l.row.toRowW d [] (fun f vs => PySem.call f vs) :=
  L2.walk_of (n := 63) (k := 9) (x := "_law_script") (CX := fun _ => CX0) (sp := fun w => sp_law (K w.params)) hn (by decide) hdf ⟨rfl, by decide, by decide⟩ hY F (fun _ _ a ns hl _ hS => ⟨a, ns, rfl, hS, hl, fun _ => rfl⟩) fun _ _ _ _ _ z => z
end K12
open PySem PySem.W PyProof.Rows L2
set_option maxRecDepth 100000 in
set_option maxHeartbeats 0 in
theorem PySem.Challenge.cw_warnloop_k12_whole_one_fault_holds : PySem.Challenge.rw_warnloop_k12_whole_one_fault.Holds := by
  w_on; o_law; k_head; (case hw => w_witness2)
  k_fill
  refine K12.walk (l := PySem.Challenge.rw_warnloop_k12_whole_one_fault) rfl rfl (fun w h Y => PySem.W.kIn_of Y) ?F
  case F =>
    intro w mg fa h KX G hmg
    refine' K12.all_mk KX G hmg ?aC ?d0 ?d1 ?d2 ?d3 ?d4 ?d5 ?d6 ?d7 ?d8 ?d9 ?d10 ?d11 ?d12 ?d13 ?d14 ?d15 ?d16 ?d17 ?d18 ?d19 ?d20 ?d21 ?d22 ?d23 ?d24 ?d25 ?d26 ?d27 ?d28 ?d29 ?d30 ?d31 ?d32 ?d33 ?d34 ?d35 ?d36 ?d37 ?d38 ?d39 ?d40 ?d41 ?d42 ?d43 ?d44 ?d45 ?dl ?pg ?hd ?po ?sa ?mk ?kc ?n0 ?n1 ?n2 ?n3 ?z0 ?z1 ?z2 ?z3 ?z4 ?z5 ?z6 ?z7 ?z8 ?z9 ?z10 ?z11 ?z12 ?z13 ?z14 ?z15 ?z16 ?q0 ?q1 ?q2 ?q3 ?q4 ?q5 ?q6 ?q7 ?q8 ?q9 ?tk ?tt
    (case aC => k_is)
    (case d0 => refine' K12.gd_mk ?a ?l ?c ?k; (case a => k_is); (case l => k_is); (case c => k_is); (case k => k_is))
    (case d1 => refine' K12.gd_mk ?a ?l ?c ?k; (case a => k_is); (case l => k_is); (case c => k_is); (case k => k_is))
    (case d2 => refine' K12.gd_mk ?a ?l ?c ?k; (case a => k_is); (case l => k_is); (case c => k_is); (case k => k_is))
    (case d3 => refine' K12.gd_mk ?a ?l ?c ?k; (case a => k_is); (case l => k_is); (case c => k_is); (case k => k_is))
    (case d4 => refine' K12.gd_mk ?a ?l ?c ?k; (case a => k_is); (case l => k_is); (case c => k_is); (case k => k_is))
    (case d5 => refine' K12.gd_mk ?a ?l ?c ?k; (case a => k_is); (case l => k_is); (case c => k_is); (case k => k_is))
    (case d6 => refine' K12.gd_mk ?a ?l ?c ?k; (case a => k_is); (case l => k_is); (case c => k_is); (case k => k_is))
    (case d7 => refine' K12.gd_mk ?a ?l ?c ?k; (case a => k_is); (case l => k_is); (case c => k_is); (case k => k_is))
    (case d8 => refine' K12.gd_mk ?a ?l ?c ?k; (case a => k_is); (case l => k_is); (case c => k_is); (case k => k_is))
    (case d9 => refine' K12.gd_mk ?a ?l ?c ?k; (case a => k_is); (case l => k_is); (case c => k_is); (case k => k_is))
    (case d10 => refine' K12.gd_mk ?a ?l ?c ?k; (case a => k_is); (case l => k_is); (case c => k_is); (case k => k_is))
    (case d11 => refine' K12.gd_mk ?a ?l ?c ?k; (case a => k_is); (case l => k_is); (case c => k_is); (case k => k_is))
    (case d12 => refine' K12.gd_mk ?a ?l ?c ?k; (case a => k_is); (case l => k_is); (case c => k_is); (case k => k_is))
    (case d13 => refine' K12.gd_mk ?a ?l ?c ?k; (case a => k_is); (case l => k_is); (case c => k_is); (case k => k_is))
    (case d14 => refine' K12.gd_mk ?a ?l ?c ?k; (case a => k_is); (case l => k_is); (case c => k_is); (case k => k_is))
    (case d15 => refine' K12.gd_mk ?a ?l ?c ?k; (case a => k_is); (case l => k_is); (case c => k_is); (case k => k_is))
    (case d16 => refine' K12.gd_mk ?a ?l ?c ?k; (case a => k_is); (case l => k_is); (case c => k_is); (case k => k_is))
    (case d17 => refine' K12.gd_mk ?a ?l ?c ?k; (case a => k_is); (case l => k_is); (case c => k_is); (case k => k_is))
    (case d18 => refine' K12.gd_mk ?a ?l ?c ?k; (case a => k_is); (case l => k_is); (case c => k_is); (case k => k_is))
    (case d19 => refine' K12.gd_mk ?a ?l ?c ?k; (case a => k_is); (case l => k_is); (case c => k_is); (case k => k_is))
    (case d20 => refine' K12.gd_mk ?a ?l ?c ?k; (case a => k_is); (case l => k_is); (case c => k_is); (case k => k_is))
    (case d21 => refine' K12.gd_mk ?a ?l ?c ?k; (case a => k_is); (case l => k_is); (case c => k_is); (case k => k_is))
    (case d22 => refine' K12.gd_mk ?a ?l ?c ?k; (case a => k_is); (case l => k_is); (case c => k_is); (case k => k_is))
    (case d23 => refine' K12.gd_mk ?a ?l ?c ?k; (case a => k_is); (case l => k_is); (case c => k_is); (case k => k_is))
    (case d24 => refine' K12.gd_mk ?a ?l ?c ?k; (case a => k_is); (case l => k_is); (case c => k_is); (case k => k_is))
    (case d25 => refine' K12.md_mk ?a ?i ?l ?c ?k; (case a => k_is); (case i => k_is); (case l => k_is); (case c => k_is); (case k => k_is))
    (case d26 => refine' K12.md_mk ?a ?i ?l ?c ?k; (case a => k_is); (case i => k_is); (case l => k_is); (case c => k_is); (case k => k_is))
    (case d27 => refine' K12.md_mk ?a ?i ?l ?c ?k; (case a => k_is); (case i => k_is); (case l => k_is); (case c => k_is); (case k => k_is))
    (case d28 => refine' K12.md_mk ?a ?i ?l ?c ?k; (case a => k_is); (case i => k_is); (case l => k_is); (case c => k_is); (case k => k_is))
    (case d29 => refine' K12.md_mk ?a ?i ?l ?c ?k; (case a => k_is); (case i => k_is); (case l => k_is); (case c => k_is); (case k => k_is))
    (case d30 => refine' K12.md_mk ?a ?i ?l ?c ?k; (case a => k_is); (case i => k_is); (case l => k_is); (case c => k_is); (case k => k_is))
    (case d31 => refine' K12.md_mk ?a ?i ?l ?c ?k; (case a => k_is); (case i => k_is); (case l => k_is); (case c => k_is); (case k => k_is))
    (case d32 => refine' K12.md_mk ?a ?i ?l ?c ?k; (case a => k_is); (case i => k_is); (case l => k_is); (case c => k_is); (case k => k_is))
    (case d33 => refine' K12.md_mk ?a ?i ?l ?c ?k; (case a => k_is); (case i => k_is); (case l => k_is); (case c => k_is); (case k => k_is))
    (case d34 => refine' K12.md_mk ?a ?i ?l ?c ?k; (case a => k_is); (case i => k_is); (case l => k_is); (case c => k_is); (case k => k_is))
    (case d35 => refine' K12.md_mk ?a ?i ?l ?c ?k; (case a => k_is); (case i => k_is); (case l => k_is); (case c => k_is); (case k => k_is))
    (case d36 => refine' K12.gd_mk ?a ?l ?c ?k; (case a => k_is); (case l => k_is); (case c => k_is); (case k => k_is))
    (case d37 => refine' K12.gd_mk ?a ?l ?c ?k; (case a => k_is); (case l => k_is); (case c => k_is); (case k => k_is))
    (case d38 => refine' K12.gd_mk ?a ?l ?c ?k; (case a => k_is); (case l => k_is); (case c => k_is); (case k => k_is))
    (case d39 => refine' K12.gd_mk ?a ?l ?c ?k; (case a => k_is); (case l => k_is); (case c => k_is); (case k => k_is))
    (case d40 => refine' K12.gd_mk ?a ?l ?c ?k; (case a => k_is); (case l => k_is); (case c => k_is); (case k => k_is))
    (case d41 => refine' K12.gd_mk ?a ?l ?c ?k; (case a => k_is); (case l => k_is); (case c => k_is); (case k => k_is))
    (case d42 => refine' K12.gd_mk ?a ?l ?c ?k; (case a => k_is); (case l => k_is); (case c => k_is); (case k => k_is))
    (case d43 => refine' K12.gd_mk ?a ?l ?c ?k; (case a => k_is); (case l => k_is); (case c => k_is); (case k => k_is))
    (case d44 => refine' K12.gd_mk ?a ?l ?c ?k; (case a => k_is); (case l => k_is); (case c => k_is); (case k => k_is))
    (case d45 => refine' K12.gd_mk ?a ?l ?c ?k; (case a => k_is); (case l => k_is); (case c => k_is); (case k => k_is))
    (case dl => refine' K12.ld_mk ?a ?l ?c ?k; (case a => k_is); (case l => k_is); (case c => k_is); (case k => k_is))
    (case pg => k_is)
    (case hd => k_is)
    (case po => k_is)
    (case sa => k_is)
    (case mk => k_is)
    (case kc => k_is)
    (case n0 => k_is)
    (case n1 => k_is)
    (case n2 => k_is)
    (case n3 => k_is)
    (case z0 => k_is)
    (case z1 => k_is)
    (case z2 => k_is)
    (case z3 => k_is)
    (case z4 => k_is)
    (case z5 => k_is)
    (case z6 => k_is)
    (case z7 => k_is)
    (case z8 => k_is)
    (case z9 => k_is)
    (case z10 => k_is)
    (case z11 => k_is)
    (case z12 => k_is)
    (case z13 => k_is)
    (case z14 => k_is)
    (case z15 => k_is)
    (case z16 => k_is)
    (case q0 => refine' K12.cs_mk ?e; (case e => k_is))
    (case q1 => refine' K12.ci_mk ?e; (case e => k_is))
    (case q2 => refine' K12.cs_mk ?e; (case e => k_is))
    (case q3 => refine' K12.ci_mk ?e; (case e => k_is))
    (case q4 => refine' K12.ci_mk ?e; (case e => k_is))
    (case q5 => refine' K12.ci_mk ?e; (case e => k_is))
    (case q6 => refine' K12.ci_mk ?e; (case e => k_is))
    (case q7 => refine' K12.ci_mk ?e; (case e => k_is))
    (case q8 => refine' K12.ci_mk ?e; (case e => k_is))
    (case q9 => refine' K12.ci_mk ?e; (case e => k_is))
    (case tk => refine' K12.kinds_mk ?e ?l; (case e => k_is); (case l => k_is))
    (case tt => refine' K12.told_mk' ?e ?l; (case e => k_is); (case l => k_is))
#print axioms PySem.Challenge.cw_warnloop_k12_whole_one_fault_holds
