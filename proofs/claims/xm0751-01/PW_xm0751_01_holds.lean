import PyProof.Rows.All
import Wide.All
import OpenK.AllK
import Wide.FinOn
import PySem.Challenge.RW_xm0751_01
set_option Elab.async false

namespace Mine
section
open PySem PySem.W PyProof.Rows
set_option maxRecDepth 100000
set_option maxHeartbeats 8000000
/-- the program without its three lines that say __name__ -/
def view : Program := { PySem.Challenge.pw_xm0751_01 with main := { PySem.Challenge.pw_xm0751_01.main with body := ((PySem.Challenge.pw_xm0751_01.main.body.eraseIdx 11).eraseIdx 4).eraseIdx 1 } }
local macro_rules | `(tactic| o_head $H) => `(tactic| (refine holds_open (q := Mine.view) (loose := [Str.ofString "LockTable"]) (Xt := fun s => xlAt Mine.view [] s && recOk (RowW.records (OpenRow.toRowW (OpenLaw.row PySem.Challenge.rw_xm0751_01))) s) (XP := XL Mine.view []) (Yf := Hook.obs $H) (Ya := Hook.val $H) (YP := Hook.says $H) (N := 3288) ?hl (Hook.of $H) (Hook.keeps $H) (fun s e => xl_of s (Bool.and_eq_true_iff.mp e).1) XL.keeps (by rfl) (by rfl) (by rfl) (fun s e => recFacts_of (Bool.and_eq_true_iff.mp e).2) (by rfl) (by first | assumption | decide +kernel) (by decide +kernel) ⟨rfl, rfl, rfl, rfl, rfl, by decide +kernel⟩ ?hw ?hc; (case hl => (intro w; kernel_rfl))))
local macro_rules | `(tactic| o_law) => `(tactic| refine holds_law (by decide +kernel) fun said => ?_)
local macro_rules | `(tactic| w_witness2) => `(tactic| exact ⟨[], by decide +kernel, by decide +kernel⟩)
open_top hd for PySem.Challenge.rw_xm0751_01
end
end Mine

namespace Mine
section
open PySem PySem.W PyProof.Rows
set_option maxRecDepth 100000
set_option maxHeartbeats 8000000
abbrev Led := List (Addr × Obj)

/-- a call of the def at f with the arguments vs, over the ledger news, comes back with a value and a ledger that Post tells of -/
def Spec (n : Nat) (w : World) (f : Addr) (vs : List Value) (news : Led) (Post : Value → Led → Prop) : Prop :=
  ∀ (mean : ExcName → Option Value) (mg mb : Str → Option Value) (dp un : Nat) (gd : Option (List Code)) (cn : Str) (cs : Scope) (a : Addr) (ccd : Value) (cl : List (Str × Addr)) (outer : List Env) (A₀ : Around) (base h₀ : Heap) (L : Addr) (m : Str → Option Value) (s : Shared) (Q E : Value → Shared → Prop),
    Below A₀ base outer h₀ → Fr h₀ L s.heap m → (hd.heap_1 w.params).In h₀ → News h₀ L s.heap news → Top Mine.view (looseW Mine.view [Str.ofString "LockTable"]) mean mg mb h₀ → cs.kind = .function →
    dp + n < recursionLimit → un + 10 * n < cLine →
    (∀ v h' tk' news', Post v news' → Fr h₀ L h' m → News h₀ L h' news' → Q v { s with heap := h', toks := tk' }) →
    wpAny (model PySem.Challenge.rw_xm0751_01.row.prog w) (ktrTop dp un gd cn cs L a ccd cl outer) (call (.ref f) vs) Q E s

theorem news_sub {h₀ h : Heap} {L : Addr} {news news' : Led} (N : News h₀ L h news') (hs : ∀ p ∈ news, p ∈ news') : News h₀ L h news := fun p hp => N p (hs p hp)

theorem Spec.use {n : Nat} {w : World} {f : Addr} {vs : List Value} {news news₁ : Led} {Post : Value → Led → Prop}
    {mean : ExcName → Option Value} {mg mb : Str → Option Value} {dp un : Nat} {gd : Option (List Code)} {cn : Str} {cs : Scope} {a : Addr} {ccd : Value} {cl : List (Str × Addr)} {outer : List Env} {A₀ : Around} {base h₀ : Heap} {L : Addr} {m : Str → Option Value} {s : Shared} {Q E : Value → Shared → Prop}
    (S : Spec n w f vs news Post) (B : Below A₀ base outer h₀) (F : Fr h₀ L s.heap m) (X : (hd.heap_1 w.params).In h₀) (N : News h₀ L s.heap news₁) (hs : ∀ p ∈ news, p ∈ news₁)
    (T : Top Mine.view (looseW Mine.view [Str.ofString "LockTable"]) mean mg mb h₀) (hk : cs.kind = .function) (hd : dp + n < recursionLimit) (hu : un + 10 * n < cLine)
    (ret : ∀ v h' tk' news', Post v news' → Fr h₀ L h' m → News h₀ L h' news' → Q v { s with heap := h', toks := tk' }) :
    wpAny (model PySem.Challenge.rw_xm0751_01.row.prog w) (ktrTop dp un gd cn cs L a ccd cl outer) (call (.ref f) vs) Q E s :=
  S _ _ _ _ _ _ _ _ _ _ _ _ _ _ _ _ _ _ _ _ B F X (news_sub N hs) T hk hd hu ret

/-- one entry of the ledger changed -/
def put (news : Led) (d : Addr) (o : Obj) : Led := (d, o) :: news.filter fun p => decide (p.1 ≠ d)
theorem put_head {news : Led} {d : Addr} {o : Obj} : (d, o) ∈ put news d o := List.mem_cons_self ..
theorem put_mem {news : Led} {d : Addr} {o : Obj} {p : Addr × Obj} (h : p ∈ news) (hne : p.1 ≠ d) : p ∈ put news d o :=
  List.mem_cons_of_mem _ (List.mem_filter.mpr ⟨h, by simpa using hne⟩)
theorem news_put {h₀ h h' : Heap} {L d : Addr} {news : Led} {o o' : Obj} (N : News h₀ L h news) (hd : (d, o) ∈ news) (hs : Heap.SameBut d h h') (ho : h'.get? d = some o') : News h₀ L h' (put news d o') := fun p hp => by
  rcases List.mem_cons.mp hp with rfl | hp
  · exact ⟨ho, (N _ hd).2.1, (N _ hd).2.2⟩
  · obtain ⟨h1, h2⟩ := List.mem_filter.mp hp
    exact ⟨(hs.2 p.1 (by simpa using h2)).trans (N p h1).1, (N p h1).2.1, (N p h1).2.2⟩
theorem fr_put {h₀ h h' : Heap} {L d : Addr} {m : Str → Option Value} {news : Led} {o : Obj} (F : Fr h₀ L h m) (N : News h₀ L h news) (hd : (d, o) ∈ news) (hs : Heap.SameBut d h h') : Fr h₀ L h' m := by
  obtain ⟨oL, es, ep, hL, r⟩ := F.ns
  refine ⟨⟨oL, es, ep, (hs.2 L fun e => (N _ hd).2.1 e.symm).trans hL, r⟩, fun b x q => (hs.2 b fun e => ?_).trans (F.keep b x q), F.above⟩
  have := (N _ hd).2.2
  dsimp only at this
  rw [← e, q] at this
  cases this
/-- the same place, the same object -/
theorem news_fun {h₀ h : Heap} {L d : Addr} {news : Led} {o o' : Obj} (N : News h₀ L h news) (h1 : (d, o) ∈ news) (h2 : (d, o') ∈ news) : o = o' := by
  have e1 := (N _ h1).1
  have e2 := (N _ h2).1
  dsimp only at e1 e2
  rw [e1] at e2
  exact Option.some.inj e2
/-- the walk stands here -/
def Halt (P : Prop) : Prop := P
theorem Halt.mk {P : Prop} (h : P) : Halt P := h
theorem Halt.out {P : Prop} (h : Halt P) : P := h
end
end Mine

namespace Mine
section
local macro_rules | `(tactic| walk_at "unused 0") => `(tactic| fail)
open PySem PySem.W PyProof.Rows
set_option maxRecDepth 100000
set_option maxHeartbeats 8000000
theorem fmod_lo (a : Int) {b : Int} (h : 0 < b) : 0 ≤ a.fmod b := Int.fmod_nonneg_of_pos a h
theorem fmod_hi (a : Int) {b : Int} (h : 0 < b) : a.fmod b < b := Int.fmod_lt_of_pos a h
theorem mul_ok_fmod (a b c : Int) {k : Int} (h : 0 < k) (h2 : k ≤ 2147483647) (e : b = a.fmod k) : PySem.IntMulOk b c := by
  subst e
  have h3 := fmod_lo a h
  have h4 := fmod_hi a h
  exact PySem.IntMulOk.of_left (PySem.intBits_le_64 (by omega) (by omega))
theorem fdiv_le {x top : Int} (hx : 0 ≤ x) (h0 : 0 < top) : 0 ≤ x.fdiv top ∧ x.fdiv top ≤ x := by
  rw [Int.fdiv_eq_ediv_of_nonneg _ (Int.le_of_lt h0)]
  exact ⟨Int.ediv_nonneg hx (Int.le_of_lt h0), Int.ediv_le_self _ hx⟩
local macro_rules | `(tactic| k_all) => `(tactic| assumption)
local macro_rules | `(tactic| walk_at "binaryOp Mult int int") => `(tactic| (refine PyProof.Rows.mul_int ?_ (mul_ok_fmod _ _ _ (k := 2147483647) (by decide) (by decide) rfl)))
theorem take_spec (w : World) (a : Addr) (x y : Int) (t1 t2 : Tok) (n : Nat) (news : Led) (hsep : ∀ p ∈ news, p.1 ≠ a) (top : Int) (tt : Tok) (h0 : 0 < top) (h9 : top < 10) (hx : 0 ≤ x) (hy : 0 ≤ y) (hy2 : y < 2147483647) :
    Spec 2 w 202 [.ref a, .int top tt] ((a, PySem.W.listOf #[.int x t1, .int y t2] n) :: news)
      (fun v news' => ∃ d t x' y' t1' t2' n', v = .int d t ∧ 0 ≤ d ∧ d < top ∧ 0 ≤ x' ∧ x' ≤ x ∧ 0 ≤ y' ∧ y' < 2147483647 ∧ news' = (a, PySem.W.listOf #[.int x' t1', .int y' t2'] n') :: news) := by
  unfold Spec
  k_fill
  intro mean mg mb dp un gd cn cs ca ccd cl outer A₀ base h₀ L m s Q E B F X N T hk hd hu hret
  refine wpAny_call ?_
  k_dflt cell_enter
  k_steps
  · refine hret _ _ _ _ ⟨_, _, _, _, _, _, _, rfl, fmod_lo _ h0, fmod_hi _ h0, (fdiv_le hx h0).1, (fdiv_le hx h0).2, hy, hy2, rfl⟩ (by assumption) (by assumption)
  · refine hret _ _ _ _ ⟨_, _, _, _, _, _, _, rfl, fmod_lo _ h0, fmod_hi _ h0, hx, Int.le_refl _, fmod_lo _ (by decide), fmod_hi _ (by decide), rfl⟩ (by assumption) (by assumption)
end
end Mine

namespace Mine
section
open PySem PySem.W PyProof.Rows
set_option maxRecDepth 100000
set_option maxHeartbeats 8000000
local macro_rules | `(tactic| k_all) => `(tactic| assumption)
local macro_rules | `(tactic| walk_at "call ref") => `(tactic| (k_here; (with_reducible show wpAny _ _ (call (Value.ref 202) _ _) _ _ _); refine Halt.out ?_))
local macro_rules | `(tactic| walk_at "call builtin:len") => `(tactic| (k_here; refine Halt.out ?_))
local macro_rules | `(tactic| walk_at "subscriptTail") => `(tactic| (k_here; refine Halt.out ?_))
theorem one_spec (w : World) (a l : Addr) (x y : Int) (t1 t2 : Tok) (n n' : Nat) (vs : List Value) (news : Led) (hsep : ∀ p ∈ news, p.1 ≠ a) (hl : l ≠ a) (h0 : 0 < vs.length) (h9 : vs.length < 10) (hx : 0 ≤ x) (hy : 0 ≤ y) (hy2 : y < 2147483647) :
    Spec 4 w 209 [.ref a, .ref l] ((l, PySem.W.listOf vs.toArray n') :: (a, PySem.W.listOf #[.int x t1, .int y t2] n) :: news)
      (fun v news' => ∃ x' y' t1' t2' n'', v ∈ vs ∧ 0 ≤ x' ∧ x' ≤ x ∧ 0 ≤ y' ∧ y' < 2147483647 ∧ news' = (a, PySem.W.listOf #[.int x' t1', .int y' t2'] n'') :: (l, PySem.W.listOf vs.toArray n') :: news) := by
  unfold Spec
  k_fill
  intro mean mg mb dp un gd cn cs ca ccd cl outer A₀ base h₀ L m s Q E B F X N T hk hd hu hret
  refine wpAny_call ?_
  k_dflt cell_enter
  k_steps
  refine Halt.mk ?_
  refine PyProof.Rows.len_list (items := vs.toArray) ⟨_, News.get (by assumption) (List.mem_cons_self ..), rfl, _, rfl⟩ (by simp; omega) ?_
  k_steps
  refine Halt.mk ?_
  refine Spec.use (take_spec w a x y t1 t2 n ((l, PySem.W.listOf vs.toArray n') :: news) (List.forall_mem_cons.mpr ⟨hl, hsep⟩) _ _ (by simp; omega) (by simp; omega) hx hy hy2) (by assumption) (by assumption) (by assumption) (by assumption) (by intro p hp; simp only [List.mem_cons] at hp ⊢; rcases hp with h | h | h <;> simp [h]) (by assumption) rfl (by ktr_room) (by ktr_units) ?_
  rintro v h1 tk1 news1 ⟨d, t, x', y', t1', t2', n3, rfl, hd0, hd1, e1, e2, e3, e4, rfl⟩ F1 N1
  k_steps
  refine Halt.mk ?_
  have hsz : d.toNat < vs.length := by simp at hd1; omega
  refine tail_any (T := "list") ⟨_, News.get N1 (List.mem_cons_of_mem _ (List.mem_cons_self ..)), rfl⟩ slot_list_getitem.lookup (wpAny_getItem_list (items := vs.toArray) (x := vs[d.toNat]) ⟨_, News.get N1 (List.mem_cons_of_mem _ (List.mem_cons_self ..)), rfl, _, rfl⟩ hd0 (by simp at hd1; omega) (by simp [hsz]) ?_) (by with_unfolding_all rfl)
  k_steps
  exact hret _ _ _ _ ⟨x', y', t1', t2', n3, List.getElem_mem hsz, e1, e2, e3, e4, rfl⟩ (by assumption) (by assumption)
end
end Mine

namespace Mine
section
open PySem PySem.W PyProof.Rows
set_option maxRecDepth 100000
set_option maxHeartbeats 4000000
section
variable {prog : Program} {w : World} {K : Type} [DecidableEq K] {knd : KeyKind prog w K} {A : Around} {E : Value → Shared → Prop} {s : Shared} {d : Addr} {kvs : List (K × Value)} {k : K} {key dflt : Value} {Q : Value → Shared → Prop}

theorem dget2 (hm : s.heap.DictOf knd d kvs) (hkey : knd.is k key = true) (lo : (d == sysModules) = false) (h : Q ((valueAt kvs k).getD dflt) { s with toks := s.toks + 1 }) :
    wpAny (model prog w) A (call (.builtin "dict.get") [.ref d, key, dflt]) Q E s :=
  call_meetsIn PySem.F.slot_dict_get hm.typeIs PySem.F.entry_dict_get (PySem.F.args_dict_get_3 _ _ _) (meets_dict_get_default knd d hkey lo dflt) ⟨_, hm.mapOf, h⟩

theorem dpop2 (hm : s.heap.DictOf knd d kvs) (hkey : knd.is k key = true) (lo : (d == sysModules) = false) (hpart : (keyPart key).isSome = true) (hsz : kvs.length ≤ sizeLine)
    (hno : valueAt kvs k = none → Q dflt { s with toks := s.toks + 1 })
    (hyes : ∀ v, valueAt kvs k = some v → ∀ h', h'.DictOf knd d (without kvs k) → Heap.SameBut d s.heap h' → Q v { s with heap := h', toks := s.toks + 1 }) :
    wpAny (model prog w) A (call (.builtin "dict.pop") [.ref d, key, dflt]) Q E s := by
  cases hv : valueAt kvs k with
  | none => exact call_meetsIn PySem.F.slot_dict_pop hm.typeIs PySem.F.entry_dict_pop (PySem.F.args_dict_pop_3 _ _ _) (meets_dict_pop_default knd d hkey lo hpart dflt) ⟨kvs, hm, hv, hno hv⟩
  | some v => exact call_meetsIn PySem.F.slot_dict_pop hm.typeIs PySem.F.entry_dict_pop (PySem.F.args_dict_pop_3 _ _ _) (meets_dict_pop_there knd d hkey [dflt] (.inr ⟨_, rfl⟩) hpart) ⟨kvs, v, hm, hsz, hv, hyes v hv⟩

theorem dsd_tree {Q : Value → Shared → Prop} (hkey : knd.is k key = true) (hm : s.heap.DictOf knd d kvs) (hsz : kvs.length ≤ sizeLine)
    (hthere : ∀ v, valueAt kvs k = some v → Q v { s with toks := s.toks + 1 })
    (hnew : valueAt kvs k = none → ∀ h', h'.DictOf knd d (kvs ++ [(k, dflt)]) → Heap.SameBut d s.heap h' → Q dflt { s with heap := h', toks := s.toks + 1 }) :
    wpAny (model prog w) A (dictSetDefault d key dflt) Q E s := by
  have hmo := hm.mapOf
  obtain ⟨o, es, ep, ho, hc, hd, hk, hp, hn⟩ := hm
  have hes : es.size ≤ sizeLine := by
    have e1 := hp.length
    have e2 : es.toList.length = es.size := by simp
    omega
  unfold dictSetDefault
  try with_reducible refine wpAny_holding ?_
  refine wpAny_bind (knd.pyHash hkey ?_)
  refine wpAny_bind (wpAny_dictFind_of (s := { s with toks := s.toks + 1 }) hkey ho hd hk ?_)
  cases hi : es.findIdx? fun e => knd.is k e.key with
  | some i =>
    have hl : (es.toList.findIdx? fun e => knd.is k e.key) = some i := by rw [← hi]; obtain ⟨l⟩ := es; simp
    obtain ⟨e, he, hek, hev⟩ := hp.at hl
    refine wpAny_bind (wpAny_dictEntries (s := { s with toks := s.toks + 1 }) ho hd ?_)
    have he' : es[i]? = some e := by rw [← he]; obtain ⟨l⟩ := es; simp
    rw [he']
    exact wpAny_bind (wpAny_rule (wpAny_pure (hthere e.val hev)))
  | none =>
    have hno : valueAt kvs k = none := by
      rw [← hp.find k]
      have : (es.toList.find? fun e => knd.is k e.key) = none := by
        rw [List.find?_eq_none]
        intro e he
        have := Array.findIdx?_eq_none_iff.mp hi e (Array.mem_toList_iff.mp he)
        simpa using this
      rw [this]; rfl
    refine wpAny_bind (wpAny_rule (wpAny_bind (wpAny_updateDictKeys (hz := hes) (s := { s with toks := s.toks + 1 }) ho hd (wpAny_pure (hnew hno _ ⟨_, _, ep + 1, Heap.get?_update_self _ ho (Obj.isFreed_of_dict (Obj.data_mapDictKeys hd _)),
      hc.mapDictKeys _, Obj.data_mapDictKeys hd _, hk.push hkey _, ?_, ?_⟩ (Heap.SameBut.update ..))))))
    · have := hp.append hkey (knd.hash k) dflt
      simpa using this
    · rw [List.map_append]
      refine List.nodup_append.mpr ⟨hn, by simp, ?_⟩
      intro a ha b hb e
      simp only [List.map_cons, List.map_nil, List.mem_singleton] at hb
      subst hb; subst e
      obtain ⟨kv, hkv, rfl⟩ := List.mem_map.mp ha
      unfold valueAt at hno
      rw [Option.map_eq_none_iff, List.find?_eq_none] at hno
      exact hno kv hkv (by simp)

theorem dsetdefault (hm : s.heap.DictOf knd d kvs) (hkey : knd.is k key = true) (lo : (d == sysModules) = false) (hsz : kvs.length ≤ sizeLine)
    (hthere : ∀ v, valueAt kvs k = some v → Q v { s with toks := s.toks + 1 })
    (hnew : valueAt kvs k = none → ∀ h', h'.DictOf knd d (kvs ++ [(k, dflt)]) → Heap.SameBut d s.heap h' → Q dflt { s with heap := h', toks := s.toks + 1 }) :
    wpAny (model prog w) A (call (.builtin "dict.setdefault") [.ref d, key, dflt]) Q E s := by
  have me : MeetsIn prog w (Builtin.«dict.setdefault» ⟨[.ref d, key, dflt], []⟩) (fun _ R s => s.heap.DictOf knd d kvs ∧
      (∀ v, valueAt kvs k = some v → R (.ok (.ret v)) { s with toks := s.toks + 1 }) ∧
      (valueAt kvs k = none → ∀ h', h'.DictOf knd d (kvs ++ [(k, dflt)]) → Heap.SameBut d s.heap h' → R (.ok (.ret dflt)) { s with heap := h', toks := s.toks + 1 })) :=
    .of_wp fun A R s ⟨hm, h1, h2⟩ => by
      unfold Builtin.«dict.setdefault»
      refine wpAny_bind ?_
      unfold Builtin.Dict.keyAndDefault
      refine wpAny_bind (wpAny_notOrdered_dict hm.typeIs ?_)
      show wpAny _ _ (pure (d, key, some dflt)) _ _ s
      refine wpAny_pure ?_
      show wpAny _ _ (if (d == sysModules) = true then _ else (dictSetDefault d key dflt >>= _)) _ _ s
      rw [if_neg (by rw [lo]; exact Bool.false_ne_true)]
      exact wpAny_bind (dsd_tree hkey hm hsz (fun v hv => wpAny_pure ⟨v, rfl, h1 v hv⟩) fun hn h' hm' hs' => wpAny_pure ⟨dflt, rfl, h2 hn h' hm' hs'⟩)
  exact call_meetsIn PySem.F.slot_dict_setdefault hm.typeIs PySem.F.entry_dict_setdefault (PySem.F.args_dict_setdefault_3 _ _ _) me ⟨hm, hthere, hnew⟩
end

section
variable {prog : Program} {w : World} {K : Type} [DecidableEq K] {knd : HeapKind prog w K} {A : Around} {E : Value → Shared → Prop} {s : Shared} {d a : Addr} {k : K} {xs : List (K × Addr × Value)} {dflt : Value} {Q : Value → Shared → Prop}

theorem hget2 (hu : knd.room A.in1) (hm : s.heap.DictOfH knd d xs) (hkey : knd.is s.heap k a) (lo : (d == sysModules) = false) (h : Q (((atKey xs k).map (·.2)).getD dflt) { s with toks := s.toks + knd.draws k }) :
    wpAny (model prog w) A (call (.builtin "dict.get") [.ref d, .ref a, dflt]) Q E s :=
  call_meetsIn PySem.F.slot_dict_get hm.typeIs PySem.F.entry_dict_get (PySem.F.args_dict_get_3 _ _ _) (meetsH_dict_get_default knd d a lo dflt) ⟨hu, _, _, hkey, hm, h⟩

theorem hsd_tree (hu : knd.room A) (hkey : knd.is s.heap k a) (hm : s.heap.DictOfH knd d xs) (hsz : xs.length ≤ sizeLine)
    (hthere : ∀ v, (atKey xs k).map (·.2) = some v → Q v { s with toks := s.toks + knd.draws k })
    (hnew : atKey xs k = none → ∀ h', h'.DictOfH knd d (xs ++ [(k, a, dflt)]) → Heap.SameBut d s.heap h' → Q dflt { s with heap := h', toks := s.toks + knd.draws k }) :
    wpAny (model prog w) A (dictSetDefault d (.ref a) dflt) Q E s := by
  obtain ⟨o, es, ep, ho, hc, hd, he, his, hn⟩ := hm
  unfold dictSetDefault
  try with_reducible refine wpAny_holding ?_
  refine wpAny_bind (knd.pyHash hu hkey (wpAny_bind (wpAny_dictFind_heap (s := { s with toks := s.toks + knd.draws k }) hu hkey ho hd he his hn ?_ ?_)))
  · intro hno
    refine wpAny_bind (wpAny_rule (wpAny_bind (wpAny_updateDictKeys (hz := by have e := size_of_entries he; omega) (s := { s with toks := s.toks + knd.draws k }) ho hd (wpAny_pure (hnew (atKey_none_of_get hno) _ ⟨_, _, ep + 1, Heap.get?_update_self _ ho (Obj.isFreed_of_dict (Obj.data_mapDictKeys hd _)),
      hc.mapDictKeys _, Obj.data_mapDictKeys hd _, ?_, ?_, ?_⟩ (Heap.SameBut.update ..))))))
    · rw [List.map_append, ← he]; simp [entryOfKey]
    · intro x hx
      rcases List.mem_append.mp hx with hx | hx
      · exact knd.keeps (his x hx) ho hd (Heap.SameBut.update ..)
      · rw [List.mem_singleton.mp hx]; exact knd.keeps hkey ho hd (Heap.SameBut.update ..)
    · rw [List.map_append]
      refine List.nodup_append.mpr ⟨hn, by simp, ?_⟩
      intro b hb c hc' e
      simp only [List.map_cons, List.map_nil, List.mem_singleton] at hc'
      subst hc'; subst e
      exact not_mem_keys_of_get hno hb
  · intro j p hj
    refine wpAny_bind (wpAny_dictEntries (s := { s with toks := s.toks + knd.draws k }) ho hd ?_)
    rw [entry_at he j, hj]
    exact wpAny_bind (wpAny_rule (wpAny_pure (hthere p.2 (by rw [atKey_of_get hn hj]; rfl))))

theorem hsetdefault (hu : knd.room A.in1) (hkey : knd.is s.heap k a) (hm : s.heap.DictOfH knd d xs) (lo : (d == sysModules) = false) (hsz : xs.length ≤ sizeLine)
    (hthere : ∀ v, (atKey xs k).map (·.2) = some v → Q v { s with toks := s.toks + knd.draws k })
    (hnew : atKey xs k = none → ∀ h', h'.DictOfH knd d (xs ++ [(k, a, dflt)]) → Heap.SameBut d s.heap h' → Q dflt { s with heap := h', toks := s.toks + knd.draws k }) :
    wpAny (model prog w) A (call (.builtin "dict.setdefault") [.ref d, .ref a, dflt]) Q E s := by
  have me : MeetsIn prog w (Builtin.«dict.setdefault» ⟨[.ref d, .ref a, dflt], []⟩) (fun A R s => knd.room A.in1 ∧ knd.is s.heap k a ∧ s.heap.DictOfH knd d xs ∧
      (∀ v, (atKey xs k).map (·.2) = some v → R (.ok (.ret v)) { s with toks := s.toks + knd.draws k }) ∧
      (atKey xs k = none → ∀ h', h'.DictOfH knd d (xs ++ [(k, a, dflt)]) → Heap.SameBut d s.heap h' → R (.ok (.ret dflt)) { s with heap := h', toks := s.toks + knd.draws k })) :=
    .of_wp fun A R s ⟨hu, hkey, hm, h1, h2⟩ => by
      unfold Builtin.«dict.setdefault»
      refine wpAny_bind ?_
      unfold Builtin.Dict.keyAndDefault
      refine wpAny_bind (wpAny_notOrdered_dict hm.typeIs ?_)
      show wpAny _ _ (pure (d, Value.ref a, some dflt)) _ _ s
      refine wpAny_pure ?_
      show wpAny _ _ (if (d == sysModules) = true then _ else (dictSetDefault d (.ref a) dflt >>= _)) _ _ s
      rw [if_neg (by rw [lo]; exact Bool.false_ne_true)]
      exact wpAny_bind (hsd_tree hu hkey hm hsz (fun v hv => wpAny_pure ⟨v, rfl, h1 v hv⟩) fun hn h' hm' hs' => wpAny_pure ⟨dflt, rfl, h2 hn h' hm' hs'⟩)
  exact call_meetsIn PySem.F.slot_dict_setdefault hm.typeIs PySem.F.entry_dict_setdefault (PySem.F.args_dict_setdefault_3 _ _ _) me ⟨hu, hkey, hm, hthere, hnew⟩
end
end
end Mine

namespace Mine
section
local macro_rules | `(tactic| walk_at "unused 0") => `(tactic| fail)
open PySem PySem.W PyProof.Rows
set_option maxRecDepth 100000
set_option maxHeartbeats 200000
abbrev KV := List (Int × Value)
/-- the table's own dict -/
abbrev tabDict (P : Params) (t1 t2 t3 : Tok) (dl ds dm : Addr) : Obj :=
  dictOf [⟨PyData.keyHash P (Str.ofString "levels"), .str (Str.ofString "levels") t1, .ref dl⟩, ⟨PyData.keyHash P (Str.ofString "slots"), .str (Str.ofString "slots") t2, .ref ds⟩, ⟨PyData.keyHash P (Str.ofString "told_marks"), .str (Str.ofString "told_marks") t3, .ref dm⟩] 3

structure Parts where
  dx : Addr
  dl : Addr
  ds : Addr
  dm : Addr
  t1 : Tok
  t2 : Tok
  t3 : Tok
  lm : List (Str × Addr)
  sm : List (List Str × Addr × Addr)
  mm : List (Str × Addr)
  c : Addr → KV

def Parts.inner (p : Parts) : List Addr := p.lm.map (·.2) ++ (p.sm.map (·.2.2) ++ p.mm.map (·.2))
def Parts.dicts (p : Parts) : List Addr := p.dl :: p.ds :: p.dm :: p.inner

section
variable (prog : Program) (w : World)
def In1 (news : Led) (a : Addr) (kv : KV) : Prop := ∃ o, (a, o) ∈ news ∧ o.IsDictOf (intKind prog w) kv
def OutS (news : Led) (d : Addr) (lm : List (Str × Addr)) : Prop := ∃ o, (d, o) ∈ news ∧ o.IsDictOf (strKind prog w) (lm.map fun x => (x.1, .ref x.2))
def KeyIn (news : Led) (k : List Str) (a : Addr) : Prop := DatIn news (.ref a) (.tuple (k.map .str))
def tripOf (x : List Str × Addr × Addr) : List Str × Addr × Value := (x.1, x.2.1, .ref x.2.2)
def OutT (news : Led) (d : Addr) (sm : List (List Str × Addr × Addr)) : Prop :=
  (∃ o es ep, (d, o) ∈ news ∧ o.ExactDict ∧ o.data = .dict es ep ∧ es.toList = (sm.map tripOf).map (entryOfKey (tupleKind (strKind prog w))) ∧ (sm.map (·.1)).Nodup) ∧ ∀ x ∈ sm, KeyIn news x.1 x.2.1

structure Tab (news : Led) (t : Addr) (p : Parts) (n : Nat) : Prop where
  inst : (t, instObj 184 p.dx) ∈ news
  attrs : (p.dx, tabDict w.params p.t1 p.t2 p.t3 p.dl p.ds p.dm) ∈ news
  lo : OutS prog w news p.dl p.lm
  so : OutT prog w news p.ds p.sm
  mo : OutS prog w news p.dm p.mm
  inn : ∀ a ∈ p.inner, In1 prog w news a (p.c a)
  nd : p.dicts.Nodup
  ndx : p.dx ∉ p.dicts
  sys : ∀ a ∈ p.dicts, (a == sysModules) = false
  ll : p.lm.length ≤ n
  sl : p.sm.length ≤ n
  ml : p.mm.length ≤ n
  cl : ∀ a ∈ p.inner, (p.c a).length ≤ n
end

section
variable {prog : Program} {w : World} {h₀ h h' : Heap} {L t a d : Addr} {news news' : Led} {p : Parts} {n : Nat} {kv : KV}
theorem In1.at (N : News h₀ L h news) (x : In1 prog w news a kv) : h.DictOf (intKind prog w) a kv := by
  obtain ⟨o, ho, r⟩ := x
  exact Heap.dictOf_iff.mpr ⟨o, (N _ ho).1, r⟩
theorem OutS.at {lm} (N : News h₀ L h news) (x : OutS prog w news d lm) : h.DictOf (strKind prog w) d (lm.map fun x => (x.1, .ref x.2)) := by
  obtain ⟨o, ho, r⟩ := x
  exact Heap.dictOf_iff.mpr ⟨o, (N _ ho).1, r⟩
theorem items_of {news : Led} : ∀ {vs : List Value} {k : List Str}, DatAll news vs (k.map .str) → ItemsAre (strKind prog w) k vs
  | [], [], _ => .nil
  | _ :: _, [], h => nomatch h
  | [], _ :: _, h => nomatch h
  | v :: vs, x :: k, h => by
    cases h with
    | cons h1 h2 =>
      cases h1
      exact .cons (strKind_is prog w _ _) (items_of h2)
theorem KeyIn.at {k : List Str} (N : News h₀ L h news) (x : KeyIn news k a) : (tupleKind (strKind prog w)).is h k a := by
  unfold KeyIn at x
  cases x with
  | tuple hm r => exact ⟨_, _, _, (N _ hm).1, rfl, rfl, by simpa using items_of r⟩
theorem OutT.at {sm} (N : News h₀ L h news) (x : OutT prog w news d sm) : h.DictOfH (tupleKind (strKind prog w)) d (sm.map tripOf) := by
  obtain ⟨⟨o, es, ep, ho, h1, h2, h3, h4⟩, hk⟩ := x
  refine ⟨o, es, ep, (N _ ho).1, h1, h2, h3, ?_, ?_⟩
  · intro y hy
    obtain ⟨x, hx, rfl⟩ := List.mem_map.mp hy
    exact KeyIn.at N (hk x hx)
  · rw [List.map_map]; exact h4

theorem IsDictOf_cls {K : Type} [DecidableEq K] {knd : KeyKind prog w K} {o : Obj} {kvs : List (K × Value)} (x : o.IsDictOf knd kvs) : o.cls = .type "dict" := let ⟨_, _, e, _⟩ := x; e.1

theorem tup_nd : Value.type "tuple" ≠ Value.type "dict" := by decide
theorem list_nd : Value.type "list" ≠ Value.type "dict" := by decide
theorem dict_nl : Value.type "dict" ≠ Value.type "list" := by decide
theorem tup_nl : Value.type "tuple" ≠ Value.type "list" := by decide
/-- ledgers that keep all but dicts keep data -/
theorem dat_weaken (hs : ∀ p ∈ news, p.2.cls ≠ .type "dict" → p ∈ news') {v : Value} {e : Dat} (x : DatIn news v e) : DatIn news' v e := by
  have x' : DatIn (news.filter fun p => decide (p.2.cls ≠ .type "dict")) v e := by
    clear hs
    induction x using DatIn.rec (motive_2 := fun vs ds _ => DatAll (news.filter fun p => decide (p.2.cls ≠ .type "dict")) vs ds) with
    | none => exact .none
    | bool b => exact .bool b
    | int i t => exact .int i t
    | str x t => exact .str x t
    | bytes b t => exact .bytes b t
    | tuple hm _ ih => exact .tuple (List.mem_filter.mpr ⟨hm, decide_eq_true tup_nd⟩) ih
    | list hm _ ih => exact .list (List.mem_filter.mpr ⟨hm, decide_eq_true list_nd⟩) ih
    | nil => exact .nil
    | cons _ _ i1 i2 => exact .cons i1 i2
  refine DatIn.mono (fun p hp => ?_) x'
  obtain ⟨h1, h2⟩ := List.mem_filter.mp hp
  exact hs p h1 (by simpa using h2)
theorem key_weaken (hs : ∀ p ∈ news, p.2.cls = .type "tuple" → p ∈ news') {k : List Str} (x : KeyIn news k a) : KeyIn news' k a := by
  unfold KeyIn at x ⊢
  cases x with
  | tuple hm r =>
    refine .tuple (hs _ hm rfl) ?_
    clear hm
    generalize hd : k.map Dat.str = ds at r
    induction r using DatAll.rec (motive_1 := fun _ _ _ => True) generalizing k with
    | nil => exact .nil
    | cons h1 h2 _ ih =>
      cases k with
      | nil => cases hd
      | cons x k =>
        simp only [List.map_cons, List.cons.injEq] at hd
        obtain ⟨rfl, rfl⟩ := hd
        cases h1
        exact .cons (.str _ _) (ih rfl)
    | _ => trivial

theorem Tab.mono (T : Tab prog w news t p n) (hs : ∀ q ∈ news, q.2.cls ≠ .type "list" → q ∈ news') {m : Nat} (hm : n ≤ m) : Tab prog w news' t p m where
  inst := hs _ T.inst (fun e => nomatch e)
  attrs := hs _ T.attrs dict_nl
  lo := let ⟨o, h1, h2⟩ := T.lo; ⟨o, hs _ h1 (by dsimp only; rw [IsDictOf_cls h2]; decide), h2⟩
  so := ⟨let ⟨o, es, ep, h1, h2, r⟩ := T.so.1; ⟨o, es, ep, hs _ h1 (by dsimp only; rw [h2.1]; decide), h2, r⟩, fun x hx => key_weaken (fun q h1 h2 => hs q h1 (by rw [h2]; decide)) (T.so.2 x hx)⟩
  mo := let ⟨o, h1, h2⟩ := T.mo; ⟨o, hs _ h1 (by dsimp only; rw [IsDictOf_cls h2]; decide), h2⟩
  inn := fun a ha => let ⟨o, h1, h2⟩ := T.inn a ha; ⟨o, hs _ h1 (by dsimp only; rw [IsDictOf_cls h2]; decide), h2⟩
  nd := T.nd
  ndx := T.ndx
  sys := T.sys
  ll := Nat.le_trans T.ll hm
  sl := Nat.le_trans T.sl hm
  ml := Nat.le_trans T.ml hm
  cl := fun a ha => Nat.le_trans (T.cl a ha) hm

theorem In1.put (x : In1 prog w news a kv) (hne : a ≠ d) {o' : Obj} : In1 prog w (put news d o') a kv := let ⟨o, h1, h2⟩ := x; ⟨o, put_mem h1 hne, h2⟩
theorem OutS.put {lm} (x : OutS prog w news a lm) (hne : a ≠ d) {o' : Obj} : OutS prog w (put news d o') a lm := let ⟨o, h1, h2⟩ := x; ⟨o, put_mem h1 hne, h2⟩
/-- a dict's place holds no tuple -/
theorem tup_ne (N : News h₀ L h news) {o : Obj} (hd : (d, o) ∈ news) (ho : o.cls = .type "dict") {q : Addr × Obj} (hq : q ∈ news) (hc : q.2.cls ≠ .type "dict") : q.1 ≠ d := by
  rintro rfl
  have := news_fun N hd (show (q.1, q.2) ∈ news from hq)
  rw [this] at ho
  exact hc ho
theorem OutT.put {sm} (N : News h₀ L h news) {o o' : Obj} (hd : (d, o) ∈ news) (ho : o.cls = .type "dict") (x : OutT prog w news a sm) (hne : a ≠ d) : OutT prog w (put news d o') a sm :=
  ⟨let ⟨o, es, ep, h1, r⟩ := x.1; ⟨o, es, ep, put_mem h1 hne, r⟩, fun y hy => key_weaken (fun q h1 h2 => put_mem h1 (tup_ne N hd ho h1 (by rw [h2]; decide))) (x.2 y hy)⟩
def Stay (o : Obj) : Prop := o.cls ≠ .type "dict" ∨ ∃ x, o.data = .cell x
theorem IsDictOf_data {K : Type} [DecidableEq K] {knd : KeyKind prog w K} {o : Obj} {kvs : List (K × Value)} (x : o.IsDictOf knd kvs) : ∃ es ep, o.data = .dict es ep := let ⟨es, ep, _, e, _⟩ := x; ⟨es, ep, e⟩
theorem keep_put (N : News h₀ L h news) {o o' : Obj} (hd : (d, o) ∈ news) (ho : o.cls = .type "dict") (hx : ∃ es ep, o.data = .dict es ep) : ∀ q ∈ news, Stay q.2 → q ∈ put news d o' := by
  rintro ⟨b, ob⟩ h1 h2
  refine put_mem h1 ?_
  rcases h2 with h2 | ⟨x, h2⟩
  · exact tup_ne N hd ho h1 h2
  · intro e
    dsimp only at e h2
    subst e
    obtain ⟨es, ep, h3⟩ := hx
    rw [news_fun N h1 hd, h3] at h2
    cases h2

theorem Parts.mem_l {x : Str × Addr} (hx : x ∈ p.lm) : x.2 ∈ p.inner := List.mem_append_left _ (List.mem_map_of_mem hx)
theorem Parts.mem_s {x : List Str × Addr × Addr} (hx : x ∈ p.sm) : x.2.2 ∈ p.inner := List.mem_append_right _ (List.mem_append_left _ (List.mem_map_of_mem (f := fun y : List Str × Addr × Addr => y.2.2) hx))
theorem Parts.mem_m {x : Str × Addr} (hx : x ∈ p.mm) : x.2 ∈ p.inner := List.mem_append_right _ (List.mem_append_right _ (List.mem_map_of_mem hx))
theorem Parts.in_dicts (ha : a ∈ p.inner) : a ∈ p.dicts := List.mem_cons_of_mem _ (List.mem_cons_of_mem _ (List.mem_cons_of_mem _ ha))

/-- one inner dict changed -/
theorem Tab.inner_put (T : Tab prog w news t p n) (N : News h₀ L h news) (ha : a ∈ p.inner) {kv' : KV} (hd : h'.DictOf (intKind prog w) a kv') (hs : Heap.SameBut a h h') {m : Nat} (hm : n ≤ m) (hl : kv'.length ≤ m) :
    ∃ o', News h₀ L h' (put news a o') ∧ Tab prog w (put news a o') t { p with c := fun b => if b = a then kv' else p.c b } m ∧ (∀ q ∈ news, Stay q.2 → q ∈ put news a o') ∧ (a, o') ∈ put news a o' := by
  obtain ⟨o', ho', hk'⟩ := Heap.dictOf_iff.mp hd
  obtain ⟨o, hm1, hm2⟩ := T.inn a ha
  have hc := IsDictOf_cls hm2
  have hnd := T.nd
  have e1 : p.dl ≠ a := fun e => by
    have := (List.nodup_cons.mp hnd).1
    exact this (e ▸ List.mem_cons_of_mem _ (List.mem_cons_of_mem _ ha))
  have e2 : p.ds ≠ a := fun e => by
    have := (List.nodup_cons.mp (List.nodup_cons.mp hnd).2).1
    exact this (e ▸ List.mem_cons_of_mem _ ha)
  have e3 : p.dm ≠ a := fun e => by
    have := (List.nodup_cons.mp (List.nodup_cons.mp (List.nodup_cons.mp hnd).2).2).1
    exact this (e ▸ ha)
  have e4 : p.dx ≠ a := fun e => T.ndx (e ▸ Parts.in_dicts ha)
  have kp := keep_put (o' := o') N hm1 hc (IsDictOf_data hm2)
  refine ⟨o', news_put N hm1 hs ho', ?_, kp, put_head⟩
  refine { inst := kp _ T.inst (.inl fun e => nomatch e), attrs := put_mem T.attrs e4, lo := T.lo.put e1, so := T.so.put N hm1 hc e2, mo := T.mo.put e3, inn := ?_, nd := T.nd, ndx := T.ndx, sys := T.sys, ll := Nat.le_trans T.ll hm, sl := Nat.le_trans T.sl hm, ml := Nat.le_trans T.ml hm, cl := ?_ }
  · intro b hb
    dsimp only
    by_cases hba : b = a
    · subst hba
      rw [if_pos rfl]
      exact ⟨o', put_head, hk'⟩
    · rw [if_neg hba]
      exact (T.inn b hb).put hba
  · intro b hb
    dsimp only
    by_cases hba : b = a
    · rw [if_pos hba]; exact hl
    · rw [if_neg hba]; exact Nat.le_trans (T.cl b hb) hm

theorem lt_of_allLt {d : Addr} (l : Led) (h : AllLt d l) : ∀ q ∈ l, q.1 < d := by
  induction l with
  | nil => intro q hq; exact absurd hq List.not_mem_nil
  | cons x r ih =>
    have h' : @LT.lt Nat _ x.1 d ∧ AllLt d r := h
    intro q hq
    rcases List.mem_cons.mp hq with e | hq
    · rw [e]; exact h'.1
    · exact ih h'.2 q hq
theorem Tab.there (T : Tab prog w news t p n) {a : Addr} (ha : a ∈ p.dicts) : ∃ o, (a, o) ∈ news := by
  rcases List.mem_cons.mp ha with rfl | ha
  · obtain ⟨o, h1, _⟩ := T.lo
    exact ⟨o, h1⟩
  rcases List.mem_cons.mp ha with rfl | ha
  · obtain ⟨⟨o, _, _, h1, _⟩, _⟩ := T.so
    exact ⟨o, h1⟩
  rcases List.mem_cons.mp ha with rfl | ha
  · obtain ⟨o, h1, _⟩ := T.mo
    exact ⟨o, h1⟩
  · obtain ⟨o, h1, _⟩ := T.inn a ha
    exact ⟨o, h1⟩
theorem Tab.fresh (T : Tab prog w news t p n) {e : Addr} (hl : ∀ q ∈ news, q.1 < e) : e ∉ p.dicts ∧ e ≠ p.dx := by
  refine ⟨fun he => ?_, ?_⟩
  · obtain ⟨o, ho⟩ := T.there he
    exact absurd (hl _ ho) (Nat.lt_irrefl _)
  · rintro rfl
    exact absurd (hl _ T.attrs) (Nat.lt_irrefl _)
theorem nd_l {dl ds dm e : Addr} {l r : List Addr} (h : (dl :: ds :: dm :: (l ++ r)).Nodup) (he : e ∉ dl :: ds :: dm :: (l ++ r)) : (dl :: ds :: dm :: ((l ++ [e]) ++ r)).Nodup := by
  have hp : (dl :: ds :: dm :: ((l ++ [e]) ++ r)).Perm (e :: dl :: ds :: dm :: (l ++ r)) := by
    have := List.perm_middle (l₁ := dl :: ds :: dm :: l) (a := e) (l₂ := r)
    simpa using this
  exact hp.nodup_iff.mpr (List.nodup_cons.mpr ⟨he, h⟩)
theorem nd_s {dl ds dm e : Addr} {l m r : List Addr} (h : (dl :: ds :: dm :: (l ++ (m ++ r))).Nodup) (he : e ∉ dl :: ds :: dm :: (l ++ (m ++ r))) : (dl :: ds :: dm :: (l ++ ((m ++ [e]) ++ r))).Nodup := by
  have := nd_l (l := l ++ m) (r := r) (by simpa using h) (by simpa using he)
  simpa using this
theorem nd_m {dl ds dm e : Addr} {l m r : List Addr} (h : (dl :: ds :: dm :: (l ++ (m ++ r))).Nodup) (he : e ∉ dl :: ds :: dm :: (l ++ (m ++ r))) : (dl :: ds :: dm :: (l ++ (m ++ (r ++ [e])))).Nodup := by
  have := nd_l (l := l ++ (m ++ r)) (r := []) (by simpa using h) (by simpa using he)
  simpa using this

/-- levels has a new file -/
theorem Tab.lev_new (T : Tab prog w news t p n) (N : News h₀ L h news) {e : Addr} {oe : Obj} (he : (e, oe) ∈ news) (hoe : oe.IsDictOf (intKind prog w) []) (hf : e ∉ p.dicts) (hx : e ≠ p.dx) (hsy : (e == sysModules) = false) {x : Str}
    (hd : h'.DictOf (strKind prog w) p.dl ((p.lm.map fun x => (x.1, .ref x.2)) ++ [(x, .ref e)])) (hs : Heap.SameBut p.dl h h') :
    ∃ o', News h₀ L h' (put news p.dl o') ∧ Tab prog w (put news p.dl o') t { p with lm := p.lm ++ [(x, e)], c := fun b => if b = e then [] else p.c b } (n + 1) ∧ (∀ q ∈ news, Stay q.2 → q ∈ put news p.dl o') := by
  obtain ⟨o', ho', hk'⟩ := Heap.dictOf_iff.mp hd
  obtain ⟨o, hm1, hm2⟩ := T.lo
  have hc := IsDictOf_cls hm2
  have hnd := T.nd
  have n1 := List.nodup_cons.mp hnd
  have n2 := List.nodup_cons.mp n1.2
  have n3 := List.nodup_cons.mp n2.2
  have e2 : p.ds ≠ p.dl := fun q => n1.1 (q ▸ List.mem_cons_self ..)
  have e3 : p.dm ≠ p.dl := fun q => n1.1 (q ▸ List.mem_cons_of_mem _ (List.mem_cons_self ..))
  have e4 : p.dx ≠ p.dl := fun q => T.ndx (q ▸ List.mem_cons_self ..)
  have ei : ∀ b ∈ p.inner, b ≠ p.dl := fun b hb q => n1.1 (q ▸ List.mem_cons_of_mem _ (List.mem_cons_of_mem _ hb))
  have kp := keep_put (o' := o') N hm1 hc (IsDictOf_data hm2)
  have hel : e ≠ p.dl := fun q => hf (q ▸ List.mem_cons_self ..)
  have hin : ∀ b, b ∈ (p.lm ++ [(x, e)]).map (·.2) ++ (p.sm.map (·.2.2) ++ p.mm.map (·.2)) → b = e ∨ b ∈ p.inner := by
    intro b hb
    rw [List.map_append] at hb
    rcases List.mem_append.mp hb with hb | hb
    · rcases List.mem_append.mp hb with hb | hb
      · exact .inr (List.mem_append_left _ hb)
      · exact .inl (by simpa using hb)
    · exact .inr (List.mem_append_right _ hb)
  refine ⟨o', news_put N hm1 hs ho', ?_, kp⟩
  refine { inst := kp _ T.inst (.inl fun e => nomatch e), attrs := put_mem T.attrs e4, lo := ⟨o', put_head, by simpa using hk'⟩, so := T.so.put N hm1 hc e2, mo := T.mo.put e3, inn := ?_, nd := ?_, ndx := ?_, sys := ?_, ll := by simpa using T.ll, sl := Nat.le_succ_of_le T.sl, ml := Nat.le_succ_of_le T.ml, cl := ?_ }
  · intro b hb
    dsimp only
    by_cases hbe : b = e
    · subst hbe
      rw [if_pos rfl]
      exact ⟨oe, put_mem he hel, hoe⟩
    · rw [if_neg hbe]
      have hb' := (hin b hb).resolve_left hbe
      exact (T.inn b hb').put (ei b hb')
  · have := nd_l (e := e) hnd hf
    simpa [Parts.dicts, Parts.inner] using this
  · intro hq
    have : p.dx = e ∨ p.dx ∈ p.dicts := by
      rcases List.mem_cons.mp hq with h | h
      · exact .inr (h ▸ List.mem_cons_self ..)
      rcases List.mem_cons.mp h with h | h
      · exact .inr (h ▸ List.mem_cons_of_mem _ (List.mem_cons_self ..))
      rcases List.mem_cons.mp h with h | h
      · exact .inr (h ▸ List.mem_cons_of_mem _ (List.mem_cons_of_mem _ (List.mem_cons_self ..)))
      · exact (hin _ h).imp id Parts.in_dicts
    exact this.elim (fun q => hx q.symm) T.ndx
  · intro b hq
    rcases List.mem_cons.mp hq with rfl | h
    · exact T.sys _ (List.mem_cons_self ..)
    rcases List.mem_cons.mp h with rfl | h
    · exact T.sys _ (List.mem_cons_of_mem _ (List.mem_cons_self ..))
    rcases List.mem_cons.mp h with rfl | h
    · exact T.sys _ (List.mem_cons_of_mem _ (List.mem_cons_of_mem _ (List.mem_cons_self ..)))
    · rcases hin _ h with rfl | h
      · exact hsy
      · exact T.sys _ (Parts.in_dicts h)
  · intro b hb
    dsimp only
    by_cases hbe : b = e
    · rw [if_pos hbe]; exact Nat.zero_le _
    · rw [if_neg hbe]; exact Nat.le_succ_of_le (T.cl b ((hin b hb).resolve_left hbe))

/-- told_marks has a new file -/
theorem Tab.mark_new (T : Tab prog w news t p n) (N : News h₀ L h news) {e : Addr} {oe : Obj} (he : (e, oe) ∈ news) (hoe : oe.IsDictOf (intKind prog w) []) (hf : e ∉ p.dicts) (hx : e ≠ p.dx) (hsy : (e == sysModules) = false) {x : Str}
    (hd : h'.DictOf (strKind prog w) p.dm ((p.mm.map fun x => (x.1, .ref x.2)) ++ [(x, .ref e)])) (hs : Heap.SameBut p.dm h h') :
    ∃ o', News h₀ L h' (put news p.dm o') ∧ Tab prog w (put news p.dm o') t { p with mm := p.mm ++ [(x, e)], c := fun b => if b = e then [] else p.c b } (n + 1) ∧ (∀ q ∈ news, Stay q.2 → q ∈ put news p.dm o') := by
  obtain ⟨o', ho', hk'⟩ := Heap.dictOf_iff.mp hd
  obtain ⟨o, hm1, hm2⟩ := T.mo
  have hc := IsDictOf_cls hm2
  have hnd := T.nd
  have n1 := List.nodup_cons.mp hnd
  have n2 := List.nodup_cons.mp n1.2
  have n3 := List.nodup_cons.mp n2.2
  have e1 : p.dl ≠ p.dm := fun q => n1.1 (q ▸ List.mem_cons_of_mem _ (List.mem_cons_self ..))
  have e2 : p.ds ≠ p.dm := fun q => n2.1 (q ▸ List.mem_cons_self ..)
  have e4 : p.dx ≠ p.dm := fun q => T.ndx (q ▸ List.mem_cons_of_mem _ (List.mem_cons_of_mem _ (List.mem_cons_self ..)))
  have ei : ∀ b ∈ p.inner, b ≠ p.dm := fun b hb q => n3.1 (q ▸ hb)
  have kp := keep_put (o' := o') N hm1 hc (IsDictOf_data hm2)
  have hel : e ≠ p.dm := fun q => hf (q ▸ List.mem_cons_of_mem _ (List.mem_cons_of_mem _ (List.mem_cons_self ..)))
  have hin : ∀ b, b ∈ p.lm.map (·.2) ++ (p.sm.map (·.2.2) ++ (p.mm ++ [(x, e)]).map (·.2)) → b = e ∨ b ∈ p.inner := by
    intro b hb
    rcases List.mem_append.mp hb with hb | hb
    · exact .inr (List.mem_append_left _ hb)
    rcases List.mem_append.mp hb with hb | hb
    · exact .inr (List.mem_append_right _ (List.mem_append_left _ hb))
    rw [List.map_append] at hb
    rcases List.mem_append.mp hb with hb | hb
    · exact .inr (List.mem_append_right _ (List.mem_append_right _ hb))
    · exact .inl (by simpa using hb)
  refine ⟨o', news_put N hm1 hs ho', ?_, kp⟩
  refine { inst := kp _ T.inst (.inl fun e => nomatch e), attrs := put_mem T.attrs e4, lo := T.lo.put e1, so := T.so.put N hm1 hc e2, mo := ⟨o', put_head, by simpa using hk'⟩, inn := ?_, nd := ?_, ndx := ?_, sys := ?_, ll := Nat.le_succ_of_le T.ll, sl := Nat.le_succ_of_le T.sl, ml := by simpa using T.ml, cl := ?_ }
  · intro b hb
    dsimp only
    by_cases hbe : b = e
    · subst hbe
      rw [if_pos rfl]
      exact ⟨oe, put_mem he hel, hoe⟩
    · rw [if_neg hbe]
      have hb' := (hin b hb).resolve_left hbe
      exact (T.inn b hb').put (ei b hb')
  · have := nd_m (e := e) hnd hf
    simpa [Parts.dicts, Parts.inner] using this
  · intro hq
    have : p.dx = e ∨ p.dx ∈ p.dicts := by
      rcases List.mem_cons.mp hq with h | h
      · exact .inr (h ▸ List.mem_cons_self ..)
      rcases List.mem_cons.mp h with h | h
      · exact .inr (h ▸ List.mem_cons_of_mem _ (List.mem_cons_self ..))
      rcases List.mem_cons.mp h with h | h
      · exact .inr (h ▸ List.mem_cons_of_mem _ (List.mem_cons_of_mem _ (List.mem_cons_self ..)))
      · exact (hin _ h).imp id Parts.in_dicts
    exact this.elim (fun q => hx q.symm) T.ndx
  · intro b hq
    rcases List.mem_cons.mp hq with rfl | h
    · exact T.sys _ (List.mem_cons_self ..)
    rcases List.mem_cons.mp h with rfl | h
    · exact T.sys _ (List.mem_cons_of_mem _ (List.mem_cons_self ..))
    rcases List.mem_cons.mp h with rfl | h
    · exact T.sys _ (List.mem_cons_of_mem _ (List.mem_cons_of_mem _ (List.mem_cons_self ..)))
    · rcases hin _ h with rfl | h
      · exact hsy
      · exact T.sys _ (Parts.in_dicts h)
  · intro b hb
    dsimp only
    by_cases hbe : b = e
    · rw [if_pos hbe]; exact Nat.zero_le _
    · rw [if_neg hbe]; exact Nat.le_succ_of_le (T.cl b ((hin b hb).resolve_left hbe))

/-- slots has a new key -/
theorem Tab.slot_new (T : Tab prog w news t p n) (N : News h₀ L h news) {e : Addr} {oe : Obj} (he : (e, oe) ∈ news) (hoe : oe.IsDictOf (intKind prog w) []) (hf : e ∉ p.dicts) (hx : e ≠ p.dx) (hsy : (e == sysModules) = false) {k : List Str} {ka : Addr} (hka : KeyIn news k ka)
    (hd : h'.DictOfH (tupleKind (strKind prog w)) p.ds (p.sm.map tripOf ++ [(k, ka, .ref e)])) (hs : Heap.SameBut p.ds h h') :
    ∃ o', News h₀ L h' (put news p.ds o') ∧ Tab prog w (put news p.ds o') t { p with sm := p.sm ++ [(k, ka, e)], c := fun b => if b = e then [] else p.c b } (n + 1) ∧ (∀ q ∈ news, Stay q.2 → q ∈ put news p.ds o') := by
  obtain ⟨o', es', ep', ho', x1, x2, x3, _, x4⟩ := hd
  obtain ⟨⟨o, es, ep, hm1, hm2, hdat0, _⟩, hks⟩ := T.so
  have hc := hm2.1
  have hnd := T.nd
  have n1 := List.nodup_cons.mp hnd
  have n2 := List.nodup_cons.mp n1.2
  have n3 := List.nodup_cons.mp n2.2
  have e1 : p.dl ≠ p.ds := fun q => n1.1 (q ▸ List.mem_cons_self ..)
  have e3 : p.dm ≠ p.ds := fun q => n2.1 (q ▸ List.mem_cons_self ..)
  have e4 : p.dx ≠ p.ds := fun q => T.ndx (q ▸ List.mem_cons_of_mem _ (List.mem_cons_self ..))
  have ei : ∀ b ∈ p.inner, b ≠ p.ds := fun b hb q => n2.1 (q ▸ List.mem_cons_of_mem _ hb)
  have kp := keep_put (o' := o') N hm1 hc ⟨_, _, hdat0⟩
  have hel : e ≠ p.ds := fun q => hf (q ▸ List.mem_cons_of_mem _ (List.mem_cons_self ..))
  have kw : ∀ q ∈ news, q.2.cls = .type "tuple" → q ∈ put news p.ds o' := fun q h1 h2 => kp q h1 (.inl (by rw [h2]; exact tup_nd))
  have hin : ∀ b, b ∈ p.lm.map (·.2) ++ ((p.sm ++ [(k, ka, e)]).map (·.2.2) ++ p.mm.map (·.2)) → b = e ∨ b ∈ p.inner := by
    intro b hb
    rcases List.mem_append.mp hb with hb | hb
    · exact .inr (List.mem_append_left _ hb)
    rcases List.mem_append.mp hb with hb | hb
    · rw [List.map_append] at hb
      rcases List.mem_append.mp hb with hb | hb
      · exact .inr (List.mem_append_right _ (List.mem_append_left _ hb))
      · exact .inl (by simpa using hb)
    · exact .inr (List.mem_append_right _ (List.mem_append_right _ hb))
  refine ⟨o', news_put N hm1 hs ho', ?_, kp⟩
  refine { inst := kp _ T.inst (.inl fun e => nomatch e), attrs := put_mem T.attrs e4, lo := T.lo.put e1, so := ⟨⟨o', es', ep', put_head, x1, x2, ?_, ?_⟩, ?_⟩, mo := T.mo.put e3, inn := ?_, nd := ?_, ndx := ?_, sys := ?_, ll := Nat.le_succ_of_le T.ll, sl := by simpa using T.sl, ml := Nat.le_succ_of_le T.ml, cl := ?_ }
  · rw [x3]
    simp only [List.map_append, List.map_cons, List.map_nil, tripOf]
  · have hcomp : ((fun x : List Str × Addr × Value => x.1) ∘ tripOf) = fun x : List Str × Addr × Addr => x.1 := rfl
    rw [List.map_append, List.map_map, hcomp] at x4
    simpa using x4
  · intro y hy
    rcases List.mem_append.mp hy with hy | hy
    · exact key_weaken kw (hks y hy)
    · rw [List.mem_singleton.mp hy]; exact key_weaken kw hka
  · intro b hb
    dsimp only
    by_cases hbe : b = e
    · subst hbe
      rw [if_pos rfl]
      exact ⟨oe, put_mem he hel, hoe⟩
    · rw [if_neg hbe]
      have hb' := (hin b hb).resolve_left hbe
      exact (T.inn b hb').put (ei b hb')
  · have := nd_s (e := e) hnd hf
    simpa [Parts.dicts, Parts.inner] using this
  · intro hq
    have : p.dx = e ∨ p.dx ∈ p.dicts := by
      rcases List.mem_cons.mp hq with h | h
      · exact .inr (h ▸ List.mem_cons_self ..)
      rcases List.mem_cons.mp h with h | h
      · exact .inr (h ▸ List.mem_cons_of_mem _ (List.mem_cons_self ..))
      rcases List.mem_cons.mp h with h | h
      · exact .inr (h ▸ List.mem_cons_of_mem _ (List.mem_cons_of_mem _ (List.mem_cons_self ..)))
      · exact (hin _ h).imp id Parts.in_dicts
    exact this.elim (fun q => hx q.symm) T.ndx
  · intro b hq
    rcases List.mem_cons.mp hq with rfl | h
    · exact T.sys _ (List.mem_cons_self ..)
    rcases List.mem_cons.mp h with rfl | h
    · exact T.sys _ (List.mem_cons_of_mem _ (List.mem_cons_self ..))
    rcases List.mem_cons.mp h with rfl | h
    · exact T.sys _ (List.mem_cons_of_mem _ (List.mem_cons_of_mem _ (List.mem_cons_self ..)))
    · rcases hin _ h with rfl | h
      · exact hsy
      · exact T.sys _ (Parts.in_dicts h)
  · intro b hb
    dsimp only
    by_cases hbe : b = e
    · rw [if_pos hbe]; exact Nat.zero_le _
    · rw [if_neg hbe]; exact Nat.le_succ_of_le (T.cl b ((hin b hb).resolve_left hbe))
end
end
end Mine

namespace Mine
section
open PySem PySem.W PyProof.Rows
set_option maxRecDepth 100000
set_option maxHeartbeats 400000
def IsD (news : Led) (d : Addr) : Prop := ∃ o, (d, o) ∈ news ∧ o.ExactDict
theorem IsD.cons {news : Led} {d : Addr} {x : Addr × Obj} (h : IsD news d) : IsD (x :: news) d := let ⟨o, h1, h2⟩ := h; ⟨o, List.mem_cons_of_mem _ h1, h2⟩
theorem IsDictOf_exact {prog : Program} {w : World} {K : Type} [DecidableEq K] {knd : KeyKind prog w K} {o : Obj} {kvs : List (K × Value)} (x : o.IsDictOf knd kvs) : o.ExactDict := let ⟨_, _, e, _⟩ := x; e
theorem In1.isD {prog : Program} {w : World} {news : Led} {a : Addr} {kv : KV} (x : In1 prog w news a kv) : IsD news a := let ⟨o, h1, h2⟩ := x; ⟨o, h1, IsDictOf_exact h2⟩
theorem In1.cons {prog : Program} {w : World} {news : Led} {a : Addr} {kv : KV} {y : Addr × Obj} (x : In1 prog w news a kv) : In1 prog w (y :: news) a kv := let ⟨o, h1, h2⟩ := x; ⟨o, List.mem_cons_of_mem _ h1, h2⟩
theorem In1.mono {prog : Program} {w : World} {news news' : Led} {a : Addr} {kv : KV} (x : In1 prog w news a kv) (hs : ∀ q ∈ news, q ∈ news') : In1 prog w news' a kv := let ⟨o, h1, h2⟩ := x; ⟨o, hs _ h1, h2⟩
section
variable {prog : Program} {w : World} {A : Around} {E : Value → Shared → Prop} {s : Shared} {h₀ : Heap} {L d : Addr} {news : Led}
theorem gm_dict {name : Str} {id : String} {pl : Sem Bool} {Q : Value × List Value → Shared → Prop} (slot : Slot "dict" name id) (ty : typeOf (.builtin id) = pure (.type "method_descriptor")) (N : News h₀ L s.heap news) (hd : IsD news d) (h : Q (.builtin id, [.ref d]) s) :
    wpAny (model prog w) A (getMethod (.ref d) name pl) Q E s := by
  obtain ⟨o, h1, h2⟩ := hd
  exact getMethod_builtin (T := "dict") ⟨o, (N _ h1).1, h2.1⟩ PySem.F.plainAttrs_dict slot ty (fun b e => by injection e with e; subst e; exact ⟨o, (N _ h1).1, h2.2.1⟩) h
end

inductive Key where
  | l (x : Str)
  | s (k : List Str)
  | m (x : Str)
  deriving DecidableEq
def fnd {κ : Type} [DecidableEq κ] (lm : List (κ × Addr)) (x : κ) : Option Addr := (lm.find? fun p => decide (p.1 = x)).map (·.2)
def fndT (sm : List (List Str × Addr × Addr)) (k : List Str) : Option Addr := (sm.find? fun p => decide (p.1 = k)).map (·.2.2)
def Parts.adr (p : Parts) : Key → Option Addr
  | .l x => fnd p.lm x
  | .s k => fndT p.sm k
  | .m x => fnd p.mm x
def Parts.view (p : Parts) (k : Key) : KV := ((p.adr k).map p.c).getD []

theorem fnd_mem {κ : Type} [DecidableEq κ] {lm : List (κ × Addr)} {x : κ} {a : Addr} (h : fnd lm x = some a) : (x, a) ∈ lm := by
  unfold fnd at h
  obtain ⟨p, hp, rfl⟩ := Option.map_eq_some_iff.mp h
  have h1 := List.mem_of_find?_eq_some hp
  have h2 := List.find?_some hp
  have h3 : p.1 = x := by simpa using h2
  rw [← h3]; exact h1
theorem fndT_mem {sm : List (List Str × Addr × Addr)} {k : List Str} {a : Addr} (h : fndT sm k = some a) : ∃ ka, (k, ka, a) ∈ sm := by
  unfold fndT at h
  obtain ⟨p, hp, rfl⟩ := Option.map_eq_some_iff.mp h
  have h1 := List.mem_of_find?_eq_some hp
  have h2 := List.find?_some hp
  have h3 : p.1 = k := by simpa using h2
  exact ⟨p.2.1, by rw [← h3]; exact h1⟩
theorem fnd_snoc {κ : Type} [DecidableEq κ] {lm : List (κ × Addr)} {x y : κ} {e : Addr} : fnd (lm ++ [(x, e)]) y = match fnd lm y with | some a => some a | none => if x = y then some e else none := by
  unfold fnd
  rw [List.find?_append]
  cases lm.find? fun p => decide (p.1 = y) with
  | some p => rfl
  | none => by_cases h : x = y <;> simp [h]
theorem fndT_snoc {sm : List (List Str × Addr × Addr)} {k k' : List Str} {ka e : Addr} : fndT (sm ++ [(k, ka, e)]) k' = match fndT sm k' with | some a => some a | none => if k = k' then some e else none := by
  unfold fndT
  rw [List.find?_append]
  cases sm.find? fun p => decide (p.1 = k') with
  | some p => rfl
  | none => by_cases h : k = k' <;> simp [h]

theorem nd_snd {κ : Type} : ∀ {l : List (κ × Addr)} {x y : κ} {a : Addr}, (l.map (·.2)).Nodup → (x, a) ∈ l → (y, a) ∈ l → x = y
  | [], _, _, _, _, h, _ => nomatch h
  | q :: r, x, y, a, hn, h1, h2 => by
    have hn' := List.nodup_cons.mp (by simpa using hn : (q.2 :: r.map (·.2)).Nodup)
    rcases List.mem_cons.mp h1 with e1 | h1
    · rcases List.mem_cons.mp h2 with e2 | h2
      · rw [← e2] at e1; exact congrArg Prod.fst e1
      · exact absurd (by rw [← e1]; exact List.mem_map.mpr ⟨_, h2, rfl⟩) hn'.1
    · rcases List.mem_cons.mp h2 with e2 | h2
      · exact absurd (by rw [← e2]; exact List.mem_map.mpr ⟨_, h1, rfl⟩) hn'.1
      · exact nd_snd hn'.2 h1 h2

section
variable {p : Parts} {k k' : Key} {a e : Addr}
theorem adr_inner (h : p.adr k = some a) : a ∈ p.inner := by
  cases k with
  | l x => exact Parts.mem_l (fnd_mem h)
  | s k => obtain ⟨ka, hm⟩ := fndT_mem h; exact Parts.mem_s hm
  | m x => exact Parts.mem_m (fnd_mem h)
theorem adr_inj (hn : p.dicts.Nodup) (h : p.adr k = some a) (h' : p.adr k' = some a) : k = k' := by
  have hi : p.inner.Nodup := (List.nodup_cons.mp (List.nodup_cons.mp (List.nodup_cons.mp hn).2).2).2
  unfold Parts.inner at hi
  obtain ⟨n1, n2, d1⟩ := List.nodup_append.mp hi
  obtain ⟨n2, n3, d2⟩ := List.nodup_append.mp n2
  have ml : ∀ {x}, fnd p.lm x = some a → a ∈ p.lm.map (·.2) := fun h => List.mem_map.mpr ⟨_, fnd_mem h, rfl⟩
  have mm : ∀ {x}, fnd p.mm x = some a → a ∈ p.mm.map (·.2) := fun h => List.mem_map.mpr ⟨_, fnd_mem h, rfl⟩
  have ms : ∀ {x}, fndT p.sm x = some a → a ∈ p.sm.map (·.2.2) := fun h => let ⟨_, hm⟩ := fndT_mem h; List.mem_map.mpr ⟨_, hm, rfl⟩
  cases k with
  | l x =>
    cases k' with
    | l y => rw [nd_snd n1 (fnd_mem h) (fnd_mem h')]
    | s y => exact absurd rfl (d1 a (ml h) a (List.mem_append_left _ (ms h')))
    | m y => exact absurd rfl (d1 a (ml h) a (List.mem_append_right _ (mm h')))
  | s x =>
    cases k' with
    | l y => exact absurd rfl (d1 a (ml h') a (List.mem_append_left _ (ms h)))
    | s y =>
      obtain ⟨ka, h1⟩ := fndT_mem h
      obtain ⟨kb, h2⟩ := fndT_mem h'
      have n2' : ((p.sm.map fun z => (z.1, z.2.2)).map (·.2)).Nodup := by rw [List.map_map]; exact n2
      have e : x = y := nd_snd n2' (List.mem_map.mpr ⟨_, h1, rfl⟩) (List.mem_map.mpr ⟨_, h2, rfl⟩)
      rw [e]
    | m y => exact absurd rfl (d2 a (ms h) a (mm h'))
  | m x =>
    cases k' with
    | l y => exact absurd rfl (d1 a (ml h') a (List.mem_append_right _ (mm h)))
    | s y => exact absurd rfl (d2 a (ms h') a (mm h))
    | m y => rw [nd_snd n3 (fnd_mem h) (fnd_mem h')]
theorem view_upd (hn : p.dicts.Nodup) (h : p.adr k = some a) (kv' : KV) : ({ p with c := fun b => if b = a then kv' else p.c b } : Parts).view = fun k' => if k' = k then kv' else p.view k' := by
  funext k'
  show (((p.adr k').map fun b => if b = a then kv' else p.c b).getD []) = if k' = k then kv' else ((p.adr k').map p.c).getD []
  by_cases e : k' = k
  · subst e; rw [h, if_pos rfl]; simp
  · rw [if_neg e]
    cases hb : p.adr k' with
    | none => rfl
    | some b =>
      have : b ≠ a := fun q => e (adr_inj hn (q ▸ hb) h)
      simp [this]
end
theorem view_none {p : Parts} {k : Key} (h : p.adr k = none) : p.view k = [] := by unfold Parts.view; rw [h]; rfl
theorem valueAt_fnd {κ : Type} [DecidableEq κ] (lm : List (κ × Addr)) (x : κ) : valueAt (lm.map fun q => (q.1, Value.ref q.2)) x = (fnd lm x).map .ref := by
  unfold valueAt fnd
  rw [List.find?_map]
  have : ((fun kv : κ × Value => decide (kv.1 = x)) ∘ fun q : κ × Addr => (q.1, Value.ref q.2)) = fun q => decide (q.1 = x) := rfl
  rw [this]
  cases lm.find? fun q => decide (q.1 = x) <;> rfl
theorem atKey_fndT (sm : List (List Str × Addr × Addr)) (k : List Str) : (atKey (sm.map tripOf) k).map (·.2) = (fndT sm k).map .ref := by
  unfold atKey fndT
  rw [List.find?_map]
  have : ((fun x : List Str × Addr × Value => decide (x.1 = k)) ∘ tripOf) = fun q => decide (q.1 = k) := rfl
  rw [this]
  cases sm.find? fun q => decide (q.1 = k) <;> rfl
theorem atKey_none {sm : List (List Str × Addr × Addr)} {k : List Str} (h : atKey (sm.map tripOf) k = none) : fndT sm k = none := by
  have := atKey_fndT sm k
  rw [h] at this
  cases hh : fndT sm k with
  | none => rfl
  | some a => rw [hh] at this; cases this

section
variable {prog : Program} {w : World} {A : Around} {E : Value → Shared → Prop} {s : Shared} {h₀ : Heap} {L e t : Addr} {m : Str → Option Value} {news led : Led} {p : Parts} {n : Nat} {Q : Value → Shared → Prop} {x : Str} {tx : Tok}
theorem KeyIn.mono {k : List Str} {ka : Addr} (h : KeyIn news k ka) (hs : ∀ q ∈ news, q ∈ led) : KeyIn led k ka := DatIn.mono hs h
theorem OutS.mono {d : Addr} {lm : List (Str × Addr)} (h : OutS prog w news d lm) (hs : ∀ q ∈ news, q ∈ led) : OutS prog w led d lm := let ⟨o, h1, h2⟩ := h; ⟨o, hs _ h1, h2⟩
theorem OutT.mono {d : Addr} {sm : List (List Str × Addr × Addr)} (h : OutT prog w news d sm) (hs : ∀ q ∈ news, q ∈ led) : OutT prog w led d sm := let ⟨⟨o, es, ep, h1, h2⟩, h3⟩ := h; ⟨⟨o, es, ep, hs _ h1, h2⟩, fun x hx => (h3 x hx).mono hs⟩
theorem Tab.up (T : Tab prog w news t p n) (hs : ∀ q ∈ news, q ∈ led) : Tab prog w led t p n := T.mono (fun q hq _ => hs q hq) (Nat.le_refl _)
theorem Tab.sys_l (T : Tab prog w news t p n) : (p.dl == sysModules) = false := T.sys _ (List.mem_cons_self ..)
theorem Tab.sys_s (T : Tab prog w news t p n) : (p.ds == sysModules) = false := T.sys _ (List.mem_cons_of_mem _ (List.mem_cons_self ..))
theorem Tab.sys_m (T : Tab prog w news t p n) : (p.dm == sysModules) = false := T.sys _ (List.mem_cons_of_mem _ (List.mem_cons_of_mem _ (List.mem_cons_self ..)))
theorem Tab.isD_l (T : Tab prog w news t p n) : IsD news p.dl := let ⟨o, h1, h2⟩ := T.lo; ⟨o, h1, IsDictOf_exact h2⟩
theorem Tab.isD_m (T : Tab prog w news t p n) : IsD news p.dm := let ⟨o, h1, h2⟩ := T.mo; ⟨o, h1, IsDictOf_exact h2⟩
theorem Tab.isD_s (T : Tab prog w news t p n) : IsD news p.ds := let ⟨o, _, _, h1, h2, _⟩ := T.so.1; ⟨o, h1, h2⟩
theorem Tab.in_adr (T : Tab prog w news t p n) {k : Key} {a : Addr} (h : p.adr k = some a) : In1 prog w news a (p.view k) := by
  have := T.inn a (adr_inner h)
  unfold Parts.view
  rw [h]; exact this

theorem get_l (T : Tab prog w led t p n) (N : News h₀ L s.heap led) (he : In1 prog w led e []) (lo : (e == sysModules) = false)
    (h : ∀ r, In1 prog w led r (p.view (.l x)) → (r == sysModules) = false → Q (.ref r) { s with toks := s.toks + 1 }) :
    wpAny (model prog w) A (call (.builtin "dict.get") [.ref p.dl, .str x tx, .ref e]) Q E s := by
  refine dget2 (T.lo.at N) (strKind_is prog w x tx) T.sys_l ?_
  rw [valueAt_fnd]
  cases hf : fnd p.lm x with
  | none => exact h e (by rw [view_none (k := .l x) hf]; exact he) lo
  | some a => exact h a (T.in_adr (k := .l x) hf) (T.sys _ (Parts.in_dicts (adr_inner (k := .l x) hf)))
theorem get_m (T : Tab prog w led t p n) (N : News h₀ L s.heap led) (he : In1 prog w led e []) (lo : (e == sysModules) = false)
    (h : ∀ r, In1 prog w led r (p.view (.m x)) → (r == sysModules) = false → Q (.ref r) { s with toks := s.toks + 1 }) :
    wpAny (model prog w) A (call (.builtin "dict.get") [.ref p.dm, .str x tx, .ref e]) Q E s := by
  refine dget2 (T.mo.at N) (strKind_is prog w x tx) T.sys_m ?_
  rw [valueAt_fnd]
  cases hf : fnd p.mm x with
  | none => exact h e (by rw [view_none (k := .m x) hf]; exact he) lo
  | some a => exact h a (T.in_adr (k := .m x) hf) (T.sys _ (Parts.in_dicts (adr_inner (k := .m x) hf)))
theorem get_s (T : Tab prog w led t p n) (N : News h₀ L s.heap led) (he : In1 prog w led e []) (lo : (e == sysModules) = false) {k : List Str} {ka : Addr} (hk : KeyIn led k ka) (hu : A.units + 1 < cLine)
    (h : ∀ r tk, In1 prog w led r (p.view (.s k)) → (r == sysModules) = false → (r = e ∧ p.view (.s k) = [] ∨ p.adr (.s k) = some r) → Q (.ref r) { s with toks := tk }) :
    wpAny (model prog w) A (call (.builtin "dict.get") [.ref p.ds, .ref ka, .ref e]) Q E s := by
  refine hget2 (knd := tupleKind (strKind prog w)) hu (T.so.at N) (hk.at N) T.sys_s ?_
  rw [atKey_fndT]
  cases hf : fndT p.sm k with
  | none =>
    have e0 : p.view (.s k) = [] := view_none (k := .s k) hf
    exact h e _ (by rw [e0]; exact he) lo (.inl ⟨rfl, e0⟩)
  | some a => exact h a _ (T.in_adr (k := .s k) hf) (T.sys _ (Parts.in_dicts (adr_inner (k := .s k) hf))) (.inr hf)

/-- what a changed ledger keeps: all but dicts -/
def Kept (news news' : Led) : Prop := ∀ q ∈ news, Stay q.2 → q ∈ news'
theorem Kept.refl : Kept news news := fun _ h _ => h
theorem Kept.trans {news'' : Led} (h : Kept news led) (h' : Kept led news'') : Kept news news'' := fun q h1 h2 => h' q (h q h1 h2) h2

theorem view_new_l {a : Addr} (hn : a ∉ p.inner) (hf : fnd p.lm x = none) : ({ p with lm := p.lm ++ [(x, a)], c := fun b => if b = a then [] else p.c b } : Parts).view = p.view ∧ ({ p with lm := p.lm ++ [(x, a)], c := fun b => if b = a then [] else p.c b } : Parts).adr (.l x) = some a := by
  refine ⟨?_, ?_⟩
  · funext k
    have old : ∀ o : Option Addr, (∀ b, o = some b → b ∈ p.inner) → ((o.map fun b => if b = a then ([] : KV) else p.c b).getD []) = (o.map p.c).getD [] := by
      intro o ho
      cases o with
      | none => rfl
      | some b => have : b ≠ a := fun q => hn (q ▸ ho b rfl); simp [this]
    cases k with
    | l y =>
      show (((fnd (p.lm ++ [(x, a)]) y).map fun b => if b = a then [] else p.c b).getD []) = ((fnd p.lm y).map p.c).getD []
      rw [fnd_snoc]
      cases hy : fnd p.lm y with
      | some b => exact old (some b) fun c hc => by cases hc; exact adr_inner (k := .l y) hy
      | none => by_cases h : x = y <;> simp [h]
    | s k => exact old (fndT p.sm k) fun b hb => adr_inner (k := .s k) hb
    | m y => exact old (fnd p.mm y) fun b hb => adr_inner (k := .m y) hb
  · show fnd (p.lm ++ [(x, a)]) x = some a
    rw [fnd_snoc, hf]; simp
theorem view_new_m {a : Addr} (hn : a ∉ p.inner) (hf : fnd p.mm x = none) : ({ p with mm := p.mm ++ [(x, a)], c := fun b => if b = a then [] else p.c b } : Parts).view = p.view ∧ ({ p with mm := p.mm ++ [(x, a)], c := fun b => if b = a then [] else p.c b } : Parts).adr (.m x) = some a := by
  refine ⟨?_, ?_⟩
  · funext k
    have old : ∀ o : Option Addr, (∀ b, o = some b → b ∈ p.inner) → ((o.map fun b => if b = a then ([] : KV) else p.c b).getD []) = (o.map p.c).getD [] := by
      intro o ho
      cases o with
      | none => rfl
      | some b => have : b ≠ a := fun q => hn (q ▸ ho b rfl); simp [this]
    cases k with
    | m y =>
      show (((fnd (p.mm ++ [(x, a)]) y).map fun b => if b = a then [] else p.c b).getD []) = ((fnd p.mm y).map p.c).getD []
      rw [fnd_snoc]
      cases hy : fnd p.mm y with
      | some b => exact old (some b) fun c hc => by cases hc; exact adr_inner (k := .m y) hy
      | none => by_cases h : x = y <;> simp [h]
    | s k => exact old (fndT p.sm k) fun b hb => adr_inner (k := .s k) hb
    | l y => exact old (fnd p.lm y) fun b hb => adr_inner (k := .l y) hb
  · show fnd (p.mm ++ [(x, a)]) x = some a
    rw [fnd_snoc, hf]; simp
theorem view_new_s {a ka : Addr} {k₀ : List Str} (hn : a ∉ p.inner) (hf : fndT p.sm k₀ = none) : ({ p with sm := p.sm ++ [(k₀, ka, a)], c := fun b => if b = a then [] else p.c b } : Parts).view = p.view ∧ ({ p with sm := p.sm ++ [(k₀, ka, a)], c := fun b => if b = a then [] else p.c b } : Parts).adr (.s k₀) = some a := by
  refine ⟨?_, ?_⟩
  · funext k
    have old : ∀ o : Option Addr, (∀ b, o = some b → b ∈ p.inner) → ((o.map fun b => if b = a then ([] : KV) else p.c b).getD []) = (o.map p.c).getD [] := by
      intro o ho
      cases o with
      | none => rfl
      | some b => have : b ≠ a := fun q => hn (q ▸ ho b rfl); simp [this]
    cases k with
    | s y =>
      show (((fndT (p.sm ++ [(k₀, ka, a)]) y).map fun b => if b = a then [] else p.c b).getD []) = ((fndT p.sm y).map p.c).getD []
      rw [fndT_snoc]
      cases hy : fndT p.sm y with
      | some b => exact old (some b) fun c hc => by cases hc; exact adr_inner (k := .s y) hy
      | none => by_cases h : k₀ = y <;> simp [h]
    | m y => exact old (fnd p.mm y) fun b hb => adr_inner (k := .m y) hb
    | l y => exact old (fnd p.lm y) fun b hb => adr_inner (k := .l y) hb
  · show fndT (p.sm ++ [(k₀, ka, a)]) k₀ = some a
    rw [fndT_snoc, hf]; simp

theorem sd_l (T : Tab prog w led t p n) (F : Fr h₀ L s.heap m) (N : News h₀ L s.heap led) {oe : Obj} (he : (e, oe) ∈ led) (hoe : oe.IsDictOf (intKind prog w) []) (hf : e ∉ p.dicts) (hx : e ≠ p.dx) (lo : (e == sysModules) = false) (hn : n ≤ sizeLine)
    (h : ∀ r h' led' p', Fr h₀ L h' m → News h₀ L h' led' → Tab prog w led' t p' (n + 1) → p'.view = p.view → p'.adr (.l x) = some r → Kept led led' → Q (.ref r) { s with heap := h', toks := s.toks + 1 }) :
    wpAny (model prog w) A (call (.builtin "dict.setdefault") [.ref p.dl, .str x tx, .ref e]) Q E s := by
  refine dsetdefault (T.lo.at N) (strKind_is prog w x tx) T.sys_l (by rw [List.length_map]; exact Nat.le_trans T.ll hn) (fun v hv => ?_) fun hno h' hd hs => ?_
  · rw [valueAt_fnd] at hv
    obtain ⟨a, ha, rfl⟩ := Option.map_eq_some_iff.mp hv
    exact h a s.heap led p F N (T.mono (fun _ hq _ => hq) (Nat.le_succ _)) rfl ha Kept.refl
  · rw [valueAt_fnd, Option.map_eq_none_iff] at hno
    obtain ⟨o', N', T', kp⟩ := T.lev_new N he hoe hf hx lo hd hs
    obtain ⟨o, ho, _⟩ := T.lo
    obtain ⟨v1, v2⟩ := view_new_l (p := p) (fun q => hf (Parts.in_dicts q)) hno
    exact h e h' _ _ (fr_put F N ho hs) N' T' v1 v2 kp
theorem sd_m (T : Tab prog w led t p n) (F : Fr h₀ L s.heap m) (N : News h₀ L s.heap led) {oe : Obj} (he : (e, oe) ∈ led) (hoe : oe.IsDictOf (intKind prog w) []) (hf : e ∉ p.dicts) (hx : e ≠ p.dx) (lo : (e == sysModules) = false) (hn : n ≤ sizeLine)
    (h : ∀ r h' led' p', Fr h₀ L h' m → News h₀ L h' led' → Tab prog w led' t p' (n + 1) → p'.view = p.view → p'.adr (.m x) = some r → Kept led led' → Q (.ref r) { s with heap := h', toks := s.toks + 1 }) :
    wpAny (model prog w) A (call (.builtin "dict.setdefault") [.ref p.dm, .str x tx, .ref e]) Q E s := by
  refine dsetdefault (T.mo.at N) (strKind_is prog w x tx) T.sys_m (by rw [List.length_map]; exact Nat.le_trans T.ml hn) (fun v hv => ?_) fun hno h' hd hs => ?_
  · rw [valueAt_fnd] at hv
    obtain ⟨a, ha, rfl⟩ := Option.map_eq_some_iff.mp hv
    exact h a s.heap led p F N (T.mono (fun _ hq _ => hq) (Nat.le_succ _)) rfl ha Kept.refl
  · rw [valueAt_fnd, Option.map_eq_none_iff] at hno
    obtain ⟨o', N', T', kp⟩ := T.mark_new N he hoe hf hx lo hd hs
    obtain ⟨o, ho, _⟩ := T.mo
    obtain ⟨v1, v2⟩ := view_new_m (p := p) (fun q => hf (Parts.in_dicts q)) hno
    exact h e h' _ _ (fr_put F N ho hs) N' T' v1 v2 kp
theorem sd_s (T : Tab prog w led t p n) (F : Fr h₀ L s.heap m) (N : News h₀ L s.heap led) {oe : Obj} (he : (e, oe) ∈ led) (hoe : oe.IsDictOf (intKind prog w) []) (hf : e ∉ p.dicts) (hx : e ≠ p.dx) (lo : (e == sysModules) = false) (hn : n ≤ sizeLine) {k : List Str} {ka : Addr} (hk : KeyIn led k ka) (hu : A.units + 1 < cLine)
    (h : ∀ r h' tk led' p', Fr h₀ L h' m → News h₀ L h' led' → Tab prog w led' t p' (n + 1) → p'.view = p.view → p'.adr (.s k) = some r → Kept led led' → Q (.ref r) { s with heap := h', toks := tk }) :
    wpAny (model prog w) A (call (.builtin "dict.setdefault") [.ref p.ds, .ref ka, .ref e]) Q E s := by
  refine hsetdefault (knd := tupleKind (strKind prog w)) hu (hk.at N) (T.so.at N) T.sys_s (by rw [List.length_map]; exact Nat.le_trans T.sl hn) (fun v hv => ?_) fun hno h' hd hs => ?_
  · rw [atKey_fndT] at hv
    obtain ⟨a, ha, rfl⟩ := Option.map_eq_some_iff.mp hv
    exact h a s.heap _ led p F N (T.mono (fun _ hq _ => hq) (Nat.le_succ _)) rfl ha Kept.refl
  · obtain ⟨o', N', T', kp⟩ := T.slot_new N he hoe hf hx lo hk hd hs
    obtain ⟨⟨o, _, _, ho, _⟩, _⟩ := T.so
    obtain ⟨v1, v2⟩ := view_new_s (p := p) (ka := ka) (fun q => hf (Parts.in_dicts q)) (atKey_none hno)
    exact h e h' _ _ _ (fr_put F N ho hs) N' T' v1 v2 kp

/-- an inner dict stored into -/
theorem inner_set (T : Tab prog w led t p n) {h h' : Heap} (F : Fr h₀ L h m) (N : News h₀ L h led) {k : Key} {a : Addr} (ha : p.adr k = some a) {kv' : KV} (hd : h'.DictOf (intKind prog w) a kv') (hs : Heap.SameBut a h h') {n' : Nat} (hm : n ≤ n') (hl : kv'.length ≤ n') :
    ∃ led' p', Fr h₀ L h' m ∧ News h₀ L h' led' ∧ Tab prog w led' t p' n' ∧ (p'.view = fun k' => if k' = k then kv' else p.view k') ∧ p'.adr = p.adr ∧ Kept led led' := by
  obtain ⟨o', N', T', kp, _⟩ := T.inner_put N (adr_inner ha) hd hs hm hl
  obtain ⟨o, ho, _⟩ := T.inn a (adr_inner ha)
  refine ⟨_, _, fr_put F N ho hs, N', T', view_upd T.nd ha kv', ?_, kp⟩
  funext k'
  cases k' <;> rfl
theorem Tab.len_view (T : Tab prog w led t p n) (k : Key) : (p.view k).length ≤ n := by
  unfold Parts.view
  cases h : p.adr k with
  | none => exact Nat.zero_le _
  | some a => exact T.cl a (adr_inner h)
end
end
end Mine

namespace Mine
section
local macro_rules | `(tactic| walk_at "unused 0") => `(tactic| fail)
open PySem PySem.W PyProof.Rows
set_option maxRecDepth 100000
set_option maxHeartbeats 4000000
section
variable {prog : Program} {w : World} {A : Around} {E : Value → Shared → Prop} {s : Shared} {h₀ : Heap} {L r t : Addr} {m : Str → Option Value} {news led : Led} {p : Parts} {n : Nat} {kv : KV} {Q : Value → Shared → Prop}
theorem Tab.led2 {h : Heap} (T : Tab prog w news t p n) (N : News h₀ L h led) (hs : ∀ q ∈ news, q ∈ led) :
    News h₀ L h ((t, instObj 184 p.dx) :: (p.dx, tabDict w.params p.t1 p.t2 p.t3 p.dl p.ds p.dm) :: led) := fun q hq => by
  rcases List.mem_cons.mp hq with rfl | hq
  · exact N _ (hs _ T.inst)
  rcases List.mem_cons.mp hq with rfl | hq
  · exact N _ (hs _ T.attrs)
  · exact N _ hq
theorem dcopy (F : Fr h₀ L s.heap m) (N : News h₀ L s.heap led) (hr : In1 prog w led r kv) (lr : (r == sysModules) = false) (hsz : kv.length ≤ sizeLine)
    (k : ∀ D h' o, Fr h₀ L h' m → News h₀ L h' ((D, o) :: led) → (∀ q ∈ led, q.1 < D) → o.IsDictOf (intKind prog w) kv → Q (.ref D) { s with heap := h' }) :
    wpAny (model prog w) A (call (.type "dict") [.ref r]) Q E s := by
  refine kt_call_dict lr (hr.at N) hsz fun h' hm hs => ?_
  obtain ⟨o', ho', hd'⟩ := Heap.dictOf_iff.mp hm
  have N1 := News.push F N { cls := .type "dict", data := .dict #[] }
  exact k _ h' o' ((F.push _).change hs (N1 _ (.head _)).2.1 (N1.fresh (.head _))) (N1.setHead N.apart hs ho') (fun q hq => Heap.lt_size (N q hq).1) hd'
theorem ints_of {K : Type} {kvs : List (Int × K)} {vs : List Value} (hl : vs.length = kvs.length) (h : ∀ (j : Nat) (v : Value), vs[j]? = some v → ∃ k x, kvs[j]? = some (k, x) ∧ (intKind prog w).is k v = true) : IntsAre vs (kvs.map (·.1)) := by
  induction vs generalizing kvs with
  | nil =>
    cases kvs with
    | nil => exact .nil
    | cons _ _ => simp at hl
  | cons v vs ih =>
    cases kvs with
    | nil => simp at hl
    | cons q kvs =>
      obtain ⟨k, x, e1, e2⟩ := h 0 v rfl
      obtain ⟨tk, rfl⟩ := Value.isInt_shape e2
      have e3 : q = (k, x) := by simpa using e1
      subst e3
      exact .cons k tk (ih (by simpa using hl) fun j v hj => h (j + 1) v (by simpa using hj))
theorem dlist (hh : A.handled = none) (F : Fr h₀ L s.heap m) (N : News h₀ L s.heap led) (hr : In1 prog w led r kv) (lr : (r == sysModules) = false) (hsz : kv.length ≤ sizeLine)
    (k : ∀ D c h' tk vs, Fr h₀ L h' m → News h₀ L h' ((D, PySem.W.listOf vs.toArray c) :: led) → (∀ q ∈ led, q.1 < D) → IntsAre vs (kv.map (·.1)) → Q (.ref D) { s with heap := h', toks := tk }) :
    wpAny (model prog w) A (call (.type "list") [.ref r]) Q E s := by
  obtain ⟨ep, hat⟩ := (hr.at N).dictAt
  exact kdl_N (kdl_dict lr) hh F N hat hsz fun D c h' tk vs F' N' l1 hl hv => k D c h' tk vs F' N' l1 (ints_of hl hv)
theorem key2 {D : Addr} {a b : Str} {ta tb : Tok} {k : Nat} (hm : (D, ({ cls := .type "tuple", data := .seq #[.str a ta, .str b tb] k } : Obj)) ∈ led) : KeyIn led [a, b] D :=
  DatIn.tuple (vs := [.str a ta, .str b tb]) hm (.cons (.str a ta) (.cons (.str b tb) .nil))
end
local macro_rules | `(tactic| walk_at "getMethod ref") => `(tactic| (k_here; first
  | refine gm_dict PySem.F.slot_dict_get PySem.F.type_dict_get (by k_asm) (by repeat (first | assumption | exact In1.isD (by assumption) | refine IsD.cons ?_)) ?_
  | refine gm_dict PySem.F.slot_dict_pop PySem.F.type_dict_pop (by k_asm) (by repeat (first | assumption | exact In1.isD (by assumption) | refine IsD.cons ?_)) ?_
  | refine gm_dict PySem.F.slot_dict_setdefault PySem.F.type_dict_setdefault (by k_asm) (by repeat (first | assumption | exact In1.isD (by assumption) | refine IsD.cons ?_)) ?_
  | refine gm_dict PySem.F.slot_dict_items PySem.F.type_dict_items (by k_asm) (by repeat (first | assumption | exact In1.isD (by assumption) | refine IsD.cons ?_)) ?_))
local macro_rules | `(tactic| walk_at "call builtin:dict.get") => `(tactic| (k_here; refine Halt.out ?_))
local macro_rules | `(tactic| walk_at "call type:list") => `(tactic| (k_here; refine Halt.out ?_))
local macro_rules | `(tactic| walk_at "call type:dict") => `(tactic| (k_here; refine Halt.out ?_))
theorem level_of_spec (w : World) (t : Addr) (news : Led) (p : Parts) (n : Nat) (TT : Tab PySem.Challenge.rw_xm0751_01.row.prog w news t p n) (o : Int) (to : Tok) (x : Str) (tx : Tok) :
    Spec 3 w 74 [.ref t, .int o to, .str x tx] news (fun v news' => news' = news ∧ v = (valueAt (p.view (.l x)) o).getD (.int 0 243)) := by
  unfold Spec
  k_fill
  intro mean mg mb dp un gd cn cs ca ccd cl outer A₀ base h₀ L m s Q E B F X N T hk hd hu hret
  have N2 := TT.led2 N (fun _ h => h)
  have hdl := TT.isD_l
  clear N
  refine wpAny_call ?_
  k_dflt cell_enter
  k_steps
  refine Halt.mk ?_
  rename_i h1 d1 h2 o1 F1 N1 lo1 hs1 fs1 hi1 fi1 l1
  refine get_l (TT.up (fun q hq => by repeat (first | exact hq | exact List.mem_append_right _ hq | refine List.mem_cons_of_mem _ ?_))) N1 ⟨_, List.mem_cons_self .., hi1⟩ lo1 ?_
  intro r hr lr
  k_steps
  refine Halt.mk ?_
  refine dget2 (In1.at (by assumption) hr) (intKind_is _ _ _ _) lr ?_
  k_steps
  exact hret _ _ _ news ⟨rfl, rfl⟩ (by assumption) (news_sub (by assumption) (fun q hq => by repeat (first | exact hq | exact List.mem_append_right _ hq | refine List.mem_cons_of_mem _ ?_)))
theorem holders_spec (w : World) (t : Addr) (news : Led) (p : Parts) (n : Nat) (TT : Tab PySem.Challenge.rw_xm0751_01.row.prog w news t p n) (hn : n ≤ 1000) (x y : Str) (tx ty : Tok) :
    Spec 3 w 160 [.ref t, .str x tx, .str y ty] news (fun v news' => ∃ D vs c, v = .ref D ∧ news' = (D, PySem.W.listOf vs.toArray c) :: news ∧ IntsAre vs ((p.view (.s [x, y])).map (·.1))) := by
  unfold Spec
  k_fill
  intro mean mg mb dp un gd cn cs ca ccd cl outer A₀ base h₀ L m s Q E B F X N T hk hd hu hret
  have N2 := TT.led2 N (fun _ h => h)
  have hds := TT.isD_s
  clear N
  refine wpAny_call ?_
  k_dflt cell_enter
  k_steps
  refine Halt.mk ?_
  rename_i D1 h1 l0 d1 h2 o1 F1 N1 lo1 hs1 fs1 hi1 fi1 l1
  refine get_s (TT.up (fun q hq => by repeat (first | exact hq | exact List.mem_append_right _ hq | refine List.mem_cons_of_mem _ ?_))) N1 ⟨_, List.mem_cons_self .., hi1⟩ lo1 (k := [x, y]) (key2 (by k_mem)) (by ktr_units) ?_
  intro r tk hr lr _
  k_steps
  refine Halt.mk ?_
  refine dlist rfl (by assumption) (by assumption) hr lr (Nat.le_trans (TT.len_view _) (Nat.le_trans hn (by decide))) ?_
  intro D c h' tk' vs F' N' l' hi'
  k_steps
  exact hret _ _ _ ((D, PySem.W.listOf vs.toArray c) :: news) ⟨D, vs, c, rfl, rfl, hi'⟩ (by assumption) (news_sub (by assumption) (fun q hq => by rcases List.mem_cons.mp hq with e | hq; simp [e]; simp [hq]))
theorem marks_spec (w : World) (t : Addr) (news : Led) (p : Parts) (n : Nat) (TT : Tab PySem.Challenge.rw_xm0751_01.row.prog w news t p n) (hn : n ≤ 1000) (x : Str) (tx : Tok) :
    Spec 3 w 174 [.ref t, .str x tx] news (fun v news' => ∃ D o, v = .ref D ∧ news' = (D, o) :: news ∧ o.IsDictOf (intKind PySem.Challenge.rw_xm0751_01.row.prog w) (p.view (.m x)) ∧ (D == sysModules) = false ∧ ∀ q ∈ news, q.1 < D) := by
  unfold Spec
  k_fill
  intro mean mg mb dp un gd cn cs ca ccd cl outer A₀ base h₀ L m s Q E B F X N T hk hd hu hret
  have N2 := TT.led2 N (fun _ h => h)
  have hdm := TT.isD_m
  clear N
  refine wpAny_call ?_
  k_dflt cell_enter
  k_steps
  refine Halt.mk ?_
  rename_i h1 d1 h2 o1 F1 N1 lo1 hs1 fs1 hi1 fi1 l1
  refine get_m (TT.up (fun q hq => by repeat (first | exact hq | exact List.mem_append_right _ hq | refine List.mem_cons_of_mem _ ?_))) N1 ⟨_, List.mem_cons_self .., hi1⟩ lo1 ?_
  intro r hr lr
  k_steps
  refine Halt.mk ?_
  refine dcopy (by assumption) (by assumption) hr lr (Nat.le_trans (TT.len_view _) (Nat.le_trans hn (by decide))) ?_
  intro D h' o F' N' l' hi'
  have loD : (D == sysModules) = false := by
    have h6 : ¬ D = 1 := Nat.ne_of_gt (Nat.lt_of_le_of_lt (Nat.succ_le_of_lt (Nat.lt_of_le_of_lt (Nat.zero_le t) l1.1)) (l' _ (List.mem_cons_self ..)))
    simpa [sysModules] using h6
  k_steps
  exact hret _ _ _ ((D, o) :: news) ⟨D, o, rfl, rfl, hi', loD, fun q hq => l' q (by simp [hq])⟩ (by assumption) (news_sub (by assumption) (fun q hq => by rcases List.mem_cons.mp hq with e | hq; simp [e]; simp [hq]))
open PySem PySem.W PyProof.Rows
set_option maxRecDepth 100000
set_option maxHeartbeats 4000000
local macro_rules | `(tactic| walk_at "call builtin:dict.pop") => `(tactic| (k_here; refine Halt.out ?_))
local macro_rules | `(tactic| walk_at "call builtin:dict.setdefault") => `(tactic| (k_here; refine Halt.out ?_))
local macro_rules | `(tactic| walk_at "setItem ref int") => `(tactic| (k_here; refine Halt.out ?_))
theorem without_nil (o : Int) : without ([] : KV) o = [] := rfl
theorem without_none {kv : KV} {o : Int} (h : valueAt kv o = none) : without kv o = kv := by
  apply without_of_not_mem
  intro hm
  obtain ⟨q, hq, e⟩ := List.mem_map.mp hm
  unfold valueAt at h
  rw [Option.map_eq_none_iff, List.find?_eq_none] at h
  exact absurd e (by simpa using h q hq)
theorem without_len (kv : KV) (o : Int) : (without kv o).length ≤ kv.length := List.length_filter_le _ _
/-- the view with one place changed -/
def vset (V : Key → KV) (k : Key) (kv : KV) : Key → KV := fun k' => if k' = k then kv else V k'
theorem vset_self (V : Key → KV) (k : Key) : vset V k (V k) = V := by
  funext k'
  unfold vset
  by_cases e : k' = k
  · rw [if_pos e, e]
  · rw [if_neg e]
theorem free_spec (w : World) (t : Addr) (news : Led) (p : Parts) (n : Nat) (TT : Tab PySem.Challenge.rw_xm0751_01.row.prog w news t p n) (hn : n ≤ 1000) (o : Int) (to : Tok) (x y : Str) (tx ty : Tok) :
    Spec 3 w 153 [.ref t, .int o to, .str x tx, .str y ty] news (fun v news' => v = .none ∧ Kept news news' ∧ ∃ p', Tab PySem.Challenge.rw_xm0751_01.row.prog w news' t p' n ∧ p'.view = vset p.view (.s [x, y]) (without (p.view (.s [x, y])) o)) := by
  unfold Spec
  k_fill
  intro mean mg mb dp un gd cn cs ca ccd cl outer A₀ base h₀ L m s Q E B F X N T hk hd hu hret
  have N2 := TT.led2 N (fun _ h => h)
  have hds := TT.isD_s
  clear N
  refine wpAny_call ?_
  k_dflt cell_enter
  k_steps
  refine Halt.mk ?_
  rename_i D1 h1 l0 d1 h2 o1 F1 N1 lo1 hs1 fs1 hi1 fi1 l1
  refine get_s (TT.up (fun q hq => by repeat (first | exact hq | exact List.mem_append_right _ hq | refine List.mem_cons_of_mem _ ?_))) N1 ⟨_, List.mem_cons_self .., hi1⟩ lo1 (k := [x, y]) (key2 (by k_mem)) (by ktr_units) ?_
  intro r tk hr lr hcase
  k_steps
  refine Halt.mk ?_
  refine dpop2 (In1.at N1 hr) (intKind_is _ _ _ _) lr rfl (Nat.le_trans (TT.len_view _) (Nat.le_trans hn (by decide))) (fun hno => ?_) (fun v hv h' hd' hs' => ?_)
  · k_steps
    exact hret _ _ _ news ⟨rfl, Kept.refl, p, TT, by rw [without_none hno, vset_self]⟩ (by assumption) (news_sub (by assumption) (fun q hq => by repeat (first | exact hq | exact List.mem_append_right _ hq | refine List.mem_cons_of_mem _ ?_)))
  · rcases hcase with ⟨_, e0⟩ | ha
    · rw [e0] at hv; cases hv
    · obtain ⟨led', p', F', N', T', v1, v2, kp⟩ := inner_set (TT.up (led := (d1, o1) :: _) (fun q hq => by repeat (first | exact hq | exact List.mem_append_right _ hq | refine List.mem_cons_of_mem _ ?_))) F1 N1 ha hd' hs' (Nat.le_refl n) (Nat.le_trans (without_len _ _) (TT.len_view _))
      k_steps
      exact hret _ _ _ led' ⟨rfl, fun q hq hc => kp q (by simp [hq]) hc, p', T', v1⟩ (by assumption) (by assumption)
theorem put_none_spec (w : World) (t : Addr) (news : Led) (p : Parts) (n : Nat) (TT : Tab PySem.Challenge.rw_xm0751_01.row.prog w news t p n) (hn : n ≤ 1000) (o : Int) (to : Tok) (x : Str) (tx : Tok)  (tl : Tok) :
    Spec 3 w 102 [.ref t, .int o to, .str x tx, .int 0 tl] news (fun v news' => v = .none ∧ Kept news news' ∧ ∃ p', Tab PySem.Challenge.rw_xm0751_01.row.prog w news' t p' (n + 1) ∧ p'.view = vset p.view (.l x) (without (p.view (.l x)) o)) := by
  unfold Spec
  k_fill
  intro mean mg mb dp un gd cn cs ca ccd cl outer A₀ base h₀ L m s Q E B F X N T hk hd hu hret
  have N2 := TT.led2 N (fun _ h => h)
  have hds := TT.isD_l
  clear N
  refine wpAny_call ?_
  k_dflt cell_enter
  k_steps
  refine Halt.mk ?_
  rename_i h1 d1 h2 o1 F1 N1 lo1 hs1 fs1 hi1 fi1 l1
  have hfr := TT.fresh (e := d1) (lt_of_allLt news l1.2.2)
  refine sd_l (TT.up (fun q hq => by repeat (first | exact hq | exact List.mem_append_right _ hq | refine List.mem_cons_of_mem _ ?_))) F1 N1 (List.mem_cons_self ..) hi1 hfr.1 hfr.2 lo1 (Nat.le_trans hn (by decide)) ?_
  intro r h3 led3 p3 F3 N3 T3 v3 a3 k3
  have hr := T3.in_adr a3
  have lr := T3.sys _ (Parts.in_dicts (adr_inner a3))
  have hkept : Kept news led3 := fun q hq hc => k3 q (by simp [hq]) hc
  k_steps
  refine Halt.mk ?_
  refine dpop2 (In1.at (by assumption) hr) (intKind_is _ _ _ _) lr rfl (Nat.le_trans (T3.len_view _) (Nat.le_trans (Nat.succ_le_succ hn) (by decide))) (fun hno => ?_) (fun v hv h' hd' hs' => ?_)
  · k_steps
    rw [v3] at hno
    exact hret _ _ _ led3 ⟨rfl, hkept, p3, T3, by rw [without_none hno, vset_self, v3]⟩ (by assumption) (by assumption)
  · rename_i F4 N4
    obtain ⟨led', p', F', N', T', v1, v2, kp⟩ := inner_set T3 F4 N4 a3 hd' hs' (Nat.le_refl _) (Nat.le_trans (without_len _ _) (T3.len_view _))
    k_steps
    exact hret _ _ _ led' ⟨rfl, hkept.trans kp, p', T', by rw [v1, v3]; rfl⟩ (by assumption) (by assumption)
theorem put_shared_spec (w : World) (t : Addr) (news : Led) (p : Parts) (n : Nat) (TT : Tab PySem.Challenge.rw_xm0751_01.row.prog w news t p n) (hn : n ≤ 1000) (o : Int) (to : Tok) (x : Str) (tx : Tok)  (tl : Tok) :
    Spec 3 w 102 [.ref t, .int o to, .str x tx, .int 1 tl] news (fun v news' => v = .none ∧ Kept news news' ∧ ∃ p', Tab PySem.Challenge.rw_xm0751_01.row.prog w news' t p' (n + 1) ∧ p'.view = vset p.view (.l x) (stored (p.view (.l x)) o (.int 1 tl))) := by
  unfold Spec
  k_fill
  intro mean mg mb dp un gd cn cs ca ccd cl outer A₀ base h₀ L m s Q E B F X N T hk hd hu hret
  have N2 := TT.led2 N (fun _ h => h)
  have hds := TT.isD_l
  clear N
  refine wpAny_call ?_
  k_dflt cell_enter
  k_steps
  refine Halt.mk ?_
  rename_i h1 d1 h2 o1 F1 N1 lo1 hs1 fs1 hi1 fi1 l1
  have hfr := TT.fresh (e := d1) (lt_of_allLt news l1.2.2)
  refine sd_l (TT.up (fun q hq => by repeat (first | exact hq | exact List.mem_append_right _ hq | refine List.mem_cons_of_mem _ ?_))) F1 N1 (List.mem_cons_self ..) hi1 hfr.1 hfr.2 lo1 (Nat.le_trans hn (by decide)) ?_
  intro r h3 led3 p3 F3 N3 T3 v3 a3 k3
  have hr := T3.in_adr a3
  have lr := T3.sys _ (Parts.in_dicts (adr_inner a3))
  have hkept : Kept news led3 := fun q hq hc => k3 q (by simp [hq]) hc
  k_steps
  refine Halt.mk ?_
  rename_i F4 N4
  refine wpAny_setItem_pairs (knd := intKind _ _) (intKind_is _ _ _ _) (In1.at (by assumption) hr) (fun h' hd' hs' => ?_) (Nat.le_trans (T3.len_view _) (Nat.le_trans (Nat.succ_le_succ hn) (by decide)))
  obtain ⟨led', p', F', N', T', v1, v2, kp⟩ := inner_set T3 F4 N4 a3 hd' hs' (Nat.le_refl _) (Nat.le_trans (stored_length_le _ _ _) (by rw [v3]; exact Nat.succ_le_succ (TT.len_view _)))
  k_steps
  exact hret _ _ _ led' ⟨rfl, hkept.trans kp, p', T', by rw [v1, v3]; rfl⟩ (by assumption) (by assumption)
theorem mark_none_spec (w : World) (t : Addr) (news : Led) (p : Parts) (n : Nat) (TT : Tab PySem.Challenge.rw_xm0751_01.row.prog w news t p n) (hn : n ≤ 1000) (o : Int) (to : Tok) (x : Str) (tx : Tok)  :
    Spec 3 w 167 [.ref t, .int o to, .str x tx, .none] news (fun v news' => v = .none ∧ Kept news news' ∧ ∃ p', Tab PySem.Challenge.rw_xm0751_01.row.prog w news' t p' (n + 1) ∧ p'.view = vset p.view (.m x) (without (p.view (.m x)) o)) := by
  unfold Spec
  k_fill
  intro mean mg mb dp un gd cn cs ca ccd cl outer A₀ base h₀ L m s Q E B F X N T hk hd hu hret
  have N2 := TT.led2 N (fun _ h => h)
  have hds := TT.isD_m
  clear N
  refine wpAny_call ?_
  k_dflt cell_enter
  k_steps
  refine Halt.mk ?_
  rename_i h1 d1 h2 o1 F1 N1 lo1 hs1 fs1 hi1 fi1 l1
  have hfr := TT.fresh (e := d1) (lt_of_allLt news l1.2.2)
  refine sd_m (TT.up (fun q hq => by repeat (first | exact hq | exact List.mem_append_right _ hq | refine List.mem_cons_of_mem _ ?_))) F1 N1 (List.mem_cons_self ..) hi1 hfr.1 hfr.2 lo1 (Nat.le_trans hn (by decide)) ?_
  intro r h3 led3 p3 F3 N3 T3 v3 a3 k3
  have hr := T3.in_adr a3
  have lr := T3.sys _ (Parts.in_dicts (adr_inner a3))
  have hkept : Kept news led3 := fun q hq hc => k3 q (by simp [hq]) hc
  k_steps
  refine Halt.mk ?_
  refine dpop2 (In1.at (by assumption) hr) (intKind_is _ _ _ _) lr rfl (Nat.le_trans (T3.len_view _) (Nat.le_trans (Nat.succ_le_succ hn) (by decide))) (fun hno => ?_) (fun v hv h' hd' hs' => ?_)
  · k_steps
    rw [v3] at hno
    exact hret _ _ _ led3 ⟨rfl, hkept, p3, T3, by rw [without_none hno, vset_self, v3]⟩ (by assumption) (by assumption)
  · rename_i F4 N4
    obtain ⟨led', p', F', N', T', v1, v2, kp⟩ := inner_set T3 F4 N4 a3 hd' hs' (Nat.le_refl _) (Nat.le_trans (without_len _ _) (T3.len_view _))
    k_steps
    exact hret _ _ _ led' ⟨rfl, hkept.trans kp, p', T', by rw [v1, v3]; rfl⟩ (by assumption) (by assumption)
theorem mark_int_spec (w : World) (t : Addr) (news : Led) (p : Parts) (n : Nat) (TT : Tab PySem.Challenge.rw_xm0751_01.row.prog w news t p n) (hn : n ≤ 1000) (o : Int) (to : Tok) (x : Str) (tx : Tok) (mk : Int)  (tl : Tok) :
    Spec 3 w 167 [.ref t, .int o to, .str x tx, .int mk tl] news (fun v news' => v = .none ∧ Kept news news' ∧ ∃ p', Tab PySem.Challenge.rw_xm0751_01.row.prog w news' t p' (n + 1) ∧ p'.view = vset p.view (.m x) (stored (p.view (.m x)) o (.int mk tl))) := by
  unfold Spec
  k_fill
  intro mean mg mb dp un gd cn cs ca ccd cl outer A₀ base h₀ L m s Q E B F X N T hk hd hu hret
  have N2 := TT.led2 N (fun _ h => h)
  have hds := TT.isD_m
  clear N
  refine wpAny_call ?_
  k_dflt cell_enter
  k_steps
  refine Halt.mk ?_
  rename_i h1 d1 h2 o1 F1 N1 lo1 hs1 fs1 hi1 fi1 l1
  have hfr := TT.fresh (e := d1) (lt_of_allLt news l1.2.2)
  refine sd_m (TT.up (fun q hq => by repeat (first | exact hq | exact List.mem_append_right _ hq | refine List.mem_cons_of_mem _ ?_))) F1 N1 (List.mem_cons_self ..) hi1 hfr.1 hfr.2 lo1 (Nat.le_trans hn (by decide)) ?_
  intro r h3 led3 p3 F3 N3 T3 v3 a3 k3
  have hr := T3.in_adr a3
  have lr := T3.sys _ (Parts.in_dicts (adr_inner a3))
  have hkept : Kept news led3 := fun q hq hc => k3 q (by simp [hq]) hc
  k_steps
  refine Halt.mk ?_
  rename_i F4 N4
  refine wpAny_setItem_pairs (knd := intKind _ _) (intKind_is _ _ _ _) (In1.at (by assumption) hr) (fun h' hd' hs' => ?_) (Nat.le_trans (T3.len_view _) (Nat.le_trans (Nat.succ_le_succ hn) (by decide)))
  obtain ⟨led', p', F', N', T', v1, v2, kp⟩ := inner_set T3 F4 N4 a3 hd' hs' (Nat.le_refl _) (Nat.le_trans (stored_length_le _ _ _) (by rw [v3]; exact Nat.succ_le_succ (TT.len_view _)))
  k_steps
  exact hret _ _ _ led' ⟨rfl, hkept.trans kp, p', T', by rw [v1, v3]; rfl⟩ (by assumption) (by assumption)
end
end Mine

namespace Mine
section
open PySem PySem.W PyProof.Rows
set_option maxRecDepth 100000
set_option maxHeartbeats 4000000
/-- an own exception class C over an own class P over the built-in B -/
structure Two (h : Heap) (C P : Addr) (bmB : List Value) (newId : String) (mN mP : Str → Option Value) : Prop where
  obj : ∃ nm q N bs sn sub ab col dd k0 k1 k2 k3 k5, h.get? C = some (excClassObj nm q C N bs (.ref P :: bmB) true sn sub ab col dd k0 k1 k2 k3 k5 newId) ∧ h.Ns N mN
  par : ∃ c0 dd cd sl, h.get? P = some { cls := c0, dict := dd, data := .cls cd, slots := sl } ∧ h.Ns cd.ns mP
theorem Two.keeps {h h' : Heap} {C P : Addr} {bmB : List Value} {newId : String} {mN mP : Str → Option Value} (T : Two h C P bmB newId mN mP) (k : ∀ b o, h.get? b = some o → h'.get? b = some o) : Two h' C P bmB newId mN mP := by
  obtain ⟨⟨nm, q, N, bs, sn, sub, ab, col, dd, k0, k1, k2, k3, k5, hC, hN⟩, c0, dd', cd, sl, hP, hM⟩ := T
  exact ⟨⟨nm, q, N, bs, sn, sub, ab, col, dd, k0, k1, k2, k3, k5, k _ _ hC, hN.keeps k⟩, c0, dd', cd, sl, k _ _ hP, hM.keeps k⟩
section
variable {M : Model} {A : Around} {E : Value → Shared → Prop} {h : Heap} {g : Array GenState} {d : Drawn} {t : Nat} {os : OsState}
variable {C P : Addr} {bmB : List Value} {mN mP : Str → Option Value} {B newId initId : String}
theorem Two.look {name : Str} {y : Option Value} {Q : Option Value → Shared → Prop} (T : Two h C P bmB newId mN mP) (hbm : mroOf (.type B) = pure bmB) (hB : typeLookup (.type B) name = pure y)
    (hn : mN name = none) (hq : Q (match mP name with | some v => some v | none => y) ⟨h, g, d, t, os⟩) : wpAny M A (typeLookup (.ref C) name) Q E ⟨h, g, d, t, os⟩ := by
  obtain ⟨⟨nm, q, N, bs, sn, sub, ab, col, dd, k0, k1, k2, k3, k5, hC, hN⟩, c0, dd', cd, sl, hP, hM⟩ := T
  have hrest : lookupAlong bmB name = pure y := by rw [typeLookup_eq, hbm] at hB; exact hB
  rw [typeLookup_eq]
  refine wpAny_bind (wpAny_mroOf_exc hC ?_)
  rw [lookupAlong_cons]
  refine wpAny_bind (wpAny_classOwn_exc hC hN ?_)
  rw [hn]
  dsimp only
  rw [lookupAlong_cons]
  refine wpAny_bind (wpAny_classOwn_cls hP hM ?_)
  cases hv : mP name with
  | some v => rw [hv] at hq; exact wpAny_pure hq
  | none => rw [hv] at hq; dsimp only; rw [hrest]; exact wpAny_pure hq
theorem two_has {X : String} {b : Bool} (hb : bmB.contains (.type X) = b) : (Value.ref C :: .ref P :: bmB).contains (.type X) = b := by
  rw [List.contains_cons, List.contains_cons, hb]
  rfl
theorem two_check_new (F : ExcBaseFacts B newId initId bmB) (T : Two h C P bmB newId mN mP) {rest : List Value} {Q : Unit → Shared → Prop} (hq : Q () ⟨h, g, d, t, os⟩) :
    wpAny M A (checkBuiltinCall newId ⟨.ref C :: rest, []⟩) Q E ⟨h, g, d, t, os⟩ := by
  obtain ⟨⟨nm, q, N, bs, sn, sub, ab, col, dd, k0, k1, k2, k3, k5, hC, hN⟩, _⟩ := T
  have hcont : (Value.ref C :: .ref P :: bmB).contains (.type B) = true := two_has F.hasB
  have hstar := F.noStar
  simp only [checkBuiltinCall, F.newKind, F.newSplit, F.newRow]
  repeat (first | refine wpAny_loadPart_at hC ?_ | (refine wpAny_isSubtype_exc hC ?_; rw [hcont]) | refine wpAny_staticBase_exc hC ?_ | refine wpAny_madeBy_exc hC ?_ | simp only [bne_self_eq_false, Bool.false_eq_true, if_false] | wp_step)
  exact hq
end
section
variable {prog : Program} {w : World} {A : Around} {R : Result → Shared → Prop} {h : Heap} {g : Array GenState} {d : Drawn} {t : Nat} {os : OsState}
variable {C P : Addr} {bmB : List Value} {mN mP : Str → Option Value} {B newId initId : String}
theorem two_new (F : ExcBaseFacts B newId initId bmB) (T : Two h C P bmB newId mN mP) {rest : List Value}
    (hq : R (.ok (.ret (.ref (h.objs.size + 1)))) ⟨(h.push { cls := .type "tuple", data := .seq rest.toArray }).push
      { cls := .ref C, data := .fields #[.ref h.objs.size, .none, .none, .none, .bool false, .none] }, g, d, t, os⟩) (hrest : rest.length ≤ sizeLine := by size_fits) :
    codeAny (model prog w) A (.builtin newId ⟨.ref C :: rest, []⟩) R ⟨h, g, d, t, os⟩ := by
  obtain ⟨⟨nm, q, N, bs, sn, sub, ab, col, dd, k0, k1, k2, k3, k5, hC, hN⟩, _⟩ := T
  have hends := F.ends
  have hcB : (Value.ref C :: .ref P :: bmB).contains (.type B) = true := two_has F.hasB
  have hcA : (Value.ref C :: .ref P :: bmB).contains (.type "AttributeError") = false := two_has F.noAttr
  have hcN : (Value.ref C :: .ref P :: bmB).contains (.type "NameError") = false := two_has F.noName
  refine codeAny_builtinAt F.entry ?_
  unfold Builtin.«BaseException.__new__»
  refine PySem.wpAt_bind ?_
  show PySem.wpAt _ _ _ (stack >>= _) _ _ _
  refine PySem.wpAt_bind (PySem.wpAt_stack fun p below => PySem.wpAt_of_wpAny ?_)
  wp_walk
  refine PySem.wpAt_of_wpAny ?_
  rw [F.owner]
  repeat (first | with_reducible refine wpAny_madeHere_exc F.canon hC ?_ | with_reducible refine wpAny_loadPart_at hC ?_ | (with_reducible refine wpAny_isSubtype_exc hC ?_; first | rw [hcB] | rw [hcA] | rw [hcN]) | wp_step)
  show R _ _
  rw [Heap.size_push]
  exact hq
end
section
variable {prog : Program} {w : World} {A : Around} {E : Value → Shared → Prop} {h : Heap} {g : Array GenState} {d : Drawn} {t : Nat} {os : OsState}
variable {C P : Addr} {bmB : List Value} {mN mP : Str → Option Value} {B newId initId : String}
theorem two_type_call (F : ExcBaseFacts B newId initId bmB) (T : Two h C P bmB newId mN mP) {rest : List Value} {fI : Addr} {oI : Obj} {Q : Fin → Shared → Prop}
    (hni : mN "__init__" = none) (hi : mP "__init__" = some (.ref fI)) (hfI : h.get? fI = some oI) (hfc : oI.cls = .type "function")
    (hq : ∀ h' e, Heap.MadeExcOf h h' e (.ref C) rest →
      wpAny (model prog w) A (call (.ref fI) (.ref e :: rest)) (fun r s' => r = .none ∧ Q (.done (.ret (.ref e))) s') E ⟨h', g, d, t, os⟩) (hrest : rest.length ≤ sizeLine := by size_fits) :
    wpAny (model prog w) A (Builtin.«type.__call__» ⟨.ref C :: rest, []⟩) Q E ⟨h, g, d, t, os⟩ := by
  obtain ⟨⟨nm, q, N, bs, sn, sub, ab, col, dd, k0, k1, k2, k3, k5, hC, hN⟩, hPP⟩ := id T
  repeat (first | with_reducible refine wpAny_loadPart_at hC ?_ | with_reducible refine wpAny_madeBy_exc hC ?_ | wp_step)
  refine codeAny_call_builtin_code (Code.quiet_builtin _ F.quiet) (two_check_new F T ?_)
  refine two_new F T ?_ hrest
  show wpAny _ _ _ _ _ _
  have kp : ∀ b o, h.get? b = some o → ((h.push { cls := .type "tuple", data := .seq rest.toArray }).push { cls := .ref C, data := .fields #[.ref h.objs.size, .none, .none, .none, .bool false, .none] }).get? b = some o := fun b o e => Heap.get?_push_of_some _ (Heap.get?_push_of_some _ e)
  have hC₁ := kp _ _ hC
  have hfI₁ := kp _ _ hfI
  have T₁ := T.keeps kp
  have hget : ((h.push { cls := .type "tuple", data := .seq rest.toArray }).push
      { cls := .ref C, data := .fields #[.ref h.objs.size, .none, .none, .none, .bool false, .none] }).get? (h.objs.size + 1) = some
      { cls := .ref C, data := .fields #[.ref h.objs.size, .none, .none, .none, .bool false, .none] } := by heap_get
  have hcC : (Value.ref C :: .ref P :: bmB).contains (.ref C) = true := by simp
  unfold isInstance
  repeat (first | with_reducible refine wpAny_loadPart_at hget ?_ | (with_reducible refine wpAny_isSubtype_exc hC₁ ?_; rw [hcC]) | wp_step)
  show wpAny _ _ (typeLookup (.ref C) _) _ _ _
  refine T₁.look F.mroIs F.init.lookup hni ?_
  rw [hi]
  refine wpAny_holding (wpAny_bind ?_)
  unfold bindSpecial
  refine wpAny_bind (wpAny_typeOf (T := "function") ⟨_, hfI₁, hfc⟩ ?_)
  rw [if_pos (by decide)]
  refine wpAny_pure (wpAny_bind (wpAny_mono (hq _ (h.objs.size + 1) ⟨fun b o hb => Heap.get?_push_of_some _ (Heap.get?_push_of_some _ hb), Heap.get?_none_of_le (Nat.le_succ _), h.objs.size, hget, Heap.get?_none_of_le (Nat.le_refl _), ?_⟩) (fun r s' hr => ?_) fun _ _ x => x))
  · exact Heap.get?_push_of_some _ (Heap.get?_push_at rfl rfl)
  · obtain ⟨rfl, hQ⟩ := hr
    wp_walk
    exact hQ
theorem two_call (F : ExcBaseFacts B newId initId bmB) (T : Two h C P bmB newId mN mP) {rest : List Value} {fI : Addr} {oI : Obj} {Q : Value → Shared → Prop}
    (hni : mN "__init__" = none) (hi : mP "__init__" = some (.ref fI)) (hfI : h.get? fI = some oI) (hfc : oI.cls = .type "function")
    (hq : ∀ h' e, Heap.MadeExcOf h h' e (.ref C) rest →
      wpAny (model prog w) (A.under (.builtin "type.__call__" ⟨.ref C :: rest, []⟩)) (call (.ref fI) (.ref e :: rest)) (fun r s' => r = .none ∧ Q (.ref e) s') E ⟨h', g, d, t, os⟩) (hrest : rest.length ≤ sizeLine := by size_fits) :
    wpAny (model prog w) A (call (.ref C) rest) Q E ⟨h, g, d, t, os⟩ := by
  obtain ⟨⟨nm, q, N, bs, sn, sub, ab, col, dd, k0, k1, k2, k3, k5, hC, hN⟩, hPP⟩ := id T
  have f1 := tc_lookup
  have f2 := tc_bind (.ref C)
  have hT : (⟨h, g, d, t, os⟩ : Shared).TypeIs (.ref C) "type" := ⟨_, hC, rfl⟩
  refine wpAny_call (codeAny_of_tree ?_)
  show wpAny _ _ (callAny (.ref C) _) _ _ _
  repeat (any_goals (first | assumption | with_reducible refine wpAny_loadPart_at hC ?_ | wp_step))
  refine ⟨rfl, ?_⟩
  refine codeAny_call_builtin_at (Code.quiet_builtin _ (by decide +kernel)) entry_typeCall (wpAny_check_type_call_sub hC (two_type_call (hrest := hrest) F T hni hi hfI hfc fun h' e hm => ?_))
  exact hq h' e hm
open Builtin Builtin.ObjectAttr in
theorem two_store {tk : Tok} {sa owner : String} {x : Addr} {o : Obj} {name : Str} {v : Value} {Q : Fin → Shared → Prop} (SF : StoreFacts B bmB sa owner) (T : Two h C P bmB newId mN mP)
    (hna : mN name = none) (hpa : mP name = none) (hB : typeLookup (.type B) name = pure none) (hx : h.get? x = some o) (hc : o.cls = .ref C) (hnc : ∀ c, o.data ≠ .cls c) (hdn : o.dict = none)
    (hq : ∀ h' tk', (∃ dx, h'.get? x = some { o with dict := some dx }) → (∀ b ob, b ≠ x → h.get? b = some ob → h'.get? b = some ob) → Q (.done (.ret .none)) ⟨h', g, d, tk', os⟩) :
    wpAny (model prog w) A (Builtin.«object.__setattr__» ⟨[.ref x, .str name tk, v], []⟩) Q E ⟨h, g, d, t, os⟩ := by
  obtain ⟨⟨nm, q, N, bs, sn, sub, ab, col, dd, k0, k1, k2, k3, k5, hC, hN⟩, hPP⟩ := id T
  have hpass := SF.passes (.ref x)
  unfold Builtin.«object.__setattr__»
  repeat (first | rw [refuse_eq] | (rw [refuseLoop_ref, refuseLoop_ref, hpass]) | (with_reducible refine wpAny_loadPart_at hx ?_; rw [hc]) | with_reducible refine wpAny_mroOf_exc hC ?_ | (with_reducible refine T.look SF.mro hB hna ?_; rw [hpa]) | wp_step)
  rw [hdn, if_neg (by simp [typeHasDict])]
  split
  · rename_i hcd
    cases hcd
  split
  · rename_i c hcd
    exact absurd hcd (hnc c)
  · have hx₁ : (h.push { cls := .type "dict", data := .dict #[] }).get? x = some o := Heap.get?_push_of_some _ hx
    have hxs : x ≠ h.objs.size := Nat.ne_of_lt (Heap.lt_size hx)
    refine wpAny_bind (wpAny_alloc' ?_)
    refine wpAny_bind (wpAny_update' hx₁ ?_)
    refine wpAny_pure ?_
    have hgd : ((h.push { cls := .type "dict", data := .dict #[] }).update x fun o => { cls := o.cls, dict := some h.objs.size, data := o.data, slots := o.slots }).get? h.objs.size
        = some { cls := .type "dict", data := .dict #[] } :=
      (Heap.get?_update_ne _ _ _ _ hxs.symm).trans (Heap.get?_push_at rfl rfl)
    have hnd : ((h.push { cls := .type "dict", data := .dict #[] }).update x fun o => { cls := o.cls, dict := some h.objs.size, data := o.data, slots := o.slots }).Ns h.objs.size (fun _ => none) :=
      ⟨_, #[], _, hgd, rfl, fun e he => absurd he (by simp), fun _ => rfl⟩
    show wpAny _ _ (storeInDict h.objs.size (.str name tk) name v) _ _ _
    unfold storeInDict newKeyGuard
    refine wpAny_bind (wpAny_pure (wpAny_bind (wpAny_nsSet1 (Heap.Ns1.of_empty hnd) fun h' hn' hs => ?_)))
    obtain ⟨oD, esD, epD, hoD, hdD, hcD⟩ := hn'.count (Within.cons name v Within.nil)
    refine wpAny_bind (wpAny_lookBehind hoD (by rw [hdD]; exact pastItsLine_dict (Nat.le_trans hcD (by rw [List.length_cons, List.length_nil, sizeLine_eq]; omega))) ?_)
    wp_walk
    refine hq h' _ ⟨h.objs.size, (hs.2 x hxs).trans (Heap.get?_update_self _ hx₁ ?_)⟩ fun b ob hbx hb => (hs.2 b (Nat.ne_of_lt (Heap.lt_size hb))).trans ((Heap.get?_update_ne _ _ _ _ hbx).trans (Heap.get?_push_of_some _ hb))
    have hfr := (Heap.get?_some_iff.mp hx).2
    obtain ⟨oc, od, odt, osl⟩ := o
    cases odt <;> first | rfl | exact hfr
theorem two_check_sa {M : Model} {x : Addr} {o : Obj} {v nameV : Value} {sa owner : String} {Q : Unit → Shared → Prop} (SF : StoreFacts B bmB sa owner) (T : Two h C P bmB newId mN mP)
    (hx : h.get? x = some o) (hc : o.cls = .ref C) (hq : Q () ⟨h, g, d, t, os⟩) : wpAny M A (checkBuiltinCall sa ⟨[.ref x, nameV, v], []⟩) Q E ⟨h, g, d, t, os⟩ := by
  obtain ⟨⟨nm, q, N, bs, sn, sub, ab, col, dd, k0, k1, k2, k3, k5, hC, hN⟩, hPP⟩ := id T
  have hcB : (Value.ref C :: .ref P :: bmB).contains (.type owner) = true := two_has SF.hasOwner
  have ha := SF.args (.ref x) nameV v
  simp only [checkBuiltinCall, SF.kind, SF.split]
  refine wpAny_bind ?_
  · unfold isInstance
    repeat (first | (with_reducible refine wpAny_loadPart_at hx ?_; rw [hc]) | (with_reducible refine wpAny_isSubtype_exc hC ?_; rw [hcB]) | wp_step)
    cases hsig : Manifest.signature? sa with
    | none => exact wpAny_pure hq
    | some sig =>
      simp only [argsOk, hsig] at ha
      have h2 : Bind.checkArgs sa sig ⟨[.ref x, nameV, v], []⟩ = pure () := ha
      show wpAny M A (Bind.checkArgs sa sig ⟨[.ref x, nameV, v], []⟩) Q E _
      rw [h2]; exact wpAny_pure hq
theorem two_set {sa owner : String} {x : Addr} {o : Obj} {name : Str} {v : Value} {Q : Unit → Shared → Prop} (SF : StoreFacts B bmB sa owner) (T : Two h C P bmB newId mN mP)
    (hns : mN "__setattr__" = none) (hps : mP "__setattr__" = none) (hna : mN name = none) (hpa : mP name = none) (hB : typeLookup (.type B) name = pure none) (hx : h.get? x = some o) (hc : o.cls = .ref C) (hnc : ∀ c, o.data ≠ .cls c) (hdn : o.dict = none)
    (hq : ∀ h' tk', (∃ dx, h'.get? x = some { o with dict := some dx }) → (∀ b ob, b ≠ x → h.get? b = some ob → h'.get? b = some ob) → Q () ⟨h', g, d, tk', os⟩) :
    wpAny (model prog w) A (setAttr (.ref x) name v) Q E ⟨h, g, d, t, os⟩ := by
  have f3 := SF.slot.bind (.ref x)
  unfold setAttr callSpecial? specialOf
  repeat (any_goals (first | assumption | (with_reducible refine wpAny_loadPart_at hx ?_; rw [hc]) | (with_reducible refine T.look SF.mro SF.slot.lookup hns ?_; rw [hps]) | wp_step))
  refine codeAny_call_builtin SF.slot.plain SF.entry (two_check_sa SF T hx hc (two_store SF T hna hpa hB hx hc hnc hdn fun h' tk' I' hk => ?_))
  repeat (any_goals (first | assumption | wp_step))
  exact hq h' tk' I' hk
end
end
end Mine

namespace Mine
section
local macro_rules | `(tactic| walk_at "unused 0") => `(tactic| fail)
open PySem PySem.W PyProof.Rows
set_option maxRecDepth 100000
set_option maxHeartbeats 4000000
theorem ns_some_in {K : Frag} {h : Heap} {N : Addr} {mg : Str → Option Value} {n : Str} {v : Value} (X : K.In h) (G : h.Ns N mg) (e : nsIn K N n = some (some v)) : mg n = some v := by
  obtain ⟨o, es, ep, ho, hd, _, hf⟩ := G
  unfold nsIn at e
  split at e
  · rename_i c d es' n' sl q
    have := X _ _ q
    rw [ho] at this
    cases this
    cases hd
    split at e
    · rename_i e' he
      rw [← hf]
      unfold nsFind findBy
      rw [← Array.find?_toList, he]
      simpa using e
    · split at e <;> cases e
  · cases e
abbrev bmE : List Value := [.type "Exception", .type "BaseException", .type "object"]
def exc2In (K : Frag) (C P fI : Addr) : Bool := match K.lookup C, K.lookup P, K.lookup fI with
  | some oC, some oP, some oI => (match oC.data, oP.data, oC.slots.toList with
    | .cls cd, .cls cp, [_, _, _, _, some n5, _] => oC.cls == .type "type" && oI.cls == .type "function" && cd.mro == .ref C :: .ref P :: bmE && n5 == .builtin "Exception.__new__" && !cd.hasDel && cd.hasDict && nsOkIn K cd.ns && nsOkIn K cp.ns &&
        nsIn K cd.ns "__init__" == some none && nsIn K cp.ns "__init__" == some (some (.ref fI)) && nsIn K cd.ns "__setattr__" == some none && nsIn K cp.ns "__setattr__" == some none && nsIn K cd.ns "message" == some none && nsIn K cp.ns "message" == some none
    | _, _, _ => false)
  | _, _, _ => false
structure TwoIn (h : Heap) (C P fI : Addr) (mN mP : Str → Option Value) : Prop where
  two : Two h C P bmE "Exception.__new__" mN mP
  ni : mN "__init__" = none
  pi : mP "__init__" = some (.ref fI)
  ns : mN "__setattr__" = none
  ps : mP "__setattr__" = none
  nm : mN "message" = none
  pm : mP "message" = none
  fn : ∃ oI, h.get? fI = some oI ∧ oI.cls = .type "function"
theorem TwoIn.keeps {h h' : Heap} {C P fI : Addr} {mN mP : Str → Option Value} (T : TwoIn h C P fI mN mP) (k : ∀ b o, h.get? b = some o → h'.get? b = some o) : TwoIn h' C P fI mN mP :=
  ⟨T.two.keeps k, T.ni, T.pi, T.ns, T.ps, T.nm, T.pm, let ⟨o, a, b⟩ := T.fn; ⟨o, k _ _ a, b⟩⟩
theorem two_of_in {K : Frag} {h : Heap} {C P fI : Addr} (X : K.In h) (q : exc2In K C P fI = true) : ∃ mN mP, TwoIn h C P fI mN mP := by
  unfold exc2In at q
  split at q
  · rename_i oC oP oI hC hP hI
    split at q
    · rename_i cd cp k0 k1 k2 k3 n5 k5 hd1 hd2 hs
      simp only [Bool.and_eq_true, beq_iff_eq, Bool.not_eq_true'] at q
      obtain ⟨⟨⟨⟨⟨⟨⟨⟨⟨⟨⟨⟨⟨hcC, hcI⟩, hm⟩, rfl⟩, hdel⟩, hdi⟩, hok⟩, hokp⟩, e1⟩, e2⟩, e3⟩, e4⟩, e5⟩, e6⟩ := q
      obtain ⟨cC, dd, dC, sl⟩ := oC
      obtain ⟨c0, dp, dP, slp⟩ := oP
      obtain ⟨nm, bs, mro, ns, qn, hd, sn, sub, ab, col, del⟩ := cd
      dsimp only at hcC hd1 hd2 hs hm hdel hok hdi e1 e3 e5
      subst hcC hd1 hd2 hm hdel hdi
      have hsl : sl = #[k0, k1, k2, k3, some (.builtin "Exception.__new__"), k5] := by
        obtain ⟨l⟩ := sl
        simp only at hs
        rw [hs]
      subst hsl
      have n1 : h.Ns ns (h.nsMap ns) := .of_isNs (isNs_of_in X hok)
      have n2 : h.Ns cp.ns (h.nsMap cp.ns) := .of_isNs (isNs_of_in X hokp)
      exact ⟨_, _, ⟨⟨nm, qn, ns, bs, sn, sub, ab, col, dd, k0, k1, k2, k3, k5, X _ _ hC, n1⟩, c0, dp, cp, slp, X _ _ hP, n2⟩, ns_none_of X n1 e1, ns_some_in X n2 e2, ns_none_of X n1 e3, ns_none_of X n2 e4, ns_none_of X n1 e5, ns_none_of X n2 e6, _, X _ _ hI, hcI⟩
    · cases q
  · cases q

abbrev excObj (C : Addr) (dd : Option Addr) (t : Addr) : Obj := { cls := .ref C, dict := dd, data := .fields #[.ref t, .none, .none, .none, .bool false, .none] }
abbrev tupObj (vs : List Value) : Obj := { cls := .type "tuple", data := .seq vs.toArray }
def Raises2 (C P fI : Addr) (mN mP : Str → Option Value) (E : Value → Shared → Prop) (v : Value) (s₁ : Shared) : Prop :=
  ∃ a dd t, TwoIn s₁.heap C P fI mN mP ∧ v = .ref a ∧ s₁.heap.get? a = some (excObj C dd t) ∧ E (.ref a) s₁
theorem raise_two {M : Model} {A : Around} {E : Value → Shared → Prop} {s : Shared} {env : Env} {C P fI : Addr} {mN mP : Str → Option Value} {e : Expr} {pos : Pos} {Q : Flow → Shared → Prop} (hh : A.handled = none)
    (h : wpAny M A (eval e env) (Raises2 C P fI mN mP E) E s) : wpAny M A (exec (.Raise (some e) none pos) env) Q E s := by
  show wpAny M A (do standAt pos; raiseStmt env (some (do let v ← eval e env; standAt pos; pure v)) none) Q E s
  refine wpAny_bind (wpAny_standAt ?_)
  unfold raiseStmt
  dsimp only
  refine wpAny_bind (wpAny_bind (wpAny_mono h (fun v s₁ h₁ => wpAny_bind (wpAny_standAt (wpAny_pure ?_))) fun _ _ x => x))
  obtain ⟨a, dd, t, T, rfl, ha, hE⟩ := h₁
  obtain ⟨⟨nm, q, N, bs, sn, sub, ab, col, dd', k0, k1, k2, k3, k5, hC, hN⟩, _⟩ := T.two
  obtain ⟨hp, g, d, tk, os⟩ := s₁
  have hcB : (Value.ref C :: .ref P :: bmE).contains (.type "BaseException") = true := two_has (by rfl)
  repeat (first | with_reducible refine wpAny_loadPart_at ha ?_ | with_reducible refine wpAny_loadPart_at hC ?_ | (with_reducible refine wpAny_isSubtype_exc hC ?_; rw [hcB]) | wp_step)
  exact wpAny_raiseNew_none hh hE


section
variable {prog : Program} {w : World} {A₀ : Around} {E : Value → Shared → Prop} {s' : Shared} {h₀ h : Heap} {outer : List Env} {L a e t : Addr} {m : Str → Option Value} {name : Str} {scope : Scope} {cd : Value}
  {vs : List Value} {b₀ : Stmt} {suite : List Stmt} {pos np : Pos} {rest : List ExceptHandler} {Q : Flow → Shared → Prop} {news : List (Addr × Obj)} {KF : Frag} {C P fI : Addr}
  {p : Program} {loose : List Str} {mean : ExcName → Option Value} {mg mb : Str → Option Value} {x : Str}
end
end
end Mine

namespace Mine
section
local macro_rules | `(tactic| walk_at "unused 0") => `(tactic| fail)
local macro_rules | `(tactic| walk_at "unused 1") => `(tactic| fail)
open PySem PySem.W PyProof.Rows
set_option maxRecDepth 100000
set_option maxHeartbeats 4000000
theorem exc_typeMsg : typeLookup (.type "Exception") "message" = pure none := by rw [typeLookup_type, builtinLookup_eq_fast]; kernel_rfl
theorem fr_one {h₀ h h' : Heap} {L e : Addr} {m : Str → Option Value} (F : Fr h₀ L h m) (he : e ≠ L) (hn : h₀.get? e = none) (k : ∀ b ob, b ≠ e → h.get? b = some ob → h'.get? b = some ob) : Fr h₀ L h' m := by
  obtain ⟨⟨o, es, ep, hL, r⟩, hk, ha⟩ := F
  exact ⟨⟨o, es, ep, k L o (fun q => he q.symm) hL, r⟩, fun b ob q => k b ob (fun z => by rw [z, hn] at q; cases q) (hk b ob q), ha⟩
theorem news_one {h₀ h h' : Heap} {L e : Addr} {o o' : Obj} {news : Led} (N : News h₀ L h ((e, o) :: news)) (hne : ∀ q ∈ news, q.1 ≠ e) (k : ∀ b ob, b ≠ e → h.get? b = some ob → h'.get? b = some ob) (ho : h'.get? e = some o') : News h₀ L h' ((e, o') :: news) := fun q hq => by
  rcases List.mem_cons.mp hq with rfl | hq
  · exact ⟨ho, (N _ (List.mem_cons_self ..)).2⟩
  · have := N q (List.mem_cons_of_mem _ hq)
    exact ⟨k _ _ (hne q hq) this.1, this.2⟩
theorem exc_in (w : World) : exc2In (hd.heap_1 w.params) 51 38 35 = true := by first | kernel_rfl | (k_fill; k_is)
local macro_rules | `(tactic| walk_at "setAttr ref") => `(tactic| (k_here; refine Halt.out ?_))
theorem init_spec (w : World) (news : Led) (e t : Addr) (x : Str) (tx : Tok) (hne : ∀ q ∈ news, q.1 ≠ e) :
    Spec 1 w 35 [.ref e, .str x tx] ((e, excObj 51 none t) :: news) (fun v news' => v = .none ∧ ∃ dd, news' = (e, excObj 51 dd t) :: news) := by
  unfold Spec
  k_fill
  intro mean mg mb dp un gd cn cs ca ccd cl outer A₀ base h₀ L m s Q E B F X N T hk hd hu hret
  refine wpAny_call ?_
  k_dflt cell_enter
  k_steps
  refine Halt.mk ?_
  rename_i g L' h1 FG F' N' B' X' T'
  obtain ⟨mN, mP, T2⟩ := two_of_in (X'.keeps F'.keep) (exc_in w)
  refine two_set PySem.F.store_Exception T2.two T2.ns T2.ps T2.nm T2.pm exc_typeMsg (N' _ (List.mem_cons_self ..)).1 rfl (fun c hc => by cases hc) rfl ?_
  intro h2 tk2 hx k2
  obtain ⟨dx, hx⟩ := hx
  have F2 := fr_one F' (N' _ (List.mem_cons_self ..)).2.1 (N' _ (List.mem_cons_self ..)).2.2 k2
  have N2 := news_one N' hne k2 hx
  k_steps
  exact hret _ _ _ ((e, excObj 51 (some dx) t) :: news) ⟨rfl, _, rfl⟩ (by assumption) (news_sub (by assumption) (fun q hq => by repeat (first | exact hq | exact List.mem_append_right _ hq | refine List.mem_cons_of_mem _ ?_)))
theorem ktr_under (dp un : Nat) (gd : Option (List Code)) (cn : Str) (cs : Scope) (L a : Addr) (ccd : Value) (cl : List (Str × Addr)) (outer : List Env) (C : Addr) (vals : List Value) :
    ∃ gd', (ktrTop dp un gd cn cs L a ccd cl outer).under (.builtin "type.__call__" ⟨.ref C :: vals, []⟩) = ktrTop (dp + 1) (un + 1) gd' cn cs L a ccd cl outer := ⟨_, rfl⟩
/-- BusyError(message) -/
theorem busy_call {w : World} {news : Led} {mean : ExcName → Option Value} {mg mb : Str → Option Value} {dp un : Nat} {gd : Option (List Code)} {cn : Str} {cs : Scope} {a : Addr} {ccd : Value} {cl : List (Str × Addr)} {outer : List Env} {A₀ : Around} {base h₀ : Heap} {L : Addr} {m : Str → Option Value} {s : Shared} {E : Value → Shared → Prop}
    {x : Str} {tx : Tok} {mN mP : Str → Option Value}
    (B : Below A₀ base outer h₀) (F : Fr h₀ L s.heap m) (X : (hd.heap_1 w.params).In h₀) (N : News h₀ L s.heap news) (T : Top Mine.view (looseW Mine.view [Str.ofString "LockTable"]) mean mg mb h₀) (hk : cs.kind = .function) (hd : dp + 2 < recursionLimit) (hu : un + 11 < cLine)
    (T3 : TwoIn h₀ 51 38 35 mN mP)
    (ret : ∀ h' tk' e t dd, Fr h₀ L h' m → News h₀ L h' ((e, excObj 51 dd t) :: (t, tupObj [.str x tx]) :: news) → (∀ q ∈ news, q.1 ≠ e ∧ q.1 ≠ t) → E (.ref e) { s with heap := h', toks := tk' }) :
    wpAny (model PySem.Challenge.rw_xm0751_01.row.prog w) (ktrTop dp un gd cn cs L a ccd cl outer) (call (.ref 51) [.str x tx]) (Raises2 51 38 35 mN mP E) E s := by
  obtain ⟨h, g, d, tk, os⟩ := s
  have T2 := T3.keeps F.keep
  obtain ⟨oI, hfI, hfc⟩ := T2.fn
  refine two_call PySem.F.excBase_Exception T2.two T2.ni T2.pi hfI hfc (fun h' e hm => ?_) (by size_fits)
  obtain ⟨t, he, htn, ht⟩ := hm.there
  obtain ⟨⟨oL, es, ep, hL, r⟩, hkp, hab⟩ := id F
  have F' : Fr h₀ L h' m := ⟨⟨oL, es, ep, hm.keeps _ _ hL, r⟩, fun b ob q => hm.keeps _ _ (hkp b ob q), hab⟩
  have hne : ∀ {b : Addr} {ob : Obj}, h.get? b = some ob → b ≠ e ∧ b ≠ t := fun q => ⟨fun z => (by rw [z, hm.new] at q; cases q), fun z => (by rw [z, htn] at q; cases q)⟩
  have hnn : ∀ {b : Addr}, h.get? b = none → b ≠ L ∧ h₀.get? b = none := fun {b} q => ⟨fun z => (by dsimp only at hL; rw [← z, q] at hL; cases hL), (by
    cases q' : h₀.get? b with
    | none => rfl
    | some o => have := hkp _ _ q'; dsimp only at this; rw [q] at this; cases this)⟩
  have hte : t ≠ e := fun z => by rw [z, he] at ht; injection ht with ht; injection ht with h1; cases h1
  have N' : News h₀ L h' ((e, excObj 51 none t) :: (t, tupObj [.str x tx]) :: news) := fun q hq => by
    rcases List.mem_cons.mp hq with rfl | hq
    · exact ⟨he, hnn hm.new⟩
    rcases List.mem_cons.mp hq with rfl | hq
    · exact ⟨ht, hnn htn⟩
    · exact ⟨hm.keeps _ _ (N q hq).1, (N q hq).2⟩
  obtain ⟨gd', hgd⟩ := ktr_under dp un gd cn cs L a ccd cl outer 51 [.str x tx]
  rw [hgd]
  refine Spec.use (init_spec w ((t, tupObj [.str x tx]) :: news) e t x tx ?_) B F' X N' (fun q hq => hq) T hk (by omega) (by omega) ?_
  · intro q hq
    rcases List.mem_cons.mp hq with rfl | hq
    · exact hte
    · exact (hne (N q hq).1).1
  · rintro v h1 tk1 news1 ⟨e1, dd, e2⟩ F1 N1
    rw [e2] at N1
    exact ⟨e1, e, dd, t, T3.keeps F1.keep, rfl, (N1 _ (List.mem_cons_self ..)).1, ret _ _ e t dd F1 N1 (fun q hq => hne (N q hq).1)⟩
end
end Mine

namespace Mine
section
open PySem PySem.W PyProof.Rows
set_option maxRecDepth 100000
set_option maxHeartbeats 4000000
abbrev outs (outer : List Env) : List Addr := outer.filterMap (·.frame)
/-- a call of a def that catches: the frames below may come back with other slots -/
def SpecS (n : Nat) (w : World) (f : Addr) (vs : List Value) (news : Led) (Post : Value → Led → Prop) : Prop :=
  ∀ (mean : ExcName → Option Value) (mg mb : Str → Option Value) (dp un : Nat) (gd : Option (List Code)) (cn : Str) (cs : Scope) (a : Addr) (ccd : Value) (cl : List (Str × Addr)) (outer : List Env) (A₀ : Around) (base h₀ : Heap) (L : Addr) (m : Str → Option Value) (s : Shared) (Q E : Value → Shared → Prop),
    Below A₀ base outer h₀ → Fr h₀ L s.heap m → (hd.heap_1 w.params).In h₀ → News h₀ L s.heap news → Top Mine.view (looseW Mine.view [Str.ofString "LockTable"]) mean mg mb h₀ →
    (hd.heap_1 w.params).In base → Top Mine.view (looseW Mine.view [Str.ofString "LockTable"]) mean mg mb base → KtsDicts (outs outer) h₀ → cs.kind = .function →
    dp + n < recursionLimit → un + 10 * n < cLine →
    (∀ v h' tk' news' g', Post v news' → KtsTurn (outs outer) h₀ g' → Fr g' L h' m → News g' L h' news' → Below A₀ base outer g' → (hd.heap_1 w.params).In g' → Top Mine.view (looseW Mine.view [Str.ofString "LockTable"]) mean mg mb g' → KtsDicts (outs outer) g' → Q v { s with heap := h', toks := tk' }) →
    wpAny (model PySem.Challenge.rw_xm0751_01.row.prog w) (ktrTop dp un gd cn cs L a ccd cl outer) (call (.ref f) vs) Q E s
theorem SpecS.use {n : Nat} {w : World} {f : Addr} {vs : List Value} {news news₁ : Led} {Post : Value → Led → Prop}
    {mean : ExcName → Option Value} {mg mb : Str → Option Value} {dp un : Nat} {gd : Option (List Code)} {cn : Str} {cs : Scope} {a : Addr} {ccd : Value} {cl : List (Str × Addr)} {outer : List Env} {A₀ : Around} {base h₀ : Heap} {L : Addr} {m : Str → Option Value} {s : Shared} {Q E : Value → Shared → Prop}
    (S : SpecS n w f vs news Post) (B : Below A₀ base outer h₀) (F : Fr h₀ L s.heap m) (X : (hd.heap_1 w.params).In h₀) (N : News h₀ L s.heap news₁) (hs : ∀ p ∈ news, p ∈ news₁)
    (T : Top Mine.view (looseW Mine.view [Str.ofString "LockTable"]) mean mg mb h₀) (XB : (hd.heap_1 w.params).In base) (TB : Top Mine.view (looseW Mine.view [Str.ofString "LockTable"]) mean mg mb base) (D : KtsDicts (outs outer) h₀) (hk : cs.kind = .function) (hdp : dp + n < recursionLimit) (hu : un + 10 * n < cLine)
    (ret : ∀ v h' tk' news' g', Post v news' → KtsTurn (outs outer) h₀ g' → Fr g' L h' m → News g' L h' news' → Below A₀ base outer g' → (hd.heap_1 w.params).In g' → Top Mine.view (looseW Mine.view [Str.ofString "LockTable"]) mean mg mb g' → KtsDicts (outs outer) g' → Q v { s with heap := h', toks := tk' }) :
    wpAny (model PySem.Challenge.rw_xm0751_01.row.prog w) (ktrTop dp un gd cn cs L a ccd cl outer) (call (.ref f) vs) Q E s :=
  S _ _ _ _ _ _ _ _ _ _ _ _ _ _ _ _ _ _ _ _ B F X (news_sub N hs) T XB TB D hk hdp hu ret
theorem turn_nil {g g' : Heap} (T : KtsTurn [] g g') : ∀ b, g'.get? b = g.get? b := fun b => by
  cases q : g.get? b with
  | none => exact T.none_ b q
  | some o => exact T.other b o q (by simp)
theorem fr_nil {g g' h : Heap} {L : Addr} {m : Str → Option Value} (T : KtsTurn [] g g') (F : Fr g' L h m) : Fr g L h m :=
  ⟨F.ns, fun b o e => F.keep b o ((turn_nil T b).trans e), by rw [← T.size]; exact F.above⟩
theorem news_nil {g g' h : Heap} {L : Addr} {news : Led} (T : KtsTurn [] g g') (N : News g' L h news) : News g L h news := fun p hp => ⟨(N p hp).1, (N p hp).2.1, (turn_nil T _).symm.trans (N p hp).2.2⟩

section
variable {prog : Program} {w : World} {A₀ A : Around} {s : Shared} {base h₀ : Heap} {outer : List Env} {L : Addr} {m : Str → Option Value} {env : Env} {news : Led} {K : Frag} {p : Program} {loose : List Str} {mean : ExcName → Option Value} {mg mb : Str → Option Value}
  {R : Result → Shared → Prop} {name qual : Str} {params : Arguments} {body : List Stmt} {scope : Scope} {dV kV doc pm cdv ct oc : Value} {an od : Option Addr} {osl : Array (Option Value)} {f : Addr} {args : Args} {binds : List (Str × Value)}
theorem outs_mem {b : Addr} (hf : env.frame = some L) (hm : b ∈ outs (env :: outer)) : b = L ∨ b ∈ outs outer := by
  obtain ⟨env', he, hf'⟩ := List.mem_filterMap.mp hm
  rcases List.mem_cons.mp he with rfl | he
  · exact .inl (Option.some.inj (hf.symm.trans hf')).symm
  · exact .inr (List.mem_filterMap.mpr ⟨env', he, hf'⟩)
theorem groundT (B : Below A₀ base outer h₀) (F : Fr h₀ L s.heap m) (N : News h₀ L s.heap news) (hA : A.frames = some (env :: outer)) (hf : env.frame = some L) (hke : env.scope.kind = .function)
    (XB : K.In base) (TB : Top p loose mean mg mb base) (D : KtsDicts (outs outer) h₀) :
    KtsDicts (outs (env :: outer)) (hideAll s.heap (news.map (·.1))) ∧
      ∀ v s', LeaveS (outs (env :: outer)) A₀ base outer K p loose mean mg mb h₀ h₀ L m (hideAll s.heap (news.map (·.1))) R v s' → R (.ok (.ret v)) s' := by
  obtain ⟨_, _, st, _⟩ := groundX (R := R) B F N hA hf hke
  obtain ⟨oL, es, ep, hL, hLd, hLk, hLf⟩ := F.ns
  have nL : L ∉ news.map (·.1) := fun q => by
    obtain ⟨p, hp, e⟩ := List.mem_map.mp q
    exact (N p hp).2.1 e
  have hLg := hideAll_get (news.map (·.1)) hL nL
  have nL₀ : h₀.get? L = none := kts_self F
  refine ⟨fun b hb => ?_, fun v s' hl => ?_⟩
  · rcases outs_mem hf hb with rfl | hb
    · exact ⟨oL, es, ep, hLg, hLd⟩
    · obtain ⟨o, es', n', ho', hd'⟩ := D b hb
      exact ⟨o, es', n', st b o ho', hd'⟩
  rcases hl with ⟨L', m', news', F', N', k⟩ | ⟨g', L', m', news', T', F', N', k⟩
  · refine k ⟨⟨oL, es, ep, F'.keep _ _ hLg, hLd, hLk, hLf⟩, fun b o e => F'.keep b o (st b o e), F.above⟩ fun p hp => ⟨(N' p hp).1, fun q => ?_, ?_⟩
    · have := (N' p hp).2.2; rw [q, hLg] at this; cases this
    · cases q : h₀.get? p.1 with
      | none => rfl
      | some o => have := (N' p hp).2.2; rw [st _ _ q] at this; cases this
  obtain ⟨sl, hs⟩ := T'.up hLg
  obtain ⟨T₁, S₁⟩ := kts_turn_at (h := s'.heap) (fs := outs outer) (g := h₀)
    (fun b hb => by
      obtain ⟨_, o, ho', _⟩ := B.frames.mem hb
      exact ⟨o, ho'⟩)
    (fun b o e nmem => F'.keep b o (T'.other b o (st b o e) (fun q => by
      rcases outs_mem hf q with z | z
      · rw [z, nL₀] at e
        cases e
      · exact nmem z)))
    (fun b o e hm => by
      obtain ⟨sl', hs'⟩ := T'.up (st b o e)
      exact ⟨sl', F'.keep _ _ hs'⟩)
  have B₃ : Below A₀ base outer (ktsHeap s'.heap (outs outer) h₀) := ⟨B.stack, fun b o e => T₁.other b o (B.stays b o e) (fun hm => by
    rw [(B.frames.mem hm).1] at e
    cases e), B.frames.of_keeps fun b o e _ => by
    obtain ⟨sl', hs'⟩ := T₁.up e
    exact ⟨_, hs', rfl⟩⟩
  refine k _ T₁ ⟨⟨_, es, ep, F'.keep _ _ hs, hLd, hLk, hLf⟩, S₁, by rw [T₁.size]; exact F.above⟩ (fun p hp => ⟨(N' p hp).1, fun q => ?_, ?_⟩) B₃ (XB.keeps B₃.stays) (TB.keeps B₃.stays) (D.turn T₁)
  · have := (N' p hp).2.2; rw [q, hs] at this; cases this
  · refine T₁.none_ _ ?_
    cases q : h₀.get? p.1 with
    | none => rfl
    | some o =>
      obtain ⟨sl', hs'⟩ := T'.up (st _ _ q)
      have := (N' p hp).2.2
      rw [hs'] at this
      cases this
theorem code_defT (B : Below A₀ base outer h₀) (F : Fr h₀ L s.heap m) (X₀ : K.In h₀) (N : News h₀ L s.heap news) (T : Top p loose mean mg mb h₀) (XB : K.In base) (TB : Top p loose mean mg mb base) (D : KtsDicts (outs outer) h₀)
    (hA : A.frames = some (env :: outer)) (hf : env.frame = some L) (hke : env.scope.kind = .function)
    (ho : K.lookup f = some ⟨oc, od, .func (fnOf name qual params body scope dV kV doc pm an cdv ct), osl⟩) (hcd : codeIn K cdv qual = true) (hroom : A.depth < recursionLimit)
    (hbind : BindsTo s (fnOf name qual params body scope dV kV doc pm an cdv ct) args binds) (hloc : ∀ y ∈ binds, scope.names.lookup y.1 = some .local)
    (h : ∀ g L' h₁, Fr h₀ L g m → Fr g L' h₁ (fun y => binds.reverse.lookup y) → News g L' h₁ news → Below A base (env :: outer) g → K.In g → Top p loose mean mg mb g → KtsDicts (outs (env :: outer)) g →
      wpAny (model prog w) (A.deeper (envOf qual scope L' f cdv)) (execs body (envOf qual scope L' f cdv))
        (fun fl s' => LeaveS (outs (env :: outer)) A₀ base outer K p loose mean mg mb h₀ h₀ L m g R (match fl with | .ret v => v | _ => .none) s')
        (fun e s' => wpAny (model prog w) (A.deeper (envOf qual scope L' f cdv)) (leaving (envOf qual scope L' f cdv) e) (fun _ s'' => R (.error e) s'') (fun e' s'' => R (.error e') s'') s')
        { s with heap := h₁, toks := s.toks + binds.length })
    (hco : scope.isCoroutine = false) (hgen : scope.isGenerator = false) (hk : scope.kind = .function)
    (hcell : ∀ x ∈ scope.names, x.2 ≠ .cell) : codeAny (model prog w) A (.call (.ref f) args) R s := by
  obtain ⟨FG, BG, st, _⟩ := groundX (R := R) B F N hA hf hke
  obtain ⟨DG, lv⟩ := groundT (R := R) B F N hA hf hke XB TB D
  have X := X₀.keeps F.keep
  refine codeAny_call_def (fd := fnOf name qual params body scope dV kV doc pm an cdv ct) (body := body) (binds := binds) hroom (X _ _ ho) rfl (T.nolimit.keeps F.keep) (codeRec_of X hcd) rfl hbind hcell hloc (fun h₁ hns hk₁ => ?_) hco hgen hk
  exact wpAny_mono (h _ s.heap.objs.size h₁ FG ⟨hns, fun b o e => hk₁ b o (of_hideAll _ e), Nat.le_of_eq (hideAll_size _ _)⟩
    (fun p hp => ⟨hk₁ _ _ (N p hp).1, Nat.ne_of_lt (Heap.lt_size (N p hp).1), hideAll_none _ (List.mem_map_of_mem hp)⟩) BG (X₀.keeps st) (T.keeps st) DG) (fun fl s' hl => lv _ _ hl) fun _ _ y => y
theorem code_defTC (B : Below A₀ base outer h₀) (F : Fr h₀ L s.heap m) (X₀ : K.In h₀) (N : News h₀ L s.heap news) (T : Top p loose mean mg mb h₀) (XB : K.In base) (TB : Top p loose mean mg mb base) (D : KtsDicts (outs outer) h₀)
    (hA : A.frames = some (env :: outer)) (hf : env.frame = some L) (hke : env.scope.kind = .function)
    (ho : K.lookup f = some ⟨oc, od, .func (fnOf name qual params body scope dV kV doc pm an cdv ct), osl⟩) (hcd : codeIn K cdv qual = true) (hroom : A.depth < recursionLimit)
    (hbind : BindsTo s (fnOf name qual params body scope dV kV doc pm an cdv ct) args binds) (hkind : (binds.all fun y => scope.names.lookup y.1 == some .local || scope.names.lookup y.1 == some .cell) = true)
    (hnd : ((cellsFrom 0 scope.names []).map (·.1)).Nodup)
    (h : ∀ g L' h₁ tk cells, Fr h₀ L g m → Fr g L' h₁ (bindL (envOfC qual scope L' f cdv).kindOf binds fun _ => none) → News g L' h₁ (cells ++ news) →
      CellsAre (bindC (envOfC qual scope L' f cdv).kindOf binds fun _ => none) (cellsFrom (L' + 1) scope.names []) cells → Below A base (env :: outer) g → K.In g → Top p loose mean mg mb g → KtsDicts (outs (env :: outer)) g → (∀ p ∈ news, p.1 < L') →
      wpAny (model prog w) (A.deeper (envOfC qual scope L' f cdv)) (execs body (envOfC qual scope L' f cdv))
        (fun fl s' => LeaveS (outs (env :: outer)) A₀ base outer K p loose mean mg mb h₀ h₀ L m g R (match fl with | .ret v => v | _ => .none) s')
        (fun e s' => wpAny (model prog w) (A.deeper (envOfC qual scope L' f cdv)) (leaving (envOfC qual scope L' f cdv) e) (fun _ s'' => R (.error e) s'') (fun e' s'' => R (.error e') s'') s')
        { s with heap := h₁, toks := tk })
    (hco : scope.isCoroutine = false) (hgen : scope.isGenerator = false) (hk : scope.kind = .function) : codeAny (model prog w) A (.call (.ref f) args) R s := by
  obtain ⟨FG, BG, st, _⟩ := groundX (R := R) B F N hA hf hke
  obtain ⟨DG, lv⟩ := groundT (R := R) B F N hA hf hke XB TB D
  have X := X₀.keeps F.keep
  refine codeAny_call_function hroom (X _ _ ho) rfl hco hgen rfl (codeRec_of X hcd) (hbind _ _ _ _ ?_)
  refine wpAny_newFunctionEnv_cells hk ((kindsX hkind) _) fun env' he s' x => ?_
  subst he
  refine ⟨(T.nolimit.keeps F.keep).keeps x.toInCall.keep, codeAny_func ?_⟩
  obtain ⟨h₁, tk, rfl, _⟩ := x.done
  have hk₁ := x.toInCall.keep
  obtain ⟨cells, NC, Y⟩ := Cl.news (h₀ := s.heap) (Nat.le_refl _) fun n c hm => ⟨x.cell n c (lookup_of_mem_nodup (cellsFrom_names scope.names 0 (s.heap.objs.size + 1) [] [] rfl ▸ hnd) hm), x.above n c hm⟩
  refine wpAny_mono (h _ s.heap.objs.size h₁ tk cells FG ⟨x.toInCall.ns, fun b o e => hk₁ b o (of_hideAll _ e), Nat.le_of_eq (hideAll_size _ _)⟩ (fun p hp => ?_) Y BG (X₀.keeps st) (T.keeps st) DG (fun p hp => Heap.lt_size (N p hp).1)) (fun fl s' hl => lv _ _ hl) fun _ _ y => y
  rcases List.mem_append.mp hp with hp | hp
  · refine ⟨(NC p hp).1, (NC p hp).2.1, ?_⟩
    cases q : (hideAll s.heap (news.map (·.1))).get? p.1 with
    | none => rfl
    | some o => have := of_hideAll _ q; rw [(NC p hp).2.2] at this; cases this
  · exact ⟨hk₁ _ _ (N p hp).1, Nat.ne_of_lt (Heap.lt_size (N p hp).1), hideAll_none _ (List.mem_map_of_mem hp)⟩
end
theorem leave_twoS {M : Model} {A : Around} {E : Value → Shared → Prop} {s' : Shared} {base g : Heap} {outer : List Env} {L a e t C : Addr} {dd : Option Addr} {m : Str → Option Value} {name : Str} {scope : Scope} {cd : Value} {Q : Unit → Shared → Prop} {news : Led} {vs : List Value}
    (K : Below A base outer g) (F : Fr g L s'.heap m) (N : News g L s'.heap ((e, excObj C dd t) :: (t, tupObj vs) :: news)) (hne : ∀ q ∈ news, q.1 ≠ e ∧ q.1 ≠ t)
    (hQ : ∀ h' t, RaisedS base g outer e (.ref C) t vs news h' → g.UpToSlots h' → Q () { s' with heap := h' }) (hk : scope.kind = .function := by rfl) :
    wpAny M (A.deeper (envOf name scope L a cd)) (leaving (envOf name scope L a cd) (.ref e)) Q E s' := by
  have K' := K.push (name := name) (a := a) (cd := cd) F hk
  have he := N _ (List.mem_cons_self ..)
  have ht := N _ (List.mem_cons_of_mem _ (List.mem_cons_self ..))
  have hin : ∀ env ∈ (envOf name scope L a cd :: outer), ∀ b, env.frame = some b → b ∈ e :: t :: (envOf name scope L a cd :: outer).filterMap (·.frame) := fun env he b hb => List.mem_cons_of_mem _ (List.mem_cons_of_mem _ (List.mem_filterMap.mpr ⟨env, he, hb⟩))
  have st : base.StaysIn (hideAll s'.heap (e :: t :: (envOf name scope L a cd :: outer).filterMap (·.frame))) := fun b o q => hideAll_get _ (K'.stays b o q) fun hm => by
    rcases List.mem_cons.mp hm with rfl | hm
    · rw [fresh_of_stays K.stays he.2.2] at q; cases q
    · rcases List.mem_cons.mp hm with rfl | hm
      · rw [fresh_of_stays K.stays ht.2.2] at q; cases q
      · rw [(K'.frames.mem hm).1] at q; cases q
  have sg : ∀ b o, g.get? b = some o → b ∉ outer.filterMap (·.frame) → (hideAll s'.heap (e :: t :: (envOf name scope L a cd :: outer).filterMap (·.frame))).get? b = some o := fun b o q nm => hideAll_get _ (F.keep b o q) fun hm => by
    rcases List.mem_cons.mp hm with z | hm
    · have := he.2.2; dsimp only at this; rw [← z, q] at this; cases this
    rcases List.mem_cons.mp hm with z | hm
    · have := ht.2.2; dsimp only at this; rw [← z, q] at this; cases this
    rcases kts_mem hm with z | z
    · rw [z, kts_self F] at q
      cases q
    · exact nm z
  have hl : ∀ q ∈ news, (hideAll s'.heap (e :: t :: (envOf name scope L a cd :: outer).filterMap (·.frame))).get? q.1 = some q.2 ∧ g.get? q.1 = none ∧ base.get? q.1 = none := fun q hq => by
    have hq' := N q (List.mem_cons_of_mem _ (List.mem_cons_of_mem _ hq))
    refine ⟨hideAll_get _ hq'.1 fun hm => ?_, hq'.2.2, fresh_of_stays K.stays hq'.2.2⟩
    rcases List.mem_cons.mp hm with h1 | hm
    · exact (hne q hq).1 h1
    rcases List.mem_cons.mp hm with h1 | hm
    · exact (hne q hq).2 h1
    obtain ⟨env, he, hf⟩ := List.mem_filterMap.mp hm
    rcases List.mem_cons.mp he with rfl | he
    · exact hq'.2.1 (Option.some.inj hf).symm
    · obtain ⟨o, ho, _⟩ := (K.frames.mem (List.mem_filterMap.mpr ⟨env, he, hf⟩)).2
      rw [hq'.2.2] at ho; cases ho
  refine wpAny_leaving_firstW (a0 := .ref t) K'.stack (funFrames_hide K'.frames hin) rfl he.1 (fun b o q => of_hideAll _ q) (hideAll_none _ (List.mem_cons_self ..)) rfl rfl rfl fun h' hL => ?_
  obtain ⟨k1, ⟨_, _, k2⟩, k3, k4⟩ := hL
  exact hQ h' t ⟨⟨_, st, sg, hl, ⟨k1, hideAll_none _ (List.mem_cons_self ..), k2, k3⟩, hideAll_none _ (List.mem_cons_of_mem _ (List.mem_cons_self ..))⟩, Heap.TupAt.of_slots ⟨_, _, ht.1, rfl, rfl⟩ k4⟩ ((Heap.UpToSlots.of_keeps F.keep).trans k4)
end
end Mine

namespace Mine
section
local macro_rules | `(tactic| walk_at "unused 0") => `(tactic| fail)
open PySem PySem.W PyProof.Rows
set_option maxRecDepth 100000
set_option maxHeartbeats 4000000
section
variable {prog : Program} {w : World} {A : Around} {E : Value → Shared → Prop} {s : Shared} {h₀ : Heap} {env : Env} {r : Addr} {m₀ : Str → Option Value} {led : Led} {kv : KV} {Q : Flow → Shared → Prop} {xn : Str} {body : List Stmt}
theorem fr_name {h : Heap} {L : Addr} {m : Str → Option Value} (F : Fr h₀ L h m) {x : Str} {v : Value} (e : m x = some v) : Fr h₀ L h (fun y => if y = x then some v else m y) := by
  have e2 : (fun y => if y = x then some v else m y) = m := by
    funext y
    by_cases hy : y = x
    · rw [if_pos hy, hy, e]
    · rw [if_neg hy]
  rw [e2]; exact F
/-- a turn's end: the same ledger, P of the frame, the other names as they stood -/
def TurnP (h₀ : Heap) (L : Addr) (xn : Str) (st : List Str) (m₀ : Str → Option Value) (led : Led) (P : (Str → Option Value) → Prop) (s₁ : Shared) (Q : Flow → Shared → Prop) (f : Flow) (s₂ : Shared) : Prop :=
  match f with
  | .ret v => Q (.ret v) s₂
  | .brk => Q .next s₂
  | _ => ∃ h' tk m', s₂ = { s₁ with heap := h', toks := tk } ∧ Fr h₀ L h' m' ∧ News h₀ L h' led ∧ P m' ∧ ∀ y, y ≠ xn → st.contains y = false → m' y = m₀ y
theorem TurnP.mk {h' : Heap} {tk : Nat} {m' : Str → Option Value} {L : Addr} {st : List Str} {P : (Str → Option Value) → Prop} {s₁ : Shared} (F : Fr h₀ L h' m') (N : News h₀ L h' led) (hp : P m') (hm : ∀ y, y ≠ xn → st.contains y = false → m' y = m₀ y) :
    TurnP h₀ L xn st m₀ led P s₁ Q .next { s₁ with heap := h', toks := tk } := ⟨h', tk, m', rfl, F, N, hp, hm⟩
theorem frame_eq {m₁ : Str → Option Value} {st : List Str} (hJ : ∀ y, y ≠ xn → st.contains y = false → m₁ y = m₀ y) (u : Option Value) : (fun y => if y = xn then u else m₁ y) = fun y => if y = xn then u else if st.contains y then m₁ y else m₀ y := by
  funext y
  by_cases h1 : y = xn
  · simp [h1]
  · simp only [if_neg h1]
    cases h2 : st.contains y with
    | true => simp
    | false => simp only [Bool.false_eq_true, if_false]; exact hJ y h1 h2
theorem frame_eq2 {m₁ : Str → Option Value} {st : List Str} (hJ : ∀ y, y ≠ xn → st.contains y = false → m₁ y = m₀ y) : m₁ = fun y => if y = xn then m₁ y else if st.contains y then m₁ y else m₀ y := by
  funext y
  by_cases h1 : y = xn
  · simp [h1]
  · simp only [if_neg h1]
    cases h2 : st.contains y with
    | true => simp
    | false => simp only [Bool.false_eq_true, if_false]; exact hJ y h1 h2
/-- over a dict's keys, the ledger kept -/
theorem loop_keys (st : List Str) (P : Nat → (Str → Option Value) → Prop) (hh : A.handled = none) (F : Fr h₀ env.locals s.heap m₀) (N : News h₀ env.locals s.heap led) (hr : In1 prog w led r kv) (lr : (r == sysModules) = false) (hj : P 0 m₀)
    (turn : ∀ i k v t m₁ h tk own, kv[i]? = some (k, v) → P i m₁ → Fr h₀ env.locals h (fun y => if y = xn then some (.int k t) else if st.contains y then m₁ y else m₀ y) → News h₀ env.locals h (own ++ led) →
      wpAny (model prog w) A (execs body env) (TurnP h₀ env.locals xn st m₀ (own ++ led) (P (i + 1)) { s with heap := h, toks := tk } Q) E { s with heap := h, toks := tk })
    (done : ∀ m₁ h tk, P kv.length m₁ → Fr h₀ env.locals h (fun y => if y = xn then m₁ y else if st.contains y then m₁ y else m₀ y) → News h₀ env.locals h led → Q .next { s with heap := h, toks := tk }) :
    wpAny (model prog w) A (pyIter (.ref r)) (fun it s₂ => LoopAtV prog w A h₀ env xn body Q E it s₂) E s := by
  obtain ⟨ep, hat⟩ := (hr.at N).dictAt
  obtain ⟨o, ho, _⟩ := hr
  have hne : r ≠ s.heap.objs.size := Nat.ne_of_lt (Heap.lt_size (N _ ho).1)
  refine wpAny_pyIter_dict lr hat ?_
  have W := Walks.dictKeys (prog := prog) (w := w) (A := A) (knd := intKind prog w) hh s.heap.objs.size r hne kv ep
  let J : Nat → (Str → Option Value) → List (Addr × Obj) → Prop := fun i m₁ news₁ => news₁ = led ∧ P i m₁ ∧ ∀ y, y ≠ xn → st.contains y = false → m₁ y = m₀ y
  refine ⟨_, _, _, kv.length, _, _, m₀, led, J, rfl, W, ?_, ?_, ?_, ⟨⟨_, Heap.get?_push_size _ rfl, rfl, rfl⟩, hat.push _⟩, F.push _, (fun p hp => ⟨Heap.get?_push_of_some _ (N p hp).1, (N p hp).2⟩), ⟨rfl, hj, fun _ _ _ => rfl⟩, ?_, ?_⟩
  · intro hm
    rcases List.mem_cons.mp hm with e | hm
    · exact absurd F.ns.lt (e ▸ Nat.lt_irrefl _)
    · exact (N _ ho).2.1 (List.mem_singleton.mp hm).symm
  · intro b hb
    rw [List.mem_singleton.mp hb]
    exact next_is_new F
  · intro q hq hI
    exact absurd (Heap.lt_size (N q hq).1) ((List.mem_singleton.mp hI) ▸ Nat.lt_irrefl _)
  · rintro i v m₁ news₁ s₁ own ⟨hh', tk', rfl⟩ hin ⟨k, x, hx, hk⟩ ⟨rfl, hP, hJ⟩ hoff _ _ _ _ F₁ N₁
    obtain ⟨t, rfl⟩ := Value.isInt_shape hk
    rw [frame_eq hJ] at F₁
    refine wpAny_mono (turn i k x t m₁ hh' tk' own hx hP F₁ N₁) (fun f s₂ q => ?_) fun _ _ e => e
    have fin : (∃ h' tk m', s₂ = { { s with heap := hh', toks := tk' } with heap := h', toks := tk } ∧ Fr h₀ env.locals h' m' ∧ News h₀ env.locals h' (own ++ news₁) ∧ P (i + 1) m' ∧ ∀ y, y ≠ xn → st.contains y = false → m' y = m₀ y) →
        LoopStepU h₀ env.locals [s.heap.objs.size] own (J (i + 1)) { s with heap := hh', toks := tk' } .next s₂ := by
      rintro ⟨h', tk, m', e, F', N', hp, hm⟩
      exact ⟨rfl, h', tk, m', news₁, e, F', N', hoff, rfl, hp, hm⟩
    cases f with
    | ret v => exact .ret q
    | brk => exact .brk q
    | next => exact .next (fin q)
    | cont => exact .cont (fin q)
  · rintro h' tk m' news' F' N' _ ⟨rfl, hP, hJ⟩
    rw [frame_eq2 hJ] at F'
    exact done m' h' tk hP F' N'
end
local macro_rules | `(tactic| walk_at "getMethod ref") => `(tactic| (k_here; k_dflt (refine' method_inst ?k1 ?k2 ?k3 ?k4 ?k5 ?k6 ?k7 ?_; (case k1 => k_asm); (case k2 => k_asm); (case k3 => k_inst); (case k4 => k_is); (case k5 => k_is); (case k6 => k_is); (case k7 => k_get); k_whole)))
local macro_rules | `(tactic| walk_at "getMethod ref") => `(tactic| (k_here; first
  | ((with_reducible show wpAny _ _ (getMethod (Value.ref _) (PySem.Str.ofString "get") _) _ _ _); refine gm_dict PySem.F.slot_dict_get PySem.F.type_dict_get (by k_asm) (by repeat (first | assumption | exact In1.isD (by assumption) | refine IsD.cons ?_)) ?_)
  | ((with_reducible show wpAny _ _ (getMethod (Value.ref _) (PySem.Str.ofString "pop") _) _ _ _); refine gm_dict PySem.F.slot_dict_pop PySem.F.type_dict_pop (by k_asm) (by repeat (first | assumption | exact In1.isD (by assumption) | refine IsD.cons ?_)) ?_)
  | ((with_reducible show wpAny _ _ (getMethod (Value.ref _) (PySem.Str.ofString "setdefault") _) _ _ _); refine gm_dict PySem.F.slot_dict_setdefault PySem.F.type_dict_setdefault (by k_asm) (by repeat (first | assumption | exact In1.isD (by assumption) | refine IsD.cons ?_)) ?_)
  | ((with_reducible show wpAny _ _ (getMethod (Value.ref _) (PySem.Str.ofString "items") _) _ _ _); refine gm_dict PySem.F.slot_dict_items PySem.F.type_dict_items (by k_asm) (by repeat (first | assumption | exact In1.isD (by assumption) | refine IsD.cons ?_)) ?_)))
local macro_rules | `(tactic| walk_at "call ref") => `(tactic| (k_here; (first | (with_reducible show wpAny _ _ (call (Value.ref 74) _ _) _ _ _) | (with_reducible show wpAny _ _ (call (Value.ref 81) _ _) _ _ _) | (with_reducible show wpAny _ _ (call (Value.ref 102) _ _) _ _ _) | (with_reducible show wpAny _ _ (call (Value.ref 116) _ _) _ _ _)); refine Halt.out ?_))
local macro_rules | `(tactic| walk_at "exec For Name Name cons nil") => `(tactic| (k_here; (rename Fr _ _ _ _ => lF'); (with_unfolding_all refine' For_invVF lF' ?k1 ?k2 ?_; (case k1 => exact rfl); (case k2 => exact rfl); k_whole)))
local macro_rules | `(tactic| walk_at "call builtin:dict.get") => `(tactic| (k_here; refine Halt.out ?_))
local macro_rules | `(tactic| walk_at "pyIter ref") => `(tactic| (k_here; refine Halt.out ?_))
local macro_rules | `(tactic| walk_at "subscriptTail") => `(tactic| (k_here; (with_reducible show wpAny _ _ (subscriptTail _ _ (Value.ref _) (Value.int _ _)) _ _ _); refine Halt.out ?_))
theorem highest_spec (w : World) (t : Addr) (news : Led) (p : Parts) (n : Nat) (TT : Tab PySem.Challenge.rw_xm0751_01.row.prog w news t p n) (o : Int) (to : Tok) (x : Str) (tx : Tok) (hv : ∀ q ∈ p.view (.l x), ∃ tk, q.2 = .int 1 tk) :
    Spec 3 w 81 [.ref t, .int o to, .str x tx] news (fun v news' => news' = news ∧ ∃ i tk, v = .int i tk ∧ 0 ≤ i ∧ i ≤ 1) := by
  unfold Spec
  k_fill
  intro mean mg mb dp un gd cn cs ca ccd cl outer A₀ base h₀ L m s Q E B F X N T hk hd hu hret
  have N2 := TT.led2 N (fun _ h => h)
  have hds := TT.isD_l
  clear N
  refine wpAny_call ?_
  k_dflt cell_enter
  k_steps
  refine Halt.mk ?_
  rename_i h1 d1 h2 o1 F1 N1 lo1 hs1 fs1 hi1 fi1 l1
  refine get_l (TT.up (fun q hq => by repeat (first | exact hq | exact List.mem_append_right _ hq | refine List.mem_cons_of_mem _ ?_))) N1 ⟨_, List.mem_cons_self .., hi1⟩ lo1 ?_
  intro r hr lr
  k_steps
  refine Halt.mk ?_
  refine loop_keys [Str.ofString "highest"] (fun _ m₁ => ∃ i tk, m₁ (Str.ofString "highest") = some (.int i tk) ∧ 0 ≤ i ∧ i ≤ 1) rfl (by assumption) (by assumption) hr lr ⟨0, _, rfl, by decide, by decide⟩ ?_ ?_
  · intro i k v tk m₁ h tks own hx hP F5 N5
    obtain ⟨i0, t0, e0, g1, g2⟩ := hP
    have F6 := fr_name F5 (x := Str.ofString "highest") (v := .int i0 t0) (by exact e0)
    clear F5
    have hnd : ((p.view (.l x)).map (·.1)).Nodup := let ⟨_, _, _, _, _, _, _, _, h⟩ := hr; h
    obtain ⟨tv, hvv⟩ := hv (k, v) (List.mem_of_getElem? hx)
    have hval := valueAt_of_get hnd hx
    dsimp only at hvv
    subst hvv
    k_steps
    · refine Halt.mk ?_
      have hr' := In1.mono hr (fun q hq => List.mem_append_right own hq)
      refine tail_any (T := "dict") (hr'.at (by assumption)).typeIs slot_dict_getitem.lookup (wpAny_getItem_of (knd := intKind _ _) (intKind_is _ _ _ _) (hr'.at (by assumption)).mapOf hval ?_) (by with_unfolding_all rfl)
      k_steps
      · refine Halt.mk ?_
        refine tail_any (T := "dict") (hr'.at (by assumption)).typeIs slot_dict_getitem.lookup (wpAny_getItem_of (knd := intKind _ _) (intKind_is _ _ _ _) (hr'.at (by assumption)).mapOf hval ?_) (by with_unfolding_all rfl)
        k_steps
        refine TurnP.mk (by assumption) (by assumption) ⟨1, tv, rfl, by decide, by decide⟩ (fun y h1 h2 => ?_)
        have h3 : y ≠ Str.ofString "highest" := by rintro rfl; exact absurd h2 (by decide)
        simp only [if_neg h1, if_neg h3, h2, Bool.false_eq_true, if_false]
      · refine TurnP.mk (by assumption) (by assumption) ⟨i0, t0, rfl, g1, g2⟩ (fun y h1 h2 => ?_)
        have h3 : y ≠ Str.ofString "highest" := by rintro rfl; exact absurd h2 (by decide)
        simp only [if_neg h1, if_neg h3, h2, Bool.false_eq_true, if_false]
    · refine TurnP.mk (by assumption) (by assumption) ⟨i0, t0, rfl, g1, g2⟩ (fun y h1 h2 => ?_)
      have h3 : y ≠ Str.ofString "highest" := by rintro rfl; exact absurd h2 (by decide)
      simp only [if_neg h1, if_neg h3, h2, Bool.false_eq_true, if_false]
  · intro m₁ h tks hP F5 N5
    obtain ⟨i0, t0, e0, g1, g2⟩ := hP
    have F6 := fr_name F5 (x := Str.ofString "highest") (v := .int i0 t0) (by exact e0)
    clear F5
    k_steps
    exact hret _ _ _ news ⟨rfl, i0, t0, rfl, g1, g2⟩ (by assumption) (news_sub (by assumption) (fun q hq => by repeat (first | exact hq | exact List.mem_append_right _ hq | refine List.mem_cons_of_mem _ ?_)))
theorem take_shared_spec (w : World) (t : Addr) (news : Led) (p : Parts) (n : Nat) (TT : Tab PySem.Challenge.rw_xm0751_01.row.prog w news t p n) (hn : n ≤ 1000) (o : Int) (to : Tok) (x : Str) (tx : Tok) (hv : ∀ q ∈ p.view (.l x), ∃ tk, q.2 = .int 1 tk) :
    Spec 6 w 116 [.ref t, .int o to, .str x tx] news (fun v news' => v = .none ∧ Kept news news' ∧ ∃ p' tl, Tab PySem.Challenge.rw_xm0751_01.row.prog w news' t p' (n + 1) ∧ p'.view = vset p.view (.l x) (stored (p.view (.l x)) o (.int 1 tl))) := by
  unfold Spec
  k_fill
  intro mean mg mb dp un gd cn cs ca ccd cl outer A₀ base h₀ L m s Q E B F X N T hk hd hu hret
  have N2 := TT.led2 N (fun _ h => h)
  clear N
  refine wpAny_call ?_
  k_dflt cell_enter
  k_steps
  refine Halt.mk ?_
  refine Spec.use (highest_spec w t news p n TT o to x tx hv) (by assumption) (by assumption) (by assumption) (by assumption) (fun q hq => by repeat (first | exact hq | exact List.mem_append_right _ hq | refine List.mem_cons_of_mem _ ?_)) (by assumption) rfl (by ktr_room) (by ktr_units) ?_
  rintro v h1 tk1 news1 ⟨e1, i, tki, rfl, g1, g2⟩ F1 N1
  rw [e1] at N1
  have N3 := TT.led2 N1 (fun _ h => h)
  clear N1
  k_steps
  refine Halt.mk ?_
  refine Spec.use (put_shared_spec w t news p n TT hn o to x tx _) (by assumption) (by assumption) (by assumption) (by assumption) (fun q hq => by repeat (first | exact hq | exact List.mem_append_right _ hq | refine List.mem_cons_of_mem _ ?_)) (by assumption) rfl (by ktr_room) (by ktr_units) ?_
  rintro v h3 tk3 news3 ⟨rfl, kp, p3, T3, v3⟩ F3 N4
  k_steps
  exact hret _ _ _ news3 ⟨rfl, kp, p3, _, T3, v3⟩ (by assumption) (by assumption)
theorem lock_spec (w : World) (t : Addr) (news : Led) (p : Parts) (n : Nat) (TT : Tab PySem.Challenge.rw_xm0751_01.row.prog w news t p n) (hn : n ≤ 1000) (o : Int) (to : Tok) (x : Str) (tx tl : Tok) (hv : ∀ q ∈ p.view (.l x), ∃ tk, q.2 = .int 1 tk) :
    Spec 9 w 109 [.ref t, .int o to, .str x tx, .int 1 tl] news (fun v news' => v = .none ∧ Kept news news' ∧ ∃ p' kv', Tab PySem.Challenge.rw_xm0751_01.row.prog w news' t p' (n + 1) ∧ p'.view = vset p.view (.l x) kv' ∧
      ((∃ u, valueAt (p.view (.l x)) o = some u) ∧ kv' = p.view (.l x) ∨ valueAt (p.view (.l x)) o = none ∧ ∃ tl', kv' = stored (p.view (.l x)) o (.int 1 tl'))) := by
  unfold Spec
  k_fill
  intro mean mg mb dp un gd cn cs ca ccd cl outer A₀ base h₀ L m s Q E B F X N T hk hd hu hret
  have N2 := TT.led2 N (fun _ h => h)
  clear N
  refine wpAny_call ?_
  k_dflt cell_enter
  k_steps
  refine Halt.mk ?_
  refine Spec.use (level_of_spec w t news p n TT o to x tx) (by assumption) (by assumption) (by assumption) (by assumption) (fun q hq => by repeat (first | exact hq | exact List.mem_append_right _ hq | refine List.mem_cons_of_mem _ ?_)) (by assumption) rfl (by ktr_room) (by ktr_units) ?_
  rintro v h1 tk1 news1 ⟨e1, rfl⟩ F1 N1
  rw [e1] at N1
  have N3 := TT.led2 N1 (fun _ h => h)
  clear N1
  cases hva : valueAt (p.view (.l x)) o with
  | some u =>
    obtain ⟨tu, hu1⟩ : ∃ tk, u = .int 1 tk := by
      unfold valueAt at hva
      obtain ⟨q, hq, rfl⟩ := Option.map_eq_some_iff.mp hva
      exact hv q (List.mem_of_find?_eq_some hq)
    subst hu1
    dsimp only [Option.getD]
    k_steps
    exact hret _ _ _ news ⟨rfl, Kept.refl, p, _, TT.mono (fun _ hq _ => hq) (Nat.le_succ _), (vset_self _ _).symm, .inl ⟨⟨_, hva⟩, rfl⟩⟩ (by assumption) (news_sub (by assumption) (fun q hq => by repeat (first | exact hq | exact List.mem_append_right _ hq | refine List.mem_cons_of_mem _ ?_)))
  | none =>
    dsimp only [Option.getD]
    k_steps
    refine Halt.mk ?_
    refine Spec.use (take_shared_spec w t news p n TT hn o to x tx hv) (by assumption) (by assumption) (by assumption) (by assumption) (fun q hq => by repeat (first | exact hq | exact List.mem_append_right _ hq | refine List.mem_cons_of_mem _ ?_)) (by assumption) rfl (by ktr_room) (by ktr_units) ?_
    rintro v h3 tk3 news3 ⟨rfl, kp, p3, tl3, T3, v3⟩ F3 N4
    k_steps
    exact hret _ _ _ news3 ⟨rfl, kp, p3, _, T3, v3, .inr ⟨hva, _, rfl⟩⟩ (by assumption) (by assumption)
theorem unlock_spec (w : World) (t : Addr) (news : Led) (p : Parts) (n : Nat) (TT : Tab PySem.Challenge.rw_xm0751_01.row.prog w news t p n) (hn : n ≤ 1000) (o : Int) (to : Tok) (x : Str) (tx tl : Tok) (hv : ∀ q ∈ p.view (.l x), ∃ tk, q.2 = .int 1 tk) :
    Spec 6 w 138 [.ref t, .int o to, .str x tx, .int 0 tl] news (fun v news' => v = .none ∧ Kept news news' ∧ ∃ p', Tab PySem.Challenge.rw_xm0751_01.row.prog w news' t p' (n + 1) ∧ p'.view = vset p.view (.l x) (without (p.view (.l x)) o)) := by
  unfold Spec
  k_fill
  intro mean mg mb dp un gd cn cs ca ccd cl outer A₀ base h₀ L m s Q E B F X N T hk hd hu hret
  have N2 := TT.led2 N (fun _ h => h)
  clear N
  refine wpAny_call ?_
  k_dflt (refine' code_def ?k1 ?k2 ?k3 ?k4 ?k5 ?kA ?kF ?kK ?k6 ?k7 ?k8 ?k9 ?kB ?_ ?c2 ?c3 ?c4 ?c5; (case kA => exact rfl); (case kF => exact rfl); (case kK => assumption); (case k1 => k_asm); (case k2 => k_asm); (case k3 => k_asm); (case k4 => k_asm); (case k5 => k_asm); (case k6 => k_is); (case k7 => k_is); (case k8 => ktr_room); (case k9 => exact binds_K (by k_in) rfl (by k_is) rfl rfl rfl); (case c5 => decide); (case kB => exact locs rfl); (case c2 => exact rfl); (case c3 => exact rfl); (case c4 => exact rfl); k_whole; intro g' L' h' FG' F' N' B' X' T'; (try dsimp only); (try k_lift B'); (try k_fold))
  k_steps
  refine Halt.mk ?_
  refine Spec.use (level_of_spec w t news p n TT o to x tx) (by assumption) (by assumption) (by assumption) (by assumption) (fun q hq => by repeat (first | exact hq | exact List.mem_append_right _ hq | refine List.mem_cons_of_mem _ ?_)) (by assumption) rfl (by ktr_room) (by ktr_units) ?_
  rintro v h1 tk1 news1 ⟨e1, rfl⟩ F1 N1
  rw [e1] at N1
  have N3 := TT.led2 N1 (fun _ h => h)
  clear N1
  cases hva : valueAt (p.view (.l x)) o with
  | none =>
    dsimp only [Option.getD]
    k_steps
    exact hret _ _ _ news ⟨rfl, Kept.refl, p, TT.mono (fun _ hq _ => hq) (Nat.le_succ _), by rw [without_none hva, vset_self]⟩ (by assumption) (news_sub (by assumption) (fun q hq => by repeat (first | exact hq | exact List.mem_append_right _ hq | refine List.mem_cons_of_mem _ ?_)))
  | some u =>
    obtain ⟨tu, hu1⟩ : ∃ tk, u = .int 1 tk := by
      unfold valueAt at hva
      obtain ⟨q, hq, rfl⟩ := Option.map_eq_some_iff.mp hva
      exact hv q (List.mem_of_find?_eq_some hq)
    subst hu1
    dsimp only [Option.getD]
    k_steps
    refine Halt.mk ?_
    refine Spec.use (put_none_spec w t news p n TT hn o to x tx _) (by assumption) (by assumption) (by assumption) (by assumption) (fun q hq => by repeat (first | exact hq | exact List.mem_append_right _ hq | refine List.mem_cons_of_mem _ ?_)) (by assumption) rfl (by ktr_room) (by ktr_units) ?_
    rintro v h3 tk3 news3 ⟨rfl, kp, p3, T3, v3⟩ F3 N4
    k_steps
    exact hret _ _ _ news3 ⟨rfl, kp, p3, T3, v3⟩ (by assumption) (by assumption)
open PySem PySem.W PyProof.Rows
set_option maxRecDepth 100000
set_option maxHeartbeats 4000000
local macro_rules | `(tactic| walk_at "call builtin:dict.setdefault") => `(tactic| (k_here; refine Halt.out ?_))
local macro_rules | `(tactic| walk_at "setItem ref int") => `(tactic| (k_here; refine Halt.out ?_))
local macro_rules | `(tactic| walk_at "exec Raise some none") => `(tactic| (k_here; refine Halt.out ?_))
local macro_rules | `(tactic| walk_at "leaving ref") => `(tactic| (k_here; refine Halt.out ?_))
local macro_rules | `(tactic| walk_at "call ref") => `(tactic| (k_here; (first | (with_reducible show wpAny _ _ (call (Value.ref 51) _ _) _ _ _) | (with_reducible show wpAny _ _ (call (Value.ref 146) _ _) _ _ _)); refine Halt.out ?_))
theorem inFr {w : World} {h₀ h : Heap} {L : Addr} {m : Str → Option Value} (_ : Fr h₀ L h m) (X : (hd.heap_1 w.params).In h₀) : (hd.heap_1 w.params).In h₀ := X
theorem take_succ_of {α : Type} {l : List α} {i : Nat} {x : α} (h : l[i]? = some x) : l.take (i + 1) = l.take i ++ [x] := by
  rw [List.take_add_one, h]
  rfl
theorem mem_of_valueAt {κ : Type} [DecidableEq κ] {kvs : List (κ × Value)} {k : κ} {v : Value} (h : valueAt kvs k = some v) : (k, v) ∈ kvs := by
  unfold valueAt at h
  obtain ⟨q, hq, e⟩ := Option.map_eq_some_iff.mp h
  have h1 := List.mem_of_find?_eq_some hq
  have h2 := List.find?_some hq
  obtain ⟨a, b⟩ := q
  dsimp only at h2 e
  subst e
  rw [← of_decide_eq_true h2]
  exact h1
theorem law_hold_spec (w : World) (t : Addr) (news : Led) (p : Parts) (n : Nat) (TT : Tab PySem.Challenge.rw_xm0751_01.row.prog w news t p n) (hn : n ≤ 1000) (o : Int) (to : Tok) (x y : Str) (tx ty : Tok) (al : Bool) (hb : ∀ q ∈ p.view (.s [x, y]), ∃ b, q.2 = .bool b) :
    SpecS 9 w 216 [.ref t, .int o to, .str x tx, .str y ty, .bool al] news (fun v news' => Kept news news' ∧ ∃ p', Tab PySem.Challenge.rw_xm0751_01.row.prog w news' t p' (n + 1) ∧
      (((∃ q ∈ p.view (.s [x, y]), q.1 ≠ o ∧ (al = true ∨ q.2 = .bool true)) ∧ v = .bool false ∧ p'.view = p.view) ∨
       ((¬ ∃ q ∈ p.view (.s [x, y]), q.1 ≠ o ∧ (al = true ∨ q.2 = .bool true)) ∧ v = .bool true ∧ ∃ b, (b = true ↔ al = true ∨ valueAt (p.view (.s [x, y])) o = some (.bool true)) ∧ p'.view = vset p.view (.s [x, y]) (stored (p.view (.s [x, y])) o (.bool b))))) := by
  unfold SpecS
  k_fill
  intro mean mg mb dp un gd cn cs ca ccd cl outer A₀ base h₀ L m s Q E B F X N T XB TB D hk hd hu hret
  have N2 := TT.led2 N (fun _ h => h)
  have hds := TT.isD_s
  clear N
  refine wpAny_call ?_
  k_dflt (refine' code_defT ?k1 ?k2 ?k3 ?k4 ?k5 ?XB ?TB ?D ?kA ?kF ?kK ?k6 ?k7 ?k8 ?k9 ?kB ?_ ?c2 ?c3 ?c4 ?c5; (case kA => exact rfl); (case kF => exact rfl); (case kK => first | assumption | exact rfl); (case k2 => k_asm); (case k1 => k_asm); (case XB => assumption); (case TB => assumption); (case D => assumption); (case k3 => k_asm); (case k4 => k_asm); (case k5 => k_asm); (case k6 => k_is); (case k7 => k_is); (case k8 => ktr_room); (case k9 => first | exact binds_K (by k_in) rfl (by k_is) rfl rfl rfl | exact BindsTo.of_eq rfl); (case kB => exact locs rfl); (case c2 => exact rfl); (case c3 => exact rfl); (case c4 => exact rfl); (case c5 => decide); k_whole; intro g' L' h' FG' F' N' B' X' T' D'; (try dsimp only); (try k_lift B'); (try k_fold))
  k_steps
  refine Halt.mk ?_
  refine wpAny_call ?_
  k_dflt (refine' code_def ?k1 ?k2 ?k3 ?k4 ?k5 ?kA ?kF ?kK ?k6 ?k7 ?k8 ?k9 ?kB ?_ ?c2 ?c3 ?c4 ?c5; (case kA => exact rfl); (case kF => exact rfl); (case kK => first | assumption | exact rfl); (case k1 => k_asm); (case k2 => k_asm); (case k3 => k_asm); (case k4 => k_asm); (case k5 => k_asm); (case k6 => k_is); (case k7 => k_is); (case k8 => ktr_room); (case k9 => exact binds_K (by k_in) rfl (by k_is) rfl rfl rfl); (case c5 => decide); (case kB => exact locs rfl); (case c2 => exact rfl); (case c3 => exact rfl); (case c4 => exact rfl); k_whole; intro g' L' h' FG' F' N' B' X' T'; (try dsimp only); (try k_lift B'); (try k_fold))
  k_steps
  refine Halt.mk ?_
  rename_i D1 h1 l0 d1 h2 o1 F1 N1 lo1 hs1 fs1 hi1 fi1 l1
  have hfr := TT.fresh (e := d1) (lt_of_allLt news l1.2.2.2)
  refine sd_s (TT.up (fun q hq => by repeat (first | exact hq | exact List.mem_append_right _ hq | refine List.mem_cons_of_mem _ ?_))) F1 N1 (List.mem_cons_self ..) hi1 hfr.1 hfr.2 lo1 (Nat.le_trans hn (by decide)) (k := [x, y]) (key2 (by k_mem)) (by ktr_units) ?_
  intro r h3 tk3 led3 p3 F3 N3 T3 v3 a3 k3
  have hr := T3.in_adr a3
  have lr := T3.sys _ (Parts.in_dicts (adr_inner a3))
  have hkept : Kept news led3 := fun q hq hc => k3 q (by simp [hq]) hc
  rw [v3] at hr
  k_steps
  refine Halt.mk ?_
  refine loop_keys [] (fun i _ => ∀ q ∈ (p.view (.s [x, y])).take i, ¬ (q.1 ≠ o ∧ (al = true ∨ q.2 = .bool true))) rfl (by assumption) (by assumption) hr lr (fun q hq => by simp at hq) ?_ ?_
  · intro i k v tk m₁ h tks own hx hP F5 N5
    have hnd : ((p.view (.s [x, y])).map (·.1)).Nodup := let ⟨_, _, _, _, _, _, _, _, h⟩ := hr; h
    obtain ⟨bv, hvv⟩ := hb (k, v) (List.mem_of_getElem? hx)
    have hval := valueAt_of_get hnd hx
    dsimp only at hvv
    subst hvv
    have X9 := inFr (w := w) F5 (by assumption)
    k_steps
    · -- another holder, this one alone
      refine Halt.mk ?_
      obtain ⟨mN, mP, TW⟩ := two_of_in X9 (exc_in w)
      refine raise_two (C := 51) (P := 38) (fI := 35) (mN := mN) (mP := mP) rfl ?_
      k_steps
      refine Halt.mk ?_
      refine busy_call (by assumption) (by assumption) (by assumption) (by assumption) (by assumption) rfl (by ktr_room) (by ktr_units) TW ?_
      intro h6 tk6 e6 t6 dd6 F6 N6 ne6
      k_steps
      refine Halt.mk ?_
      refine leave_twoS (by assumption) (by assumption) N6 ne6 ?_
      intro h7 t7 R7 U7
      k_steps
      exact hret _ _ _ led3 _ ⟨hkept, p3, T3, .inl ⟨⟨_, List.mem_of_getElem? hx, by assumption, .inl (by assumption)⟩, rfl, v3⟩⟩ (by assumption) (by assumption) (news_sub (by assumption) (fun q hq => by repeat (first | exact hq | exact List.mem_append_right _ hq | refine List.mem_cons_of_mem _ ?_))) (by assumption) (by assumption) (by assumption) (by assumption)
    · refine Halt.mk ?_
      have hr' := In1.mono hr (fun q hq => List.mem_append_right own hq)
      refine tail_any (T := "dict") (hr'.at (by assumption)).typeIs slot_dict_getitem.lookup (wpAny_getItem_of (knd := intKind _ _) (intKind_is _ _ _ _) (hr'.at (by assumption)).mapOf hval ?_) (by with_unfolding_all rfl)
      have hal : al = false := by assumption
      cases bv with
      | true =>
        k_steps
        refine Halt.mk ?_
        obtain ⟨mN, mP, TW⟩ := two_of_in X9 (exc_in w)
        refine raise_two (C := 51) (P := 38) (fI := 35) (mN := mN) (mP := mP) rfl ?_
        k_steps
        refine Halt.mk ?_
        refine busy_call (by assumption) (by assumption) (by assumption) (by assumption) (by assumption) rfl (by ktr_room) (by ktr_units) TW ?_
        intro h6 tk6 e6 t6 dd6 F6 N6 ne6
        k_steps
        refine Halt.mk ?_
        refine leave_twoS (by assumption) (by assumption) N6 ne6 ?_
        intro h7 t7 R7 U7
        k_steps
        exact hret _ _ _ led3 _ ⟨hkept, p3, T3, .inl ⟨⟨_, List.mem_of_getElem? hx, by assumption, .inr rfl⟩, rfl, v3⟩⟩ (by assumption) (by assumption) (news_sub (by assumption) (fun q hq => by repeat (first | exact hq | exact List.mem_append_right _ hq | refine List.mem_cons_of_mem _ ?_))) (by assumption) (by assumption) (by assumption) (by assumption)
      | false =>
        k_steps
        refine TurnP.mk (by assumption) (by assumption) ?_ (fun y h1 h2 => by simp only [if_neg h1, h2, Bool.false_eq_true, if_false])
        intro q hq
        rw [take_succ_of hx] at hq
        rcases List.mem_append.mp hq with hq | hq
        · exact hP q hq
        · rw [List.mem_singleton.mp hq]
          rintro ⟨_, h | h⟩
          · exact absurd h (by simp [hal])
          · exact absurd h (by simp)
    · have hko : k = o := by assumption
      refine TurnP.mk (by assumption) (by assumption) ?_ (fun y h1 h2 => by simp only [if_neg h1, h2, Bool.false_eq_true, if_false])
      intro q hq
      rw [take_succ_of hx] at hq
      rcases List.mem_append.mp hq with hq | hq
      · exact hP q hq
      · rw [List.mem_singleton.mp hq]
        rintro ⟨h, _⟩
        exact h hko
  · intro m₁ h tks hP F5 N5
    rw [List.take_length] at hP
    have hno : ¬ ∃ q ∈ p.view (.s [x, y]), q.1 ≠ o ∧ (al = true ∨ q.2 = .bool true) := fun ⟨q, hq, h⟩ => hP q hq h
    cases al with
    | true =>
      k_steps
      refine Halt.mk ?_
      rename_i F8 N8
      refine wpAny_setItem_pairs (knd := intKind _ _) (intKind_is _ _ _ _) (In1.at (by assumption) hr) (fun h' hd' hs' => ?_) (Nat.le_trans (by rw [← v3]; exact T3.len_view _) (Nat.le_trans (Nat.succ_le_succ hn) (by decide)))
      obtain ⟨led', p', F', N', T', v1, v2, kp⟩ := inner_set T3 (by assumption) (by assumption) a3 hd' hs' (Nat.le_refl _) (Nat.le_trans (stored_length_le _ _ _) (Nat.succ_le_succ (TT.len_view _)))
      k_steps
      exact hret _ _ _ led' _ ⟨hkept.trans kp, p', T', .inr ⟨hno, rfl, true, by simp, by rw [v1, v3]; rfl⟩⟩ KtsTurn.refl (by assumption) (news_sub (by assumption) (fun q hq => by repeat (first | exact hq | exact List.mem_append_right _ hq | refine List.mem_cons_of_mem _ ?_))) (by assumption) (by assumption) (by assumption) (by assumption)
    | false =>
      k_steps
      refine Halt.mk ?_
      refine dget2 (In1.at (by assumption) hr) (intKind_is _ _ _ _) lr ?_
      have hget : ∃ b, (valueAt (p.view (.s [x, y])) o).getD (.bool false) = .bool b ∧ (b = true ↔ valueAt (p.view (.s [x, y])) o = some (.bool true)) := by
        cases hv : valueAt (p.view (.s [x, y])) o with
        | none => exact ⟨false, rfl, by simp⟩
        | some v =>
          obtain ⟨b, hbv⟩ := hb _ (mem_of_valueAt hv)
          dsimp only at hbv
          subst hbv
          exact ⟨b, rfl, by simp⟩
      obtain ⟨b, hg1, hg2⟩ := hget
      rw [hg1]
      k_steps
      refine Halt.mk ?_
      rename_i F8 N8
      refine wpAny_setItem_pairs (knd := intKind _ _) (intKind_is _ _ _ _) (In1.at (by assumption) hr) (fun h' hd' hs' => ?_) (Nat.le_trans (by rw [← v3]; exact T3.len_view _) (Nat.le_trans (Nat.succ_le_succ hn) (by decide)))
      obtain ⟨led', p', F', N', T', v1, v2, kp⟩ := inner_set T3 (by assumption) (by assumption) a3 hd' hs' (Nat.le_refl _) (Nat.le_trans (stored_length_le _ _ _) (Nat.succ_le_succ (TT.len_view _)))
      k_steps
      exact hret _ _ _ led' _ ⟨hkept.trans kp, p', T', .inr ⟨hno, rfl, b, by simp [hg2], by rw [v1, v3]; rfl⟩⟩ KtsTurn.refl (by assumption) (news_sub (by assumption) (fun q hq => by repeat (first | exact hq | exact List.mem_append_right _ hq | refine List.mem_cons_of_mem _ ?_))) (by assumption) (by assumption) (by assumption) (by assumption)
end
end Mine

namespace Mine
section
open PySem PySem.W PyProof.Rows
set_option maxRecDepth 100000
set_option maxHeartbeats 4000000
section
variable {prog : Program} {w : World} {A : Around} {E : Value → Shared → Prop} {s : Shared}
/-- a dict as it lies -/
def RawAt (h : Heap) (d : Addr) (es : Array DictEntry) (ep : Nat) : Prop := ∃ o, h.get? d = some o ∧ o.ExactDict ∧ o.data = .dict es ep
theorem RawAt.typeIs {d es ep} (x : RawAt s.heap d es ep) : s.TypeIs (.ref d) "dict" := let ⟨o, ho, hc, _⟩ := x; ⟨o, ho, hc.1⟩
theorem RawAt.keep {h h' : Heap} {d es ep} (x : RawAt h d es ep) (e : ∀ o, h.get? d = some o → h'.get? d = some o) : RawAt h' d es ep := let ⟨o, ho, r⟩ := x; ⟨o, e _ ho, r⟩
theorem raw_iter {d : Addr} {es : Array DictEntry} {ep : Nat} {Q : Value → Shared → Prop} (hd : (d == sysModules) = false) (hm : RawAt s.heap d es ep)
    (hQ : Q (.ref s.heap.objs.size) { s with heap := s.heap.push { cls := .type "dict_keyiterator", data := .fields #[.ref d, .int 0 0, .int es.size 0, .int ep 0] } }) :
    wpAny (model prog w) A (pyIter (.ref d)) Q E s := by
  obtain ⟨o, ho, hc, hdat⟩ := id hm
  have hT : s.TypeIs (.ref d) "dict" := hm.typeIs
  refine wpAny_pyIter_slot hT PySem.F.slot_dict_iter (wpAny_call_entry PySem.F.slot_dict_iter hT PySem.F.entry_dict_iter ?_ (PySem.F.args_dict_iter_1 _))
  unfold Builtin.«dict.__iter__»
  refine wpAny_bind ?_
  unfold Builtin.Dict.dictSlotNone
  refine wpAny_bind (wpAny_notOrdered_dict hT ?_)
  show wpAny _ _ (pure (Value.ref d)) _ _ s
  refine wpAny_pure ?_
  show wpAny _ _ (Builtin.Dict.showsAll d >>= _) _ _ s
  unfold Builtin.Dict.showsAll
  rw [if_neg (by rw [hd]; exact Bool.false_ne_true)]
  refine wpAny_bind (wpAny_pure ?_)
  refine wpAny_bind (wpAny_dictEntries ho hdat ?_)
  refine wpAny_bind (wpAny_dictEpoch ho hdat ?_)
  refine wpAny_bind (wpAny_newObj_type (wpAny_pure ⟨_, rfl, "dict_keyiterator", _, ⟨_, Heap.get?_push_size _ rfl, rfl⟩, PySem.F.slot_dict_keyiterator_next.lookup, ?_⟩))
  simpa [rawInt] using hQ
theorem raw_next {it d : Addr} {i ep : Nat} {es : Array DictEntry} {v : Value} {Q : Option Value → Shared → Prop} (hit : s.heap.IsKeyIter it d i es.size ep)
    (hm : RawAt s.heap d es ep) (hx : (es[i]?).map (·.key) = some v)
    (hQ : ∀ h', h'.IsKeyIter it d (i + 1) es.size ep → Heap.SameBut it s.heap h' → Q (some v) { s with heap := h' }) :
    wpAny (model prog w) A (pyNext (.ref it)) Q E s := by
  obtain ⟨o, ho, hc, hd⟩ := id hit
  obtain ⟨od, hod, hcd, hdd⟩ := id hm
  unfold pyNext
  refine wpAny_bind (wpAny_attempt (wpAny_callSpecial?_slot (name := Str.ofString "__next__") hit.typeIs PySem.F.slot_dict_keyiterator_next
    (wpAny_call_entry PySem.F.slot_dict_keyiterator_next hit.typeIs PySem.F.entry_dict_keyiterator_next ?_ (PySem.F.args_dict_keyiterator_next_1 _))))
  refine wpAny_bind (wpAny_pure ?_)
  refine wpAny_bind ?_
  refine wpAny_bind ?_
  first | refine wpAny_bind (wpAny_typeNameOfWhole_keyiter hit.typeIs (wpAny_pure ?_)) | refine wpAny_bind (wpAny_typeNameOf_keyiter hit.typeIs (wpAny_pure ?_))
  refine wpAny_bind (wpAny_fieldsOf ho hd ?_)
  have hown : Builtin.Dict_items.ownsTuple "dict_keyiterator" = false := by decide
  simp only [hown, Bool.false_eq_true, if_false]
  show wpAny _ _ (if (Value.ref d == Value.none) = true then _ else _) _ _ s
  rw [if_neg (show ¬ ((Value.ref d == Value.none) = true) from Bool.false_ne_true)]
  refine wpAny_bind (wpAny_pure ?_)
  refine wpAny_bind (wpAny_dictEntries hod hdd ?_)
  rw [if_neg (by simp)]
  refine wpAny_bind (wpAny_pure ?_)
  refine wpAny_bind (wpAny_dictEpoch hod hdd ?_)
  rw [if_neg (by simp)]
  refine wpAny_pure ?_
  have hlt' : i < es.size := by
    rcases Nat.lt_or_ge i es.size with h | h
    · exact h
    · simp [Array.getElem?_eq_none h] at hx
  have hkey : es[i].key = v := by simpa [hlt'] using hx
  simp only [show ¬ ((i : Int) < 0) from by omega, if_false, Int.toNat_natCast, Array.getElem?_eq_getElem hlt']
  refine wpAny_bind ?_
  first | refine wpAny_bind (wpAny_typeNameOfWhole_keyiter hit.typeIs (wpAny_pure ?_)) | refine wpAny_bind (wpAny_typeNameOf_keyiter hit.typeIs (wpAny_pure ?_))
  refine wpAny_bind (wpAny_isOneOf_keyiter hit.typeIs ?_)
  show wpAny _ _ (setField (.ref it) 1 (rawInt ((i : Int) + 1)) >>= _) _ _ s
  refine wpAny_bind (wpAny_setField ho hd (by simp) ?_)
  have hit' : (s.heap.update it (Obj.mapFields (·.setIfInBounds 1 (rawInt ((i : Int) + 1))))).IsKeyIter it d (i + 1) es.size ep :=
    ⟨_, Heap.get?_update_self _ ho (Obj.isFreed_of_fields (Obj.data_mapFields hd _)), (Obj.cls_mapFields ..).trans hc, by rw [Obj.data_mapFields hd]; simp [rawInt]⟩
  refine wpAny_bind (wpAny_holding ?_)
  refine wpAny_bind (wpAny_isOneOf_keyiter (s := { s with heap := s.heap.update it (Obj.mapFields (·.setIfInBounds 1 (rawInt ((i : Int) + 1)))) }) hit'.typeIs ?_)
  show wpAny _ _ (pure es[i].key) _ _ _
  rw [hkey]
  exact wpAny_pure (wpAny_pure ⟨_, rfl, wpAny_pure (hQ _ hit' (Heap.SameBut.update ..))⟩)
theorem raw_end {it d : Addr} {i ep : Nat} {es : Array DictEntry} {Q : Option Value → Shared → Prop} (hh : A.handled = none) (hit : s.heap.IsKeyIter it d i es.size ep)
    (hm : RawAt s.heap d es ep) (hge : es.size ≤ i)
    (hQ : ∀ h', Heap.ExtBut it s.heap h' → Q none { s with heap := h' }) : wpAny (model prog w) A (pyNext (.ref it)) Q E s := by
  obtain ⟨o, ho, hc, hd⟩ := id hit
  obtain ⟨od, hod, hcd, hdd⟩ := id hm
  unfold pyNext
  refine wpAny_bind (wpAny_attempt (wpAny_callSpecial?_slot (name := Str.ofString "__next__") hit.typeIs PySem.F.slot_dict_keyiterator_next
    (wpAny_call_entry PySem.F.slot_dict_keyiterator_next hit.typeIs PySem.F.entry_dict_keyiterator_next ?_ (PySem.F.args_dict_keyiterator_next_1 _))))
  refine wpAny_bind (wpAny_pure ?_)
  refine wpAny_bind ?_
  refine wpAny_bind ?_
  first | refine wpAny_bind (wpAny_typeNameOfWhole_keyiter hit.typeIs (wpAny_pure ?_)) | refine wpAny_bind (wpAny_typeNameOf_keyiter hit.typeIs (wpAny_pure ?_))
  refine wpAny_bind (wpAny_fieldsOf ho hd ?_)
  have hown : Builtin.Dict_items.ownsTuple "dict_keyiterator" = false := by decide
  simp only [hown, Bool.false_eq_true, if_false]
  show wpAny _ _ (if (Value.ref d == Value.none) = true then _ else _) _ _ s
  rw [if_neg (show ¬ ((Value.ref d == Value.none) = true) from Bool.false_ne_true)]
  refine wpAny_bind (wpAny_pure ?_)
  refine wpAny_bind (wpAny_dictEntries hod hdd ?_)
  rw [if_neg (by simp)]
  refine wpAny_bind (wpAny_pure ?_)
  refine wpAny_bind (wpAny_dictEpoch hod hdd ?_)
  rw [if_neg (by simp)]
  refine wpAny_pure ?_
  simp only [show ¬ ((i : Int) < 0) from by omega, if_false, Int.toNat_natCast, Array.getElem?_eq_none hge]
  refine wpAny_bind ?_
  first | refine wpAny_bind (wpAny_typeNameOfWhole_keyiter hit.typeIs (wpAny_pure ?_)) | refine wpAny_bind (wpAny_typeNameOf_keyiter hit.typeIs (wpAny_pure ?_))
  show wpAny _ _ (setField (.ref it) 0 .none >>= _) _ _ s
  refine wpAny_bind (wpAny_setField ho hd (by simp) ?_)
  show wpAny _ _ (newExc (.type "StopIteration") [] >>= _) _ _ _
  refine wpAny_bind ?_
  simp only [newExc, newTuple]
  refine wpAny_bind (wpAny_newObj_type ?_ (by size_fits))
  refine wpAny_bind (m := firstArgMember _ _) (wpAny_of_eq (a := Value.none) (by first | rfl | (simp only [firstArgMember]; rfl)) ?_)
  refine wpAny_newObj_type ?_ (by size_fits)
  simp only [raiseNew]
  refine wpAny_bind (wpAny_handled ?_)
  rw [show A.in1.handled = none from hh]
  refine wpAny_bind (wpAny_pure (wpAny_throw ?_))
  refine wpAny_bind (wpAny_isInstance (T := "StopIteration") (b := true) ⟨_, Heap.get?_push_size _ rfl, rfl⟩ isSubtype_stop ?_)
  exact wpAny_pure (hQ _ (((Heap.SameBut.update ..).extBut.push _).push _))
theorem raw_walks (hh : A.handled = none) (I d : Addr) (hne : d ≠ I) (es : Array DictEntry) (ep : Nat) :
    Walks prog w A I [I, d] [I] es.size (fun i v => (es[i]?).map (·.key) = some v) (fun i h => h.IsKeyIter I d i es.size ep ∧ RawAt h d es ep) where
  sub := fun b hb => by simp at hb; simp [hb]
  frame := fun _ _ _ st hk => ⟨st.1.at fun o e => hk I (by simp) o e, st.2.keep fun o e => hk d (by simp) o e⟩
  item := fun i s Q E hi st hQ => by
    refine raw_next st.1 st.2 (v := es[i].key) (by simp [hi]) fun h' hit' hs' => ?_
    exact hQ _ h' s.toks (by simp [hi]) ⟨hit', st.2.keep fun o e => (hs'.2 d hne).trans e⟩ fun b o hb e => hs'.extBut b o (fun h => hb (by simp [h])) e
  done := fun s Q E st hQ => raw_end hh st.1 st.2 (Nat.le_refl _) fun h' he' => hQ h' s.toks fun b o hb e => he' b o (fun h => hb (by simp [h])) e
  self := fun _ _ _ _ st hQ => wpAny_pyIter_keyiter st.1 hQ
end
section
variable {prog : Program} {w : World} {A : Around} {E : Value → Shared → Prop} {s : Shared} {h₀ : Heap} {env : Env} {xn : Str} {body : List Stmt} {Q : Flow → Shared → Prop} {m₀ : Str → Option Value} {led : Led}
/-- the end of such a turn -/
def OutP (h₀ : Heap) (L : Addr) (xn : Str) (m₀ : Str → Option Value) (own led₁ : Led) (G' : Led → Prop) (s : Shared) (f : Flow) (s₂ : Shared) : Prop :=
  f = .next ∧ ∃ h' tk' m' led', s₂ = { s with heap := h', toks := tk' } ∧ Fr h₀ L h' m' ∧ (∀ y, y ≠ xn → m' y = m₀ y) ∧ News h₀ L h' (own ++ led') ∧ (∀ a, (∃ o, (a, o) ∈ led') → ∃ o, (a, o) ∈ led₁) ∧ G' led'
theorem OutP.mk {h₀ h' : Heap} {L : Addr} {xn : Str} {m₀ m' : Str → Option Value} {own led₁ led' : Led} {G' : Led → Prop} {s : Shared} {tk' : Nat} (F : Fr h₀ L h' m') (N : News h₀ L h' (own ++ led')) (hm : ∀ y, y ≠ xn → m' y = m₀ y) (ha : ∀ a, (∃ o, (a, o) ∈ led') → ∃ o, (a, o) ∈ led₁) (hG : G' led') :
    OutP h₀ L xn m₀ own led₁ G' s .next { s with heap := h', toks := tk' } := ⟨rfl, h', tk', m', led', rfl, F, hm, N, ha, hG⟩
/-- over a dict's keys, the ledger changing, the dict itself not -/
theorem loop_outer {d : Addr} {od : Obj} {es : Array DictEntry} {ep : Nat} (G : Nat → Led → Prop) (hh : A.handled = none) (F : Fr h₀ env.locals s.heap m₀) (N : News h₀ env.locals s.heap led) (hd : (d, od) ∈ led) (hx : od.ExactDict) (hdat : od.data = .dict es ep) (lo : (d == sysModules) = false) (h0 : G 0 led)
    (turn : ∀ i v h tk own led₁, (es[i]?).map (·.key) = some v → G i led₁ → (∀ q ∈ own, q.1 = d ∨ ∀ r ∈ led₁, r.1 ≠ q.1) → Fr h₀ env.locals h (fun y => if y = xn then some v else m₀ y) → News h₀ env.locals h (own ++ led₁) →
      wpAny (model prog w) A (execs body env) (OutP h₀ env.locals xn m₀ own led₁ (G (i + 1)) s) E { s with heap := h, toks := tk })
    (done : ∀ (m₁ : Str → Option Value) h tk led', G es.size led' → Fr h₀ env.locals h (fun y => if y = xn then m₁ y else m₀ y) → News h₀ env.locals h led' → Q .next { s with heap := h, toks := tk }) :
    wpAny (model prog w) A (pyIter (.ref d)) (fun it s₂ => LoopAtV prog w A h₀ env xn body Q E it s₂) E s := by
  have hat : RawAt s.heap d es ep := ⟨od, (N _ hd).1, hx, hdat⟩
  have hne : d ≠ s.heap.objs.size := Nat.ne_of_lt (Heap.lt_size (N _ hd).1)
  refine raw_iter lo hat ?_
  have W := raw_walks (prog := prog) (w := w) (A := A) hh s.heap.objs.size d hne es ep
  let J : Nat → (Str → Option Value) → List (Addr × Obj) → Prop := fun i m₁ news₁ => G i news₁ ∧ ∀ y, y ≠ xn → m₁ y = m₀ y
  refine ⟨_, _, _, es.size, _, _, m₀, led, J, rfl, W, ?_, ?_, ?_, ⟨⟨_, Heap.get?_push_size _ rfl, rfl, rfl⟩, hat.keep fun o e => Heap.get?_push_of_some _ e⟩, F.push _, (fun p hp => ⟨Heap.get?_push_of_some _ (N p hp).1, (N p hp).2⟩), ⟨h0, fun _ _ => rfl⟩, ?_, ?_⟩
  · intro hm
    rcases List.mem_cons.mp hm with e | hm
    · exact absurd F.ns.lt (e ▸ Nat.lt_irrefl _)
    · exact (N _ hd).2.1 (List.mem_singleton.mp hm).symm
  · intro b hb
    rw [List.mem_singleton.mp hb]
    exact next_is_new F
  · intro q hq hI
    exact absurd (Heap.lt_size (N q hq).1) ((List.mem_singleton.mp hI) ▸ Nat.lt_irrefl _)
  · rintro i v m₁ news₁ s₁ own ⟨hh', tk', rfl⟩ hin hv ⟨hP, hJ⟩ hoff hfp _ _ _ F₁ N₁
    have hm1 : (fun y => if y = xn then some v else m₁ y) = fun y => if y = xn then some v else m₀ y := by
      funext y
      by_cases h1 : y = xn
      · simp [h1]
      · simp only [if_neg h1, hJ y h1]
    rw [hm1] at F₁
    refine wpAny_mono (turn i v hh' tk' own news₁ hv hP (fun q hq => ?_) F₁ N₁) (fun f s₂ q => ?_) fun _ _ e => e
    · rcases List.mem_cons.mp (hfp q hq) with e | e
      · right
        intro r hr hrq
        exact hoff r hr (by rw [hrq, e]; simp)
      · left
        exact List.mem_singleton.mp e
    · obtain ⟨rfl, h', tk, m', led', e, F', hm', N', ha, hG⟩ := q
      exact .next ⟨rfl, h', tk, m', led', e, F', N', fun q hq => (by
        obtain ⟨o, ho⟩ := ha q.1 ⟨q.2, hq⟩
        exact hoff (q.1, o) ho), hG, hm'⟩
  · rintro h' tk m' news' F' N' _ ⟨hP, hJ⟩
    have hm1 : m' = fun y => if y = xn then m' y else m₀ y := by
      funext y
      by_cases h1 : y = xn
      · simp [h1]
      · simp only [if_neg h1, hJ y h1]
    rw [hm1] at F'
    exact done m' h' tk news' hP F' N'
end
end
end Mine

namespace Mine
section
local macro_rules | `(tactic| walk_at "unused 0") => `(tactic| fail)
open PySem PySem.W PyProof.Rows
set_option maxRecDepth 100000
set_option maxHeartbeats 4000000
section
variable {prog : Program} {w : World} {h₀ h : Heap} {L t d : Addr} {news : Led} {p : Parts} {n : Nat}
theorem entry_key {K : Type} [DecidableEq K] {knd : KeyKind prog w K} : ∀ {es : List DictEntry} {kvs : List (K × Value)}, Pairs knd es kvs → es.length = kvs.length := fun h => h.length
theorem outS_raw {lm : List (Str × Addr)} (x : OutS prog w news d lm) : ∃ (o : Obj) (es : Array DictEntry) (ep : Nat), (d, o) ∈ news ∧ o.ExactDict ∧ o.data = .dict es ep ∧ es.size = lm.length ∧ ∀ (i : Nat) (v : Value), (es[i]?).map (·.key) = some v → ∃ y a tk, lm[i]? = some (y, a) ∧ v = .str y tk := by
  obtain ⟨o, ho, es, ep, hex, hdat, hk, hp, hn⟩ := x
  have hl : es.size = lm.length := by have := hp.length; simpa using this
  refine ⟨o, es, ep, ho, hex, hdat, hl, fun i v hv => ?_⟩
  obtain ⟨e, he, rfl⟩ := Option.map_eq_some_iff.mp hv
  obtain ⟨hi, _⟩ := Array.getElem?_eq_some_iff.mp he
  have hi' : i < lm.length := by omega
  obtain ⟨h1, h2⟩ := hp.get? (i := i) (e := e) (k := lm[i].1) (v := .ref lm[i].2) (by simpa using he) (by simp [hi'])
  obtain ⟨tk, htk⟩ : ∃ tk, e.key = .str lm[i].1 tk := by
    exact Value.isStrOf_shape h1
  exact ⟨lm[i].1, lm[i].2, tk, by simp [hi'], htk⟩
theorem outT_raw {sm : List (List Str × Addr × Addr)} (x : OutT prog w news d sm) : ∃ (o : Obj) (es : Array DictEntry) (ep : Nat), (d, o) ∈ news ∧ o.ExactDict ∧ o.data = .dict es ep ∧ es.size = sm.length ∧ ∀ (i : Nat) (v : Value), (es[i]?).map (·.key) = some v → ∃ k ka a, sm[i]? = some (k, ka, a) ∧ v = .ref ka := by
  obtain ⟨⟨o, es, ep, ho, hex, hdat, hes, hn⟩, _⟩ := x
  have hl : es.size = sm.length := by rw [← Array.length_toList, hes]; simp
  refine ⟨o, es, ep, ho, hex, hdat, hl, fun i v hv => ?_⟩
  rw [← Array.getElem?_toList, hes] at hv
  simp only [List.getElem?_map, Option.map_map, Option.map_eq_some_iff] at hv
  obtain ⟨q, hq, rfl⟩ := hv
  obtain ⟨k, ka, a⟩ := q
  exact ⟨k, ka, a, hq, rfl⟩
theorem outS_val {lm : List (Str × Addr)} (x : OutS prog w news d lm) {i : Nat} {y : Str} {a : Addr} (hi : lm[i]? = some (y, a)) : valueAt (lm.map fun x => (x.1, Value.ref x.2)) y = some (.ref a) := by
  obtain ⟨o, ho, es, ep, hex, hdat, hk, hp, hn⟩ := x
  exact valueAt_of_get hn (i := i) (by rw [List.getElem?_map, hi]; rfl)
theorem outT_val {sm : List (List Str × Addr × Addr)} (x : OutT prog w news d sm) {i : Nat} {k : List Str} {ka a : Addr} (hi : sm[i]? = some (k, ka, a)) : ∃ q, atKey (sm.map tripOf) k = some q ∧ q.2 = .ref a := by
  obtain ⟨⟨o, es, ep, ho, hex, hdat, hes, hn⟩, _⟩ := x
  have hv : valueAt (kvsOf (sm.map tripOf)) k = some (.ref a) := by
    refine valueAt_of_get ?_ (i := i) ?_
    · unfold kvsOf
      rw [List.map_map, List.map_map]
      exact hn
    · unfold kvsOf
      rw [List.getElem?_map, List.getElem?_map, hi]
      rfl
  rw [valueAt_kvsOf] at hv
  obtain ⟨q, h1, h2⟩ := Option.map_eq_some_iff.mp hv
  exact ⟨q, h1, h2⟩
def dropC (as : List Addr) (c : Addr → KV) (o : Int) (i : Nat) : Addr → KV := fun a => if a ∈ as.take i then without (c a) o else c a
theorem dropC_zero {as : List Addr} {c : Addr → KV} {o : Int} : dropC as c o 0 = c := by funext a; simp [dropC]
theorem dropC_step {as : List Addr} {c : Addr → KV} {o : Int} {i : Nat} {a : Addr} (hn : as.Nodup) (h : as[i]? = some a) : (fun b => if b = a then without (dropC as c o i a) o else dropC as c o i b) = dropC as c o (i + 1) := by
  obtain ⟨hi, e⟩ := List.getElem?_eq_some_iff.mp h
  have hna : a ∉ as.take i := fun hm => by
    obtain ⟨j, hj, e2⟩ := List.getElem_of_mem hm
    simp only [List.length_take] at hj
    rw [List.getElem_take] at e2
    have := (List.getElem_inj hn).mp (e2.trans e.symm)
    omega
  have ht : as.take (i + 1) = as.take i ++ [a] := by rw [List.take_add_one, h]; rfl
  funext b
  simp only [dropC, ht, List.mem_append, List.mem_singleton, hna, if_false]
  by_cases hb : b = a
  · subst hb; simp
  · simp [hb]
theorem put_addr {a : Addr} {o' o : Obj} {led : Led} (h : (a, o) ∈ led) : ∀ b, (∃ o₁, (b, o₁) ∈ put led a o') → ∃ o₁, (b, o₁) ∈ led := fun b ⟨o₁, hb⟩ => by
  rcases List.mem_cons.mp hb with e | hb
  · injection e with e1 e2; exact ⟨o, e1 ▸ h⟩
  · exact ⟨o₁, (List.mem_filter.mp hb).1⟩
theorem news_own {L : Addr} {h h' : Heap} {own led : Led} {a : Addr} {o' : Obj} (N : News h₀ L h (own ++ led)) (hs : Heap.SameBut a h h') (hne : ∀ q ∈ own, q.1 ≠ a) (N' : News h₀ L h' (put led a o')) : News h₀ L h' (own ++ put led a o') := fun q hq => by
  rcases List.mem_append.mp hq with hq | hq
  · have := N q (List.mem_append_left _ hq)
    exact ⟨(hs.2 q.1 (hne q hq)).trans this.1, this.2⟩
  · exact N' q hq
end
local macro_rules | `(tactic| walk_at "getMethod ref") => `(tactic| (k_here; k_dflt (refine' method_inst ?k1 ?k2 ?k3 ?k4 ?k5 ?k6 ?k7 ?_; (case k1 => k_asm); (case k2 => k_asm); (case k3 => k_inst); (case k4 => k_is); (case k5 => k_is); (case k6 => k_is); (case k7 => k_get); k_whole)))
local macro_rules | `(tactic| walk_at "getMethod ref") => `(tactic| (k_here; first
  | ((with_reducible show wpAny _ _ (getMethod (Value.ref _) (PySem.Str.ofString "get") _) _ _ _); refine gm_dict PySem.F.slot_dict_get PySem.F.type_dict_get (by k_asm) (by repeat (first | assumption | exact In1.isD (by assumption) | refine IsD.cons ?_)) ?_)
  | ((with_reducible show wpAny _ _ (getMethod (Value.ref _) (PySem.Str.ofString "pop") _) _ _ _); refine gm_dict PySem.F.slot_dict_pop PySem.F.type_dict_pop (by k_asm) (by repeat (first | assumption | exact In1.isD (by assumption) | refine IsD.cons ?_)) ?_)
  | ((with_reducible show wpAny _ _ (getMethod (Value.ref _) (PySem.Str.ofString "setdefault") _) _ _ _); refine gm_dict PySem.F.slot_dict_setdefault PySem.F.type_dict_setdefault (by k_asm) (by repeat (first | assumption | exact In1.isD (by assumption) | refine IsD.cons ?_)) ?_)
  | ((with_reducible show wpAny _ _ (getMethod (Value.ref _) (PySem.Str.ofString "items") _) _ _ _); refine gm_dict PySem.F.slot_dict_items PySem.F.type_dict_items (by k_asm) (by repeat (first | assumption | exact In1.isD (by assumption) | refine IsD.cons ?_)) ?_)))
local macro_rules | `(tactic| walk_at "exec For Name Attribute cons nil") => `(tactic| (k_here; (rename Fr _ _ _ _ => lF'); (with_unfolding_all refine' For_invVF lF' ?k1 ?k2 ?_; (case k1 => exact rfl); (case k2 => exact rfl); k_whole)))
local macro_rules | `(tactic| walk_at "call builtin:dict.pop") => `(tactic| (k_here; refine Halt.out ?_))
local macro_rules | `(tactic| walk_at "pyIter ref") => `(tactic| (k_here; refine Halt.out ?_))
local macro_rules | `(tactic| walk_at "subscriptTail") => `(tactic| (k_here; (with_reducible show wpAny _ _ (subscriptTail _ _ (Value.ref _) _) _ _ _); refine Halt.out ?_))
theorem rm_of {prog : Program} {w : World} {A : Around} (h : A.units + 1 < cLine) : (tupleKind (strKind prog w)).room A.in1 := h
theorem Tab.nds {prog : Program} {w : World} {news : Led} {t : Addr} {p : Parts} {n : Nat} (T : Tab prog w news t p n) : (p.lm.map (·.2)).Nodup ∧ (p.sm.map (·.2.2)).Nodup ∧ (p.mm.map (·.2)).Nodup ∧ p.dl ∉ p.inner ∧ p.ds ∉ p.inner ∧ p.dm ∉ p.inner := by
  have h := T.nd
  unfold Parts.dicts at h
  obtain ⟨h1, h⟩ := List.nodup_cons.mp h
  obtain ⟨h2, h⟩ := List.nodup_cons.mp h
  obtain ⟨h3, h⟩ := List.nodup_cons.mp h
  refine ⟨?_, ?_, ?_, fun e => h1 (List.mem_cons_of_mem _ (List.mem_cons_of_mem _ e)), fun e => h2 (List.mem_cons_of_mem _ e), h3⟩
  all_goals unfold Parts.inner at h
  · exact (List.nodup_append.mp h).1
  · exact (List.nodup_append.mp (List.nodup_append.mp h).2.1).1
  · exact (List.nodup_append.mp (List.nodup_append.mp h).2.1).2.1
theorem drop_view {p : Parts} {o : Int} {nl ns nm : Nat} (hd : p.inner.Nodup) (h1 : nl = p.lm.length) (h2 : ns = p.sm.length) (h3 : nm = p.mm.length) :
    ({ p with c := dropC (p.mm.map (·.2)) (dropC (p.sm.map (·.2.2)) (dropC (p.lm.map (·.2)) p.c o nl) o ns) o nm } : Parts).view = fun k => without (p.view k) o := by
  have e1 : (p.lm.map (·.2)).take nl = p.lm.map (·.2) := List.take_of_length_le (by simp [h1])
  have e2 : (p.sm.map (·.2.2)).take ns = p.sm.map (·.2.2) := List.take_of_length_le (by simp [h2])
  have e3 : (p.mm.map (·.2)).take nm = p.mm.map (·.2) := List.take_of_length_le (by simp [h3])
  unfold Parts.inner at hd
  have d1 := List.nodup_append.mp hd
  have d2 := List.nodup_append.mp d1.2.1
  funext k
  have key : ∀ a, p.adr k = some a → dropC (p.mm.map (·.2)) (dropC (p.sm.map (·.2.2)) (dropC (p.lm.map (·.2)) p.c o nl) o ns) o nm a = without (p.c a) o := by
    intro a ha
    unfold dropC
    rw [e1, e2, e3]
    cases k with
    | l x =>
      have m1 : a ∈ p.lm.map (·.2) := List.mem_map.mpr ⟨_, fnd_mem ha, rfl⟩
      have m2 : a ∉ p.sm.map (·.2.2) := fun h => d1.2.2 a m1 a (List.mem_append_left _ h) rfl
      have m3 : a ∉ p.mm.map (·.2) := fun h => d1.2.2 a m1 a (List.mem_append_right _ h) rfl
      rw [if_neg m3, if_neg m2, if_pos m1]
    | s x =>
      obtain ⟨ka, hka⟩ := fndT_mem ha
      have m2 : a ∈ p.sm.map (·.2.2) := List.mem_map.mpr ⟨_, hka, rfl⟩
      have m1 : a ∉ p.lm.map (·.2) := fun h => d1.2.2 a h a (List.mem_append_left _ m2) rfl
      have m3 : a ∉ p.mm.map (·.2) := fun h => d2.2.2 a m2 a h rfl
      rw [if_neg m3, if_pos m2, if_neg m1]
    | m x =>
      have m3 : a ∈ p.mm.map (·.2) := List.mem_map.mpr ⟨_, fnd_mem ha, rfl⟩
      have m1 : a ∉ p.lm.map (·.2) := fun h => d1.2.2 a h a (List.mem_append_right _ m3) rfl
      have m2 : a ∉ p.sm.map (·.2.2) := fun h => d2.2.2 a h a m3 rfl
      rw [if_pos m3, if_neg m2, if_neg m1]
  unfold Parts.view
  show ((p.adr k).map _).getD [] = _
  cases hk : p.adr k with
  | none => rfl
  | some a => exact key a hk
theorem drop_spec (w : World) (t : Addr) (news : Led) (p : Parts) (n : Nat) (TT : Tab PySem.Challenge.rw_xm0751_01.row.prog w news t p n) (hn : n ≤ 1000) (o : Int) (to : Tok) :
    Spec 3 w 181 [.ref t, .int o to] news (fun v news' => v = .none ∧ Kept news news' ∧ ∃ p', Tab PySem.Challenge.rw_xm0751_01.row.prog w news' t p' n ∧ p'.view = fun k => without (p.view k) o) := by
  unfold Spec
  k_fill
  intro mean mg mb dp un gd cn cs ca ccd cl outer A₀ base h₀ L m s Q E B F X N T hk hd hu hret
  have N2 := TT.led2 N (fun _ h => h)
  clear N
  refine wpAny_call ?_
  k_dflt cell_enter
  k_steps
  refine Halt.mk ?_
  obtain ⟨od1, es1, ep1, hod1, hex1, hdat1, hsz1, hkey1⟩ := outS_raw TT.lo
  have nd1 : (p.lm.map (·.2)).Nodup := TT.nds.1
  refine loop_outer (od := od1) (es := es1) (ep := ep1) (led := news) (fun i led₁ => ∃ c', Tab PySem.Challenge.rw_xm0751_01.row.prog w led₁ t { p with c := c' } n ∧ Kept news led₁ ∧ c' = dropC (p.lm.map (·.2)) p.c o i) rfl (by assumption) (news_sub (by assumption) (fun q hq => by repeat (first | exact hq | exact List.mem_append_right _ hq | refine List.mem_cons_of_mem _ ?_))) hod1 hex1 hdat1 TT.sys_l ⟨p.c, TT, Kept.refl, dropC_zero.symm⟩ ?_ ?_
  · intro i v h tks own led₁ hv hG hown F5 N5
    obtain ⟨c', T1, hk1, hc1⟩ := hG
    obtain ⟨y, a, tky, hia, rfl⟩ := hkey1 i v hv
    have hai : a ∈ p.inner := Parts.mem_l (List.mem_of_getElem? hia)
    have N6 := T1.led2 N5 (fun q hq => List.mem_append_right _ hq)
    dsimp only at N6
    have hin : In1 PySem.Challenge.rw_xm0751_01.row.prog w ((t, instObj 184 p.dx) :: (p.dx, tabDict w.params p.t1 p.t2 p.t3 p.dl p.ds p.dm) :: (own ++ led₁)) a (c' a) := (T1.inn a hai).mono (fun q hq => by repeat (first | exact hq | exact List.mem_append_right _ hq | refine List.mem_cons_of_mem _ ?_))
    have hds := hin.isD
    have hol := T1.lo.mono (led := (t, instObj 184 p.dx) :: (p.dx, tabDict w.params p.t1 p.t2 p.t3 p.dl p.ds p.dm) :: (own ++ led₁)) (fun q hq => by repeat (first | exact hq | exact List.mem_append_right _ hq | refine List.mem_cons_of_mem _ ?_))
    dsimp only at hol
    have lr : (a == sysModules) = false := T1.sys a (Parts.in_dicts hai)
    have hca : (c' a).length ≤ n := T1.cl a hai
    have hdne : a ≠ p.dl := fun e => TT.nds.2.2.2.1 (e ▸ hai)
    clear N5 hv
    k_steps
    refine Halt.mk ?_
    refine tail_any (T := "dict") (hol.at (by assumption)).typeIs slot_dict_getitem.lookup (wpAny_getItem_of (knd := strKind _ _) (strKind_is _ _ _ _) (hol.at (by assumption)).mapOf (outS_val hol hia) ?_) (by with_unfolding_all rfl)
    k_steps
    refine Halt.mk ?_
    refine dpop2 (In1.at (by assumption) hin) (intKind_is _ _ _ _) lr rfl (Nat.le_trans hca (Nat.le_trans hn (by decide))) (fun hno => ?_) (fun v hv h' hd' hs' => ?_)
    · k_steps
      refine OutP.mk (led' := led₁) (by assumption) (news_sub (by assumption) (fun q hq => List.mem_cons_of_mem _ (List.mem_cons_of_mem _ hq))) (fun y hy => by simp only [if_neg hy]) (fun _ h => h) ⟨c', T1, hk1, ?_⟩
      rw [← dropC_step nd1 (by rw [List.getElem?_map, hia]; rfl), ← hc1]
      funext b
      by_cases hb : b = a
      · subst hb; rw [if_pos rfl, without_none hno]
      · rw [if_neg hb]
    · have N7 : News _ _ _ (own ++ led₁) := news_sub (by assumption) (fun q hq => List.mem_cons_of_mem _ (List.mem_cons_of_mem _ hq))
      obtain ⟨oa, hoa, _⟩ := T1.inn a hai
      have F7 := fr_put (by assumption) N7 (List.mem_append_right _ hoa) hs'
      obtain ⟨o', N8, T8, kp8, _⟩ := T1.inner_put (news_sub N7 (fun q hq => List.mem_append_right _ hq)) hai hd' hs' (Nat.le_refl _) (Nat.le_trans (without_len _ _) hca)
      have N9 := news_own N7 hs' (fun q hq e => (hown q hq).elim (fun h => hdne (e.symm.trans h)) (fun h => h _ hoa e.symm)) N8
      clear N6 N7 N8
      k_steps
      refine OutP.mk (led' := put led₁ a o') (by assumption) (by assumption) (fun y hy => by simp only [if_neg hy]) (put_addr hoa) ⟨_, T8, hk1.trans kp8, ?_⟩
      rw [← dropC_step nd1 (by rw [List.getElem?_map, hia]; rfl), ← hc1]
  · intro m1 h1 tks1 led1 hG1 FF1 NN1
    obtain ⟨c1, TT1, hk1, hc1⟩ := hG1
    have N6 := TT1.led2 NN1 (fun q hq => hq)
    dsimp only at N6
    clear NN1
    k_steps
    refine Halt.mk ?_
    obtain ⟨od2, es2, ep2, hod2, hex2, hdat2, hsz2, hkey2⟩ := outT_raw TT1.so
    have nd2 : (p.sm.map (·.2.2)).Nodup := TT.nds.2.1
    refine loop_outer (od := od2) (es := es2) (ep := ep2) (led := led1) (fun i led₁ => ∃ c', Tab PySem.Challenge.rw_xm0751_01.row.prog w led₁ t { p with c := c' } n ∧ Kept led1 led₁ ∧ c' = dropC (p.sm.map (·.2.2)) c1 o i) rfl (by assumption) (news_sub (by assumption) (fun q hq => by repeat (first | exact hq | exact List.mem_append_right _ hq | refine List.mem_cons_of_mem _ ?_))) hod2 hex2 hdat2 TT1.sys_s ⟨c1, TT1, Kept.refl, dropC_zero.symm⟩ ?_ ?_
    · intro i v h tks own led₁ hv hG hown F5 N5
      obtain ⟨c', T1, hk1, hc1⟩ := hG
      obtain ⟨k, ka, a, hia, rfl⟩ := hkey2 i v hv
      have hai : a ∈ p.inner := Parts.mem_s (List.mem_of_getElem? hia)
      have N6 := T1.led2 N5 (fun q hq => List.mem_append_right _ hq)
      dsimp only at N6
      have hin : In1 PySem.Challenge.rw_xm0751_01.row.prog w ((t, instObj 184 p.dx) :: (p.dx, tabDict w.params p.t1 p.t2 p.t3 p.dl p.ds p.dm) :: (own ++ led₁)) a (c' a) := (T1.inn a hai).mono (fun q hq => by repeat (first | exact hq | exact List.mem_append_right _ hq | refine List.mem_cons_of_mem _ ?_))
      have hds := hin.isD
      have hol := T1.so.mono (led := (t, instObj 184 p.dx) :: (p.dx, tabDict w.params p.t1 p.t2 p.t3 p.dl p.ds p.dm) :: (own ++ led₁)) (fun q hq => by repeat (first | exact hq | exact List.mem_append_right _ hq | refine List.mem_cons_of_mem _ ?_))
      dsimp only at hol
      have lr : (a == sysModules) = false := T1.sys a (Parts.in_dicts hai)
      have hca : (c' a).length ≤ n := T1.cl a hai
      have hdne : a ≠ p.ds := fun e => TT.nds.2.2.2.2.1 (e ▸ hai)
      clear N5 hv
      k_steps
      refine Halt.mk ?_
      obtain ⟨q, hq1, hq2⟩ := outT_val hol hia
      refine tail_any (T := "dict") (hol.at (by assumption)).typeIs slot_dict_getitem.lookup (wpAny_getItem_heap (knd := tupleKind (strKind _ _)) (rm_of (by ktr_units)) (KeyIn.at (by assumption) (hol.2 _ (List.mem_of_getElem? hia))) (hol.at (by assumption)) hq1 ?_) (by with_unfolding_all rfl)
      rw [hq2]
      k_steps
      refine Halt.mk ?_
      refine dpop2 (In1.at (by assumption) hin) (intKind_is _ _ _ _) lr rfl (Nat.le_trans hca (Nat.le_trans hn (by decide))) (fun hno => ?_) (fun v hv h' hd' hs' => ?_)
      · k_steps
        refine OutP.mk (led' := led₁) (by assumption) (news_sub (by assumption) (fun q hq => List.mem_cons_of_mem _ (List.mem_cons_of_mem _ hq))) (fun y hy => by simp only [if_neg hy]) (fun _ h => h) ⟨c', T1, hk1, ?_⟩
        rw [← dropC_step nd2 (by rw [List.getElem?_map, hia]; rfl), ← hc1]
        funext b
        by_cases hb : b = a
        · subst hb; rw [if_pos rfl, without_none hno]
        · rw [if_neg hb]
      · have N7 : News _ _ _ (own ++ led₁) := news_sub (by assumption) (fun q hq => List.mem_cons_of_mem _ (List.mem_cons_of_mem _ hq))
        obtain ⟨oa, hoa, _⟩ := T1.inn a hai
        have F7 := fr_put (by assumption) N7 (List.mem_append_right _ hoa) hs'
        obtain ⟨o', N8, T8, kp8, _⟩ := T1.inner_put (news_sub N7 (fun q hq => List.mem_append_right _ hq)) hai hd' hs' (Nat.le_refl _) (Nat.le_trans (without_len _ _) hca)
        have N9 := news_own N7 hs' (fun q hq e => (hown q hq).elim (fun h => hdne (e.symm.trans h)) (fun h => h _ hoa e.symm)) N8
        clear N6 N7 N8
        k_steps
        refine OutP.mk (led' := put led₁ a o') (by assumption) (by assumption) (fun y hy => by simp only [if_neg hy]) (put_addr hoa) ⟨_, T8, hk1.trans kp8, ?_⟩
        rw [← dropC_step nd2 (by rw [List.getElem?_map, hia]; rfl), ← hc1]
    · intro m2 h2 tks2 led2 hG2 FF2 NN2
      obtain ⟨c2, TT2, hk2, hc2⟩ := hG2
      have N6 := TT2.led2 NN2 (fun q hq => hq)
      dsimp only at N6
      clear NN2
      k_steps
      refine Halt.mk ?_
      obtain ⟨od3, es3, ep3, hod3, hex3, hdat3, hsz3, hkey3⟩ := outS_raw TT2.mo
      have nd3 : (p.mm.map (·.2)).Nodup := TT.nds.2.2.1
      refine loop_outer (od := od3) (es := es3) (ep := ep3) (led := led2) (fun i led₁ => ∃ c', Tab PySem.Challenge.rw_xm0751_01.row.prog w led₁ t { p with c := c' } n ∧ Kept led2 led₁ ∧ c' = dropC (p.mm.map (·.2)) c2 o i) rfl (by assumption) (news_sub (by assumption) (fun q hq => by repeat (first | exact hq | exact List.mem_append_right _ hq | refine List.mem_cons_of_mem _ ?_))) hod3 hex3 hdat3 TT2.sys_m ⟨c2, TT2, Kept.refl, dropC_zero.symm⟩ ?_ ?_
      · intro i v h tks own led₁ hv hG hown F5 N5
        obtain ⟨c', T1, hk1, hc1⟩ := hG
        obtain ⟨y, a, tky, hia, rfl⟩ := hkey3 i v hv
        have hai : a ∈ p.inner := Parts.mem_m (List.mem_of_getElem? hia)
        have N6 := T1.led2 N5 (fun q hq => List.mem_append_right _ hq)
        dsimp only at N6
        have hin : In1 PySem.Challenge.rw_xm0751_01.row.prog w ((t, instObj 184 p.dx) :: (p.dx, tabDict w.params p.t1 p.t2 p.t3 p.dl p.ds p.dm) :: (own ++ led₁)) a (c' a) := (T1.inn a hai).mono (fun q hq => by repeat (first | exact hq | exact List.mem_append_right _ hq | refine List.mem_cons_of_mem _ ?_))
        have hds := hin.isD
        have hol := T1.mo.mono (led := (t, instObj 184 p.dx) :: (p.dx, tabDict w.params p.t1 p.t2 p.t3 p.dl p.ds p.dm) :: (own ++ led₁)) (fun q hq => by repeat (first | exact hq | exact List.mem_append_right _ hq | refine List.mem_cons_of_mem _ ?_))
        dsimp only at hol
        have lr : (a == sysModules) = false := T1.sys a (Parts.in_dicts hai)
        have hca : (c' a).length ≤ n := T1.cl a hai
        have hdne : a ≠ p.dm := fun e => TT.nds.2.2.2.2.2 (e ▸ hai)
        clear N5 hv
        k_steps
        refine Halt.mk ?_
        refine tail_any (T := "dict") (hol.at (by assumption)).typeIs slot_dict_getitem.lookup (wpAny_getItem_of (knd := strKind _ _) (strKind_is _ _ _ _) (hol.at (by assumption)).mapOf (outS_val hol hia) ?_) (by with_unfolding_all rfl)
        k_steps
        refine Halt.mk ?_
        refine dpop2 (In1.at (by assumption) hin) (intKind_is _ _ _ _) lr rfl (Nat.le_trans hca (Nat.le_trans hn (by decide))) (fun hno => ?_) (fun v hv h' hd' hs' => ?_)
        · k_steps
          refine OutP.mk (led' := led₁) (by assumption) (news_sub (by assumption) (fun q hq => List.mem_cons_of_mem _ (List.mem_cons_of_mem _ hq))) (fun y hy => by simp only [if_neg hy]) (fun _ h => h) ⟨c', T1, hk1, ?_⟩
          rw [← dropC_step nd3 (by rw [List.getElem?_map, hia]; rfl), ← hc1]
          funext b
          by_cases hb : b = a
          · subst hb; rw [if_pos rfl, without_none hno]
          · rw [if_neg hb]
        · have N7 : News _ _ _ (own ++ led₁) := news_sub (by assumption) (fun q hq => List.mem_cons_of_mem _ (List.mem_cons_of_mem _ hq))
          obtain ⟨oa, hoa, _⟩ := T1.inn a hai
          have F7 := fr_put (by assumption) N7 (List.mem_append_right _ hoa) hs'
          obtain ⟨o', N8, T8, kp8, _⟩ := T1.inner_put (news_sub N7 (fun q hq => List.mem_append_right _ hq)) hai hd' hs' (Nat.le_refl _) (Nat.le_trans (without_len _ _) hca)
          have N9 := news_own N7 hs' (fun q hq e => (hown q hq).elim (fun h => hdne (e.symm.trans h)) (fun h => h _ hoa e.symm)) N8
          clear N6 N7 N8
          k_steps
          refine OutP.mk (led' := put led₁ a o') (by assumption) (by assumption) (fun y hy => by simp only [if_neg hy]) (put_addr hoa) ⟨_, T8, hk1.trans kp8, ?_⟩
          rw [← dropC_step nd3 (by rw [List.getElem?_map, hia]; rfl), ← hc1]
      · intro m3 h3 tks3 led3 hG3 FF3 NN3
        obtain ⟨c3, TT3, hk3, hc3⟩ := hG3
        have N6 := TT3.led2 NN3 (fun q hq => hq)
        dsimp only at N6
        clear NN3
        k_steps
        exact hret _ _ _ led3 ⟨rfl, hk1.trans (hk2.trans hk3), { p with c := c3 }, TT3, by subst hc1; subst hc2; subst hc3; exact drop_view (List.nodup_cons.mp (List.nodup_cons.mp (List.nodup_cons.mp TT.nd).2).2).2 hsz1 hsz2 hsz3⟩ (by assumption) (news_sub (by assumption) (fun q hq => by repeat (first | exact hq | exact List.mem_append_right _ hq | refine List.mem_cons_of_mem _ ?_)))
end
end Mine

namespace Mine
section
open PySem PySem.W PyProof.Rows
set_option maxRecDepth 100000
set_option maxHeartbeats 4000000
section
variable {prog : Program} {w : World} {A : Around} {E : Value → Shared → Prop} {s : Shared} {h₀ : Heap} {L : Addr} {m : Str → Option Value} {news : Led}
theorem cut_parts {sl : Addr} {u : Tok} {Q : Int × Int × Nat → Shared → Prop} (hs : s.heap.IsSliceOf sl .none (.int 3 u) .none) (h : Q (0, 1, 3) s) :
    wpAny (model prog w) A (Builtin.Slice.sliceApplied (.ref sl) (pure (4 : Int))) Q E s := by
  obtain ⟨os, hos, hcs, hds⟩ := id hs
  unfold Builtin.Slice.sliceApplied Builtin.Slice.sliceFields
  refine wpAny_bind (wpAny_bind (wpAny_field hos hds (x := .none) rfl (wpAny_bind (wpAny_field hos hds (x := .int 3 u) rfl (wpAny_bind (wpAny_field hos hds (x := .none) rfl (wpAny_pure ?_)))))))
  refine wpAny_bind (slicePart_none ?_)
  show wpAny _ _ (if ((1 : Int) == 0) = true then _ else _) _ _ s
  rw [if_neg (by decide)]
  refine wpAny_bind (slicePart_none (wpAny_bind (slicePart_int (wpAny_bind (wpAny_pure ?_)))))
  show wpAny _ _ (pure ((0 : Int), (1 : Int), 3)) _ _ s
  exact wpAny_pure h
theorem cut_item {t sl : Addr} {x0 x1 x2 x3 : Value} {u : Tok} {Q : Value → Shared → Prop} (ht : IsTup s.heap t #[x0, x1, x2, x3]) (hs : s.heap.IsSliceOf sl .none (.int 3 u) .none)
    (h : Q (.ref s.heap.objs.size) { s with heap := s.heap.push { cls := .type "tuple", data := .seq #[x0, x1, x2] } }) : wpAny (model prog w) A (getItem (.ref t) (.ref sl)) Q E s := by
  have hdrop : sizeOk (.seq (#[x0, x1, x2] : Array Value)) := by
    show 3 ≤ sizeLine
    rw [sizeLine_eq]
    decide
  obtain ⟨os, hos, hcs, hds⟩ := id hs
  have hTs : s.TypeIs (.ref sl) "slice" := ⟨os, hos, hcs⟩
  unfold getItem
  try with_reducible refine wpAny_holding ?_
  first | refine wpAny_bind (wpAny_pure ?_) | skip
  refine wpAny_bind (wpAny_sequenceKey ht.typeIs (by decide) ?_)
  refine wpAny_bind (wpAny_callSpecial?_slot (name := Str.ofString "__getitem__") ht.typeIs slot_tuple_getitem
    (wpAny_call_entry slot_tuple_getitem ht.typeIs entry_tuple_getitem ?_ (args_tuple_getitem _ _)))
  show wpAny _ _ (Builtin.Tuple.tupleItemsOf (.ref t) >>= _) _ _ s
  refine wpAny_bind (tupleItemsOf_ ht ?_)
  refine wpAny_bind (wpAny_typeOf hTs ?_)
  rw [if_pos (by decide)]
  refine wpAny_bind (cut_parts hs ?_)
  show wpAny _ _ (if ((0 : Int) == 0 && (1 : Int) == 1 && (3 : Nat) == 4) = true then _ else _) _ _ s
  rw [if_neg (by decide)]
  have e : ((List.range 3).filterMap fun (k : Nat) => (#[x0, x1, x2, x3] : Array Value)[((0 : Int) + (k : Int) * 1).toNat]?).toArray = #[x0, x1, x2] := rfl
  rw [e]
  first
    | exact wpAny_bind (m := Builtin.Tuple.tupleExact _) (wpAny_newObj_type (wpAny_pure ⟨_, rfl, wpAny_pure h⟩) hdrop)
    | exact wpAny_bind (m := Builtin.Tuple.tupleExact _) (wpAny_newObj_type (wpAny_bind (wpAny_pure (wpAny_pure ⟨_, rfl, wpAny_pure h⟩))) hdrop)
    | exact wpAny_bind (wpAny_bind (m := Builtin.Tuple.tupleExact _) (wpAny_newObj_type (wpAny_pure (wpAny_pure ⟨_, rfl, wpAny_pure h⟩)) hdrop))
    | exact wpAny_bind (wpAny_bind (m := Builtin.Tuple.tupleExact _) (wpAny_newObj_type (wpAny_pure ⟨_, rfl, wpAny_pure h⟩) hdrop))
theorem cut3 {value slice : Expr} {t : Addr} {x0 x1 x2 x3 : Value} {n : Nat} {u : Tok} {Q : Value → Shared → Prop}
    (F : Fr h₀ L s.heap m) (N : News h₀ L s.heap news) (ht : (t, ({ cls := .type "tuple", data := .seq #[x0, x1, x2, x3] n } : Obj)) ∈ news)
    (h : ∀ D h', Fr h₀ L h' m → News h₀ L h' ((D, { cls := .type "tuple", data := .seq #[x0, x1, x2] }) :: news) → (∀ p ∈ news, p.1 < D) → Q (.ref D) { s with heap := h' })
    (hs : subscripted slice false (.ref t) (.ref s.heap.objs.size) = operate [.ref s.heap.objs.size, .ref t] (getItem (.ref t) (.ref s.heap.objs.size)))
    (hg : ∀ r, letTemporaryGo value (.ref t) r = pure ()) :
    wpAny (model prog w) A (subscriptTail value slice (.ref t) (.ref s.heap.objs.size)) Q E { s with heap := s.heap.push { cls := .type "slice", data := .fields #[.none, .int 3 u, .none] } } := by
  have ht0 : IsTup s.heap t #[x0, x1, x2, x3] := News.isTup N ht
  have ht' : IsTup (s.heap.push { cls := .type "slice", data := .fields #[.none, .int 3 u, .none] }) t #[x0, x1, x2, x3] := ht0.keeps fun _ _ e => Heap.get?_push_of_some _ e
  refine subscriptTail_ops (s := { s with heap := s.heap.push { cls := .type "slice", data := .fields #[.none, .int 3 u, .none] } }) ht'.typeIs slot_tuple_getitem.lookup
    (cut_item ht' (Heap.IsSliceOf.new ..) ?_) hs hg
  have N1 := News.push (F.push { cls := .type "slice", data := .fields #[.none, .int 3 u, .none] }) (N.grown fun _ _ e => Heap.get?_push_of_some _ e) { cls := .type "tuple", data := .seq #[x0, x1, x2] }
  rw [Heap.size_push] at N1
  show Q (.ref (s.heap.push _).objs.size) _
  rw [Heap.size_push]
  exact h _ _ ((F.push _).push _) N1 fun p hp => Nat.lt_succ_of_lt (Heap.lt_size (N p hp).1)
theorem dat_cmp (N : News h₀ L s.heap news) {a b : Value} {da db : Dat} (Da : DatIn news a da) (Db : DatIn news b db) (oka : kqdOk 8 da = true) (okb : kqdOk 8 db = true) (hu : A.units + 64 < cLine) (q : Bool) (hq : q = true ↔ da = db) {Q : Value → Shared → Prop} :
    (Q (.bool q) s → wpAny (model prog w) A (compareOp .Eq a b) Q E s) ∧ (Q (.bool (!q)) s → wpAny (model prog w) A (compareOp .NotEq a b) Q E s) := by
  obtain ⟨as, ra⟩ := kqd_in N 8 Da oka
  obtain ⟨bs, rb⟩ := kqd_in N 8 Db okb
  have la := kqd_lay 8 da oka
  have lb := kqd_lay 8 db okb
  have sa : SeqAt.shaped (kqdP da) = true := by unfold SeqAt.shaped; rw [la.1, Bool.true_and]; exact decide_eq_true (Nat.le_trans la.2 (by decide))
  have sb : SeqAt.shaped (kqdP db) = true := by unfold SeqAt.shaped; rw [lb.1, Bool.true_and]; exact decide_eq_true (Nat.le_trans lb.2 (by decide))
  have e : PyData.eqv (kqdP da) (kqdP db) = q := by
    have z := kqd_eqv 8 da db 8 oka okb
    cases q with
    | true => exact z.mpr (hq.mp rfl)
    | false => exact Bool.eq_false_iff.mpr fun x => absurd (hq.mpr (z.mp x)) (by simp)
  exact ⟨fun h => eq_dataH ra rb sa sb hu (by rw [e]; exact h), fun h => ne_dataH ra rb sa sb hu (by rw [e]; exact h)⟩
theorem cmp2 (N : News h₀ L s.heap news) {a b : Addr} {x1 y1 x2 y2 : Str} {t1 t2 t3 t4 : Tok} {n1 n2 : Nat} (ma : (a, ({ cls := .type "tuple", data := .seq #[.str x1 t1, .str y1 t2] n1 } : Obj)) ∈ news) (mb : (b, ({ cls := .type "tuple", data := .seq #[.str x2 t3, .str y2 t4] n2 } : Obj)) ∈ news)
    (o1 : PyData.strOk x1 = true) (o2 : PyData.strOk y1 = true) (o3 : PyData.strOk x2 = true) (o4 : PyData.strOk y2 = true) (hu : A.units + 64 < cLine) {Q : Value → Shared → Prop} (h : Q (.bool (decide (x1 = x2) && decide (y1 = y2))) s) :
    wpAny (model prog w) A (compareOp .Eq (.ref a) (.ref b)) Q E s :=
  (dat_cmp N (da := .tuple [.str x1, .str y1]) (db := .tuple [.str x2, .str y2]) (.tuple ma (.cons (.str _ _) (.cons (.str _ _) .nil))) (.tuple mb (.cons (.str _ _) (.cons (.str _ _) .nil))) (by simp [kqdOk, o1, o2]) (by simp [kqdOk, o3, o4]) hu _ (by simp)).1 h
theorem cmp3 (N : News h₀ L s.heap news) {a b k1 k2 : Addr} {w1 x1 y1 w2 x2 y2 : Str} {i1 i2 : Int} {t1 t2 t3 t4 t5 t6 t7 t8 : Tok} {n1 n2 n3 n4 : Nat}
    (ma : (a, ({ cls := .type "tuple", data := .seq #[.str w1 t5, .int i1 t6, .ref k1] n3 } : Obj)) ∈ news) (mb : (b, ({ cls := .type "tuple", data := .seq #[.str w2 t7, .int i2 t8, .ref k2] n4 } : Obj)) ∈ news)
    (mk : (k1, ({ cls := .type "tuple", data := .seq #[.str x1 t1, .str y1 t2] n1 } : Obj)) ∈ news) (ml : (k2, ({ cls := .type "tuple", data := .seq #[.str x2 t3, .str y2 t4] n2 } : Obj)) ∈ news)
    (o5 : PyData.strOk w1 = true) (o6 : PyData.strOk w2 = true) (o1 : PyData.strOk x1 = true) (o2 : PyData.strOk y1 = true) (o3 : PyData.strOk x2 = true) (o4 : PyData.strOk y2 = true) (hu : A.units + 64 < cLine) {Q : Value → Shared → Prop} :
    (Q (.bool (decide (w1 = w2) && decide (i1 = i2) && (decide (x1 = x2) && decide (y1 = y2)))) s → wpAny (model prog w) A (compareOp .Eq (.ref a) (.ref b)) Q E s) ∧
    (Q (.bool (!(decide (w1 = w2) && decide (i1 = i2) && (decide (x1 = x2) && decide (y1 = y2))))) s → wpAny (model prog w) A (compareOp .NotEq (.ref a) (.ref b)) Q E s) :=
  dat_cmp N (da := .tuple [.str w1, .int i1, .tuple [.str x1, .str y1]]) (db := .tuple [.str w2, .int i2, .tuple [.str x2, .str y2]]) (.tuple ma (.cons (.str _ _) (.cons (.int _ _) (.cons (.tuple mk (.cons (.str _ _) (.cons (.str _ _) .nil))) .nil)))) (.tuple mb (.cons (.str _ _) (.cons (.int _ _) (.cons (.tuple ml (.cons (.str _ _) (.cons (.str _ _) .nil))) .nil))))
    (by simp [kqdOk, o1, o2, o5]) (by simp [kqdOk, o3, o4, o6]) hu _ (by simp [and_assoc])
end
end
end Mine

namespace Mine
section
local macro_rules | `(tactic| walk_at "unused 0") => `(tactic| fail)
open PySem PySem.W PyProof.Rows
set_option maxRecDepth 100000
set_option maxHeartbeats 4000000
open LCg LCt
structure Row where
  word : Str
  o : Int
  nm : Str
  sl : Str
  val : Dat
def rowDat (r : Row) : Dat := .tuple [.str r.word, .int r.o, .tuple [.str r.nm, .str r.sl], r.val]
theorem din_tuple {led : Led} {v : Value} {ds : List Dat} (h : DatIn led v (.tuple ds)) : ∃ (a : Addr) (vs : List Value) (n : Nat), v = .ref a ∧ (a, ({ cls := .type "tuple", data := .seq vs.toArray n } : Obj)) ∈ led ∧ DatAll led vs ds := by
  cases h with
  | tuple hm hr => exact ⟨_, _, _, rfl, hm, hr⟩
theorem dall_cons {led : Led} {vs : List Value} {d : Dat} {ds : List Dat} (h : DatAll led vs (d :: ds)) : ∃ v vs', vs = v :: vs' ∧ DatIn led v d ∧ DatAll led vs' ds := by
  cases h with
  | cons a b => exact ⟨_, _, rfl, a, b⟩
theorem dall_nil {led : Led} {vs : List Value} (h : DatAll led vs []) : vs = [] := by
  cases h
  rfl
theorem din_str {led : Led} {v : Value} {x : Str} (h : DatIn led v (.str x)) : ∃ t, v = .str x t := by
  cases h
  exact ⟨_, rfl⟩
theorem din_int {led : Led} {v : Value} {x : Int} (h : DatIn led v (.int x)) : ∃ t, v = .int x t := by
  cases h
  exact ⟨_, rfl⟩
theorem row_open {led : Led} {v : Value} {r : Row} (h : DatIn led v (rowDat r)) : ∃ (a ka : Addr) (tw to t1 t2 : Tok) (vv : Value) (n1 n2 : Nat), v = .ref a ∧ (a, ({ cls := .type "tuple", data := .seq #[.str r.word tw, .int r.o to, .ref ka, vv] n1 } : Obj)) ∈ led ∧
    (ka, ({ cls := .type "tuple", data := .seq #[.str r.nm t1, .str r.sl t2] n2 } : Obj)) ∈ led ∧ DatIn led vv r.val := by
  obtain ⟨a, vs, n1, rfl, hm, hr⟩ := din_tuple h
  obtain ⟨v1, r1, rfl, h1, hr⟩ := dall_cons hr
  obtain ⟨v2, r2, rfl, h2, hr⟩ := dall_cons hr
  obtain ⟨v3, r3, rfl, h3, hr⟩ := dall_cons hr
  obtain ⟨v4, r4, rfl, h4, hr⟩ := dall_cons hr
  obtain rfl := dall_nil hr
  obtain ⟨tw, rfl⟩ := din_str h1
  obtain ⟨to, rfl⟩ := din_int h2
  obtain ⟨ka, ks, n2, rfl, hk, hkr⟩ := din_tuple h3
  obtain ⟨w1, q1, rfl, h5, hkr⟩ := dall_cons hkr
  obtain ⟨w2, q2, rfl, h6, hkr⟩ := dall_cons hkr
  obtain rfl := dall_nil hkr
  obtain ⟨t1, rfl⟩ := din_str h5
  obtain ⟨t2, rfl⟩ := din_str h6
  exact ⟨_, _, _, _, _, _, _, _, _, rfl, hm, hk, h4⟩
theorem datall_get {led : Led} : ∀ {vs : List Value} {ds : List Dat}, DatAll led vs ds → ∀ {i : Nat} {v : Value}, vs[i]? = some v → ∃ d, ds[i]? = some d ∧ DatIn led v d
  | _, _, .nil, i, v, h => by simp at h
  | _, _, .cons h1 h2, i, v, h => by
    cases i with
    | zero => exact ⟨_, rfl, by cases h; exact h1⟩
    | succ j => exact datall_get h2 (i := j) h
theorem datall_len {led : Led} : ∀ {vs : List Value} {ds : List Dat}, DatAll led vs ds → vs.length = ds.length
  | _, _, .nil => rfl
  | _, _, .cons _ h => congrArg (· + 1) (datall_len h)
theorem datall_snoc {led : Led} : ∀ {vs : List Value} {ds : List Dat} {v : Value} {d : Dat}, DatAll led vs ds → DatIn led v d → DatAll led (vs ++ [v]) (ds ++ [d])
  | _, _, _, _, .nil, h => .cons h .nil
  | _, _, _, _, .cons h1 h2, h => .cons h1 (datall_snoc h2 h)
section
variable {prog : Program} {w : World} {A : Around} {E : Value → Shared → Prop} {s : Shared} {h₀ : Heap} {L : Addr} {m : Str → Option Value} {env : Env}
theorem rest_ind {ct elt : Expr} {x : Str} {scope : Scope} {cl : List (Str × Addr)} {S : List (Addr × Obj) → Prop} {P : Nat → Value → Prop} {Fin : List Value → List (Addr × Obj) → Prop} {n : Nat} (Inv : Nat → List Value → Led → Prop)
    (step : ∀ i ys news v I oI C oC D m₂ h tk (E' : Value → Shared → Prop) (G : List Value → Led → Prop), i < n → Inv i ys news → (∀ news', Inv (i + 1) ys news' → G ys news') → (∀ y news', Inv (i + 1) (ys ++ [y]) news' → G (ys ++ [y]) news') → P i v → NsObj oC m₂ → m₂ x = some v → Fr h₀ L h m → News h₀ L h ((I, oI) :: (C, oC) :: (D, lst ys) :: news) → Off3 I C D news → ((@Ne Nat I C) ∧ (@Ne Nat I D) ∧ (@Ne Nat C D)) →
      wpAny (model prog w) A (isTrue ct (compEnvC scope cl C env) (eval ct (compEnvC scope cl C env))) (fun ok s' => if ok = true then
        wpAny (model prog w) A (eval elt (compEnvC scope cl C env)) (CompEnd h₀ L m { s with heap := h, toks := tk } I oI C oC D (lst ys) S (fun y news' => G (ys ++ [y]) news')) E' s'
        else CompEnd h₀ L m { s with heap := h, toks := tk } I oI C oC D (lst ys) S (fun _ news' => G ys news') Value.none s') E' { s with heap := h, toks := tk })
    (fin : ∀ ys news, Inv n ys news → Fin ys news) : ∀ k i ys news, i + k = n → Inv i ys news → CompRestT prog w A h₀ L m env ct elt x scope cl s S P Fin k i ys news
  | 0, i, ys, news, e, hi => CompRestT.zero (fin ys news (by simpa [← e] using hi))
  | k + 1, i, ys, news, e, hi => CompRestT.succ fun v I oI C oC D m₂ h tk E' hv hC hx F N off ne =>
    step i ys news v I oI C oC D m₂ h tk E' (CompRestT prog w A h₀ L m env ct elt x scope cl s S P Fin k (i + 1)) (by omega) hi (fun news' h' => rest_ind Inv step fin k (i + 1) _ _ (by omega) h') (fun y news' h' => rest_ind Inv step fin k (i + 1) _ _ (by omega) h') hv hC hx F N off ne
end
theorem filt_skip {α : Type} {l : List α} {f : α → Bool} {i : Nat} {r : α} (h : l[i]? = some r) (hf : f r = false) : (l.take (i + 1)).filter f = (l.take i).filter f := by
  rw [List.take_add_one, h, List.filter_append]
  simp [hf]
theorem filt_take {α : Type} {l : List α} {f : α → Bool} {i : Nat} {r : α} (h : l[i]? = some r) (hf : f r = true) : (l.take (i + 1)).filter f = (l.take i).filter f ++ [r] := by
  rw [List.take_add_one, h, List.filter_append]
  simp [hf]
theorem dat_mono {led led' : Led} (hs : ∀ q ∈ led, q ∈ led') {v : Value} {d : Dat} (h : DatIn led v d) : DatIn led' v d := DatIn.mono hs h
def keyIs (r : Row) (x y : Str) : Bool := decide (r.nm = x) && decide (r.sl = y)
def isRow (r : Row) (wd : Str) (o : Int) (x y : Str) : Bool := decide (r.word = wd) && decide (r.o = o) && keyIs r x y
def putRows (rows : List Row) (wd : Str) (o : Int) (x y : Str) (d : Dat) : List Row :=
  rows.filter (fun r => !isRow r wd o x y) ++ (match d with | .none => [] | _ => [⟨wd, o, x, y, d⟩])
local macro_rules | `(tactic| k_mem) => `(tactic| first | ktr_member | exact List.mem_cons_self .. | (refine' List.mem_cons_of_mem _ ?_; k_mem))
local macro_rules | `(tactic| walk_at "subscriptTail Name Slice ref ref") => `(tactic| (k_here; (with_reducible show wpAny _ _ (subscriptTail _ (Expr.Slice none (some _) none _) (Value.ref _) (Value.ref _)) _ _ _); k_dflt (refine' cut3 ?F ?N ?t ?_ ?s ?g; (case F => k_asm); (case N => k_asm); (case t => k_mem); (case s => with_unfolding_all rfl); (case g => (intro _; with_unfolding_all rfl)); k_whole); intro D' h' F' N' l1; (try k_lt l1)))
local macro_rules | `(tactic| walk_at "compareOp NotEq ref ref") => `(tactic| (k_here; k_dflt (refine' (cmp3 ?N ?ma ?mb ?mk ?ml ?o5 ?o6 ?o1 ?o2 ?o3 ?o4 ?hu).2 ?_; (case N => k_asm); (case ma => k_mem); (case mb => k_mem); (case mk => k_mem); (case ml => k_mem); (case o5 => (first | assumption | rfl | decide +kernel)); (case o6 => (first | assumption | rfl | decide +kernel)); (case o1 => (first | assumption | rfl | decide +kernel)); (case o2 => (first | assumption | rfl | decide +kernel)); (case o3 => (first | assumption | rfl | decide +kernel)); (case o4 => (first | assumption | rfl | decide +kernel)); (case hu => ktr_units); k_whole)))
local macro_rules | `(tactic| walk_at "compareOp Eq ref ref") => `(tactic| (k_here; k_dflt (refine' (cmp3 ?N ?ma ?mb ?mk ?ml ?o5 ?o6 ?o1 ?o2 ?o3 ?o4 ?hu).1 ?_; (case N => k_asm); (case ma => k_mem); (case mb => k_mem); (case mk => k_mem); (case ml => k_mem); (case o5 => (first | assumption | rfl | decide +kernel)); (case o6 => (first | assumption | rfl | decide +kernel)); (case o1 => (first | assumption | rfl | decide +kernel)); (case o2 => (first | assumption | rfl | decide +kernel)); (case o3 => (first | assumption | rfl | decide +kernel)); (case o4 => (first | assumption | rfl | decide +kernel)); (case hu => ktr_units); k_whole)))
local macro_rules | `(tactic| walk_at "compareOp Eq ref ref") => `(tactic| (k_here; k_dflt (refine' cmp2 ?N ?ma ?mb ?o1 ?o2 ?o3 ?o4 ?hu ?_; (case N => k_asm); (case ma => k_mem); (case mb => k_mem); (case o1 => (first | assumption | rfl | decide +kernel)); (case o2 => (first | assumption | rfl | decide +kernel)); (case o3 => (first | assumption | rfl | decide +kernel)); (case o4 => (first | assumption | rfl | decide +kernel)); (case hu => ktr_units); k_whole)))
local macro_rules | `(tactic| walk_at "CompSrcT") => `(tactic| (k_here; refine Halt.out ?_))
local macro_rules | `(tactic| walk_at "binaryOp Add ref ref") => `(tactic| (k_here; refine Halt.out ?_))
def RowOk (r : Row) : Prop := PyData.strOk r.word = true ∧ PyData.strOk r.nm = true ∧ PyData.strOk r.sl = true
theorem put_spec (w : World) (news : Led) (H : Addr) (vs : List Value) (c : Nat) (rows : List Row) (hH : (H, PySem.W.listOf vs.toArray c) ∈ news) (hR : DatAll news vs (rows.map rowDat)) (hsz : vs.length ≤ 1000)
    (wd : Str) (tw : Tok) (o : Int) (to : Tok) (ka : Addr) (x y : Str) (tx ty : Tok) (kn : Nat) (hk : (ka, ({ cls := .type "tuple", data := .seq #[.str x tx, .str y ty] kn } : Obj)) ∈ news) (dv : Value) (d : Dat) (hdv : (dv = .none ∧ d = .none) ∨ (∃ b, dv = .bool b ∧ d = .bool b) ∨ ∃ i t, dv = .int i t ∧ d = .int i) (hok : ∀ r ∈ rows, RowOk r) (okw : PyData.strOk wd = true) (okx : PyData.strOk x = true) (oky : PyData.strOk y = true) :
    Spec 10 w 226 [.ref H, .str wd tw, .int o to, .ref ka, dv] news (fun v news' => ∃ H' vs' c', v = .ref H' ∧ (H', PySem.W.listOf vs'.toArray c') ∈ news' ∧ (∀ q ∈ news, q ∈ news') ∧ DatAll news' vs' ((putRows rows wd o x y d).map rowDat)) := by
  unfold Spec
  k_fill
  intro mean mg mb dp un gd cn cs ca ccd cl outer A₀ base h₀ L m s Q E B F X N T hk' hdp hu hret
  refine wpAny_call ?_
  k_dflt (refine' code_defC ?k1 ?k2 ?k3 ?k4 ?k5 ?kA ?kF ?kK ?k6 ?k7 ?k8 ?k9 ?kB ?kD ?_ ?c2 ?c3 ?c4; (case kA => exact rfl); (case kF => exact rfl); (case kK => first | assumption | exact rfl); (case k1 => k_asm); (case k2 => k_asm); (case k3 => k_asm); (case k4 => k_asm); (case k5 => k_asm); (case k6 => k_is); (case k7 => k_is); (case k8 => ktr_room); (case k9 => first | exact BindsTo.of_eq rfl | exact binds_K (by k_in) rfl (by k_is) rfl rfl rfl); (case kB => exact rfl); (case kD => decide +kernel); (case c2 => exact rfl); (case c3 => exact rfl); (case c4 => exact rfl); k_whole; intro g' L' h' tk' cells' FG' F' N' Y' B' X' T' l1; k_cells Y'; (try simp only [List.cons_append, List.nil_append] at N'); (try dsimp only); (try k_lift B'); (try k_fold))
  k_steps
  refine Halt.mk ?_
  have hRl := datall_len hR
  refine LCt.CompSrcT.ledger (by rfl) (by k_asm) (by k_asm) (List.mem_cons_of_mem _ (List.mem_cons_of_mem _ (List.mem_cons_of_mem _ hH))) (by rw [List.size_toArray, sizeLine_eq]; omega) ?_
  intro g9
  refine rest_ind (fun i ys led₁ => (∀ q ∈ _, q ∈ led₁) ∧ DatAll led₁ ys (((rows.take i).filter fun r => !isRow r wd o x y).map rowDat)) ?_ ?_ _ 0 [] _ (Nat.zero_add _) ⟨fun q hq => hq, .nil⟩
  · intro i ys led₁ v I oI C oC D m₂ h tk E' G hi hinv hG0 hG1 hv hC hx F5 N5 off ne
    obtain ⟨dr, hdr, hdv⟩ := datall_get hR (i := i) (by simpa using hv)
    rw [List.getElem?_map] at hdr
    obtain ⟨r, hri, rfl⟩ := Option.map_eq_some_iff.mp hdr
    obtain ⟨ra, rk, t1, t2, t3, t4, rv, n1, n2, rfl, hra, hrk, hrv⟩ := row_open hdv
    have up : ∀ q ∈ news, q ∈ led₁ := fun q hq => hinv.1 q (List.mem_cons_of_mem _ (List.mem_cons_of_mem _ (List.mem_cons_of_mem _ hq)))
    obtain ⟨ok1, ok2, ok3⟩ := hok r (List.mem_of_getElem? hri)
    have hra1 := up _ hra
    have hrk1 := up _ hrk
    have hk1 := up _ hk
    have hc1 := hinv.1 _ (List.mem_cons_self ..)
    have hc2 := hinv.1 _ (List.mem_cons_of_mem _ (List.mem_cons_self ..))
    have hc3 := hinv.1 _ (List.mem_cons_of_mem _ (List.mem_cons_of_mem _ (List.mem_cons_self ..)))
    k_steps
    · rename_i ht
      refine CompEnd.intro (by assumption) (by assumption) led₁ (fun p hp => List.mem_cons_of_mem _ (List.mem_cons_of_mem _ hp)) off (.inr ⟨_, up _ hH, rfl, _, rfl⟩) (hG0 led₁ ⟨hinv.1, ?_⟩)
      rw [filt_skip hri (by have ht' : isRow r wd o x y = true := ht; simp [ht'])]
      exact hinv.2
    · rename_i ht
      refine CompEnd.intro (by assumption) (by assumption) led₁ (fun p hp => List.mem_cons_of_mem _ (List.mem_cons_of_mem _ hp)) off (.inr ⟨_, up _ hH, rfl, _, rfl⟩) (hG1 _ led₁ ⟨hinv.1, ?_⟩)
      rw [filt_take hri (by have ht' : isRow r wd o x y = false := ht; simp [ht']), List.map_append]
      exact datall_snoc hinv.2 (dat_mono up hdv)
  · intro ys led₂ hinv2
    have hlen : vs.toArray.size = rows.length := by rw [List.size_toArray, hRl, List.length_map]
    rw [hlen, List.take_length] at hinv2
    clear N'
    obtain ⟨hup, hinv3⟩ := hinv2
    have up : ∀ q ∈ news, q ∈ led₂ := fun q hq => hup q (List.mem_cons_of_mem _ (List.mem_cons_of_mem _ (List.mem_cons_of_mem _ hq)))
    have hc1 := hup _ (List.mem_cons_self ..)
    have hc2 := hup _ (List.mem_cons_of_mem _ (List.mem_cons_self ..))
    have hc3 := hup _ (List.mem_cons_of_mem _ (List.mem_cons_of_mem _ (List.mem_cons_self ..)))
    rcases hdv with ⟨rfl, rfl⟩ | ⟨b, rfl, rfl⟩ | ⟨i, t, rfl, rfl⟩
    · k_steps
      exact hret _ _ _ (_ :: led₂) ⟨_, ys, ys.length, rfl, List.mem_cons_self .., fun q hq => List.mem_cons_of_mem _ (up q hq), by unfold putRows; rw [List.append_nil]; exact hinv3.mono (fun q hq => List.mem_cons_of_mem _ hq)⟩ (by assumption) (by assumption)
    all_goals
      k_steps
      refine Halt.mk ?_
      rename News _ _ _ _ => N9
      refine add_lists (by assumption) N9 (News.isList N9 (List.mem_cons_of_mem _ (List.mem_cons_of_mem _ (List.mem_cons_self ..)))) (News.isList N9 (List.mem_cons_self ..)) ?_ (by rw [sizeLine_eq]; have := datall_len hinv3; rw [List.length_map] at this; have h9 := List.length_filter_le (fun r => !isRow r wd o x y) rows; rw [List.length_map] at hRl; simp only [List.length_cons, List.length_nil]; omega)
      intro h9 F9 N9'
      k_steps
      have up4 : ∀ (a b c e : Addr × Obj), ∀ q ∈ led₂, q ∈ a :: b :: c :: e :: led₂ := fun a b c e q hq => by simp [hq]
      refine hret _ _ _ (_ :: _ :: _ :: _ :: led₂) ⟨_, ys ++ [_], 0, rfl, List.mem_cons_self .., fun q hq => up4 _ _ _ _ q (up q hq), ?_⟩ (by assumption) (by assumption)
      show DatAll _ _ (List.map rowDat (_ ++ [_]))
      rw [List.map_append]
      refine datall_snoc (hinv3.mono (up4 _ _ _ _)) (.tuple (List.mem_cons_of_mem _ (List.mem_cons_of_mem _ (List.mem_cons_self ..))) (.cons (.str _ _) (.cons (.int _ _) (.cons (.tuple (up4 _ _ _ _ _ (up _ hk)) (.cons (.str _ _) (.cons (.str _ _) .nil))) (.cons ?_ .nil)))))
      first | exact .bool _ | exact .int _ _
open PySem PySem.W PyProof.Rows
set_option maxRecDepth 100000
set_option maxHeartbeats 4000000
open LCg LCt
local macro_rules | `(tactic| walk_at "compareOp Eq ref ref") => `(tactic| (k_here; (with_reducible show wpAny _ _ (compareOp CmpOp.Eq (Value.ref _) (Value.ref _)) (fun v s' => LeaveK _ _ _ _ _ _ _) _ _); refine Halt.out ?_))
def datTrue : Dat → Bool
  | .bool b => b
  | _ => false
def lets (o : Int) (x y : Str) (al : Bool) (r : Row) : Bool := !isRow r (Str.ofString "slot") o x y && (keyIs r x y && (al || datTrue r.val))
theorem eq_empty {prog : Program} {w : World} {A : Around} {E : Value → Shared → Prop} {s : Shared} {h₀ : Heap} {L : Addr} {led : Led} {D l : Addr} {ys : List Value} {Q : Value → Shared → Prop} (N : News h₀ L s.heap led) (hD : (D, lst ys) ∈ led) (hl : (l, PySem.W.listOf #[] 0) ∈ led) (hu : A.units < cLine) (h : Q (.bool ys.isEmpty) s) :
    wpAny (model prog w) A (compareOp .Eq (.ref D) (.ref l)) Q E s := by
  cases ys with
  | nil => exact P.eq_list (items := #[]) (items2 := #[]) (n := 0) (n2 := 0) (e := fun _ => true) (N _ hD).1 (N _ hl).1 rfl (fun j h1 _ => absurd h1 (by simp)) hu h
  | cons y r => exact P.eq_list_lengths (items := (y :: r).toArray) (items2 := #[]) (n := (y :: r).length) (n2 := 0) (N _ hD).1 (N _ hl).1 (by simp) hu h
theorem datall_empty {led : Led} {vs : List Value} {ds : List Dat} (h : DatAll led vs ds) : vs.isEmpty = ds.isEmpty := by cases h <;> rfl
theorem is_let_spec (w : World) (news : Led) (H : Addr) (vs : List Value) (c : Nat) (rows : List Row) (hH : (H, PySem.W.listOf vs.toArray c) ∈ news) (hR : DatAll news vs (rows.map rowDat)) (hsz : vs.length ≤ 1000)
    (o : Int) (to : Tok) (ka : Addr) (x y : Str) (tx ty : Tok) (kn : Nat) (hk : (ka, ({ cls := .type "tuple", data := .seq #[.str x tx, .str y ty] kn } : Obj)) ∈ news) (al : Bool) (hok : ∀ r ∈ rows, RowOk r) (okx : PyData.strOk x = true) (oky : PyData.strOk y = true)
    (hbool : ∀ r ∈ rows, keyIs r x y = true → ∃ b, r.val = .bool b) :
    Spec 10 w 221 [.ref H, .int o to, .ref ka, .bool al] news (fun v news' => (∀ q ∈ news, q ∈ news') ∧ v = .bool ((rows.filter (lets o x y al)).isEmpty)) := by
  unfold Spec
  k_fill
  intro mean mg mb dp un gd cn cs ca ccd cl outer A₀ base h₀ L m s Q E B F X N T hk' hdp hu hret
  refine wpAny_call ?_
  k_dflt (refine' code_defC ?k1 ?k2 ?k3 ?k4 ?k5 ?kA ?kF ?kK ?k6 ?k7 ?k8 ?k9 ?kB ?kD ?_ ?c2 ?c3 ?c4; (case kA => exact rfl); (case kF => exact rfl); (case kK => first | assumption | exact rfl); (case k1 => k_asm); (case k2 => k_asm); (case k3 => k_asm); (case k4 => k_asm); (case k5 => k_asm); (case k6 => k_is); (case k7 => k_is); (case k8 => ktr_room); (case k9 => first | exact BindsTo.of_eq rfl | exact binds_K (by k_in) rfl (by k_is) rfl rfl rfl); (case kB => exact rfl); (case kD => decide +kernel); (case c2 => exact rfl); (case c3 => exact rfl); (case c4 => exact rfl); k_whole; intro g' L' h' tk' cells' FG' F' N' Y' B' X' T' l1; k_cells Y'; (try simp only [List.cons_append, List.nil_append] at N'); (try dsimp only); (try k_lift B'); (try k_fold))
  k_steps
  refine Halt.mk ?_
  have hRl := datall_len hR
  refine LCt.CompSrcT.ledger (by rfl) (by k_asm) (by k_asm) (List.mem_cons_of_mem _ (List.mem_cons_of_mem _ (List.mem_cons_of_mem _ hH))) (by rw [List.size_toArray, sizeLine_eq]; omega) ?_
  intro g9
  refine rest_ind (fun i ys led₁ => (∀ q ∈ _, q ∈ led₁) ∧ DatAll led₁ ys (((rows.take i).filter (lets o x y al)).map rowDat)) ?_ ?_ _ 0 [] _ (Nat.zero_add _) ⟨fun q hq => hq, .nil⟩
  · intro i ys led₁ v I oI C oC D m₂ h tk E' G hi hinv hG0 hG1 hv hC hx F5 N5 off ne
    obtain ⟨dr, hdr, hdv⟩ := datall_get hR (i := i) (by simpa using hv)
    rw [List.getElem?_map] at hdr
    obtain ⟨r, hri, rfl⟩ := Option.map_eq_some_iff.mp hdr
    obtain ⟨ra, rk, t1, t2, t3, t4, rv, n1, n2, rfl, hra, hrk, hrv⟩ := row_open hdv
    have up : ∀ q ∈ news, q ∈ led₁ := fun q hq => hinv.1 q (List.mem_cons_of_mem _ (List.mem_cons_of_mem _ (List.mem_cons_of_mem _ hq)))
    obtain ⟨ok1, ok2, ok3⟩ := hok r (List.mem_of_getElem? hri)
    have hra1 := up _ hra
    have hrk1 := up _ hrk
    have hk1 := up _ hk
    have hc1 := hinv.1 _ (List.mem_cons_self ..)
    have hc2 := hinv.1 _ (List.mem_cons_of_mem _ (List.mem_cons_self ..))
    have hc3 := hinv.1 _ (List.mem_cons_of_mem _ (List.mem_cons_of_mem _ (List.mem_cons_self ..)))
    k_steps
    · rename_i ht
      refine CompEnd.intro (by assumption) (by assumption) led₁ (fun p hp => by repeat (first | exact hp | exact List.mem_append_right _ hp | refine List.mem_cons_of_mem _ ?_)) off (.inr ⟨_, up _ hH, rfl, _, rfl⟩) (hG0 led₁ ⟨hinv.1, ?_⟩)
      rw [filt_skip hri (by have ht' : isRow r (Str.ofString "slot") o x y = true := ht; simp [lets, ht'])]
      exact hinv.2
    · rename_i ht hkx hal
      refine CompEnd.intro (by assumption) (by assumption) led₁ (fun p hp => by repeat (first | exact hp | exact List.mem_append_right _ hp | refine List.mem_cons_of_mem _ ?_)) off (.inr ⟨_, up _ hH, rfl, _, rfl⟩) (hG1 _ led₁ ⟨hinv.1, ?_⟩)
      rw [filt_take hri (by have ht' : isRow r (Str.ofString "slot") o x y = false := ht; have hk' : keyIs r x y = true := hkx; simp [lets, ht', hk', hal]), List.map_append]
      exact datall_snoc hinv.2 (dat_mono up hdv)
    · rename_i ht hkx hal
      obtain ⟨b, hbv⟩ := hbool r (List.mem_of_getElem? hri) hkx
      have hrv' := hrv
      rw [hbv] at hrv'
      cases hrv'
      cases b with
      | true =>
        k_steps
        refine CompEnd.intro (by assumption) (by assumption) led₁ (fun p hp => by repeat (first | exact hp | exact List.mem_append_right _ hp | refine List.mem_cons_of_mem _ ?_)) off (.inr ⟨_, up _ hH, rfl, _, rfl⟩) (hG1 _ led₁ ⟨hinv.1, ?_⟩)
        rw [filt_take hri (by have ht' : isRow r (Str.ofString "slot") o x y = false := ht; have hk' : keyIs r x y = true := hkx; simp [lets, ht', hk', hbv, datTrue]), List.map_append]
        exact datall_snoc hinv.2 (dat_mono up hdv)
      | false =>
        k_steps
        refine CompEnd.intro (by assumption) (by assumption) led₁ (fun p hp => by repeat (first | exact hp | exact List.mem_append_right _ hp | refine List.mem_cons_of_mem _ ?_)) off (.inr ⟨_, up _ hH, rfl, _, rfl⟩) (hG0 led₁ ⟨hinv.1, ?_⟩)
        rw [filt_skip hri (by have ht' : isRow r (Str.ofString "slot") o x y = false := ht; have hk' : keyIs r x y = true := hkx; simp [lets, ht', hk', hal, hbv, datTrue])]
        exact hinv.2
    · rename_i ht hkx
      refine CompEnd.intro (by assumption) (by assumption) led₁ (fun p hp => by repeat (first | exact hp | exact List.mem_append_right _ hp | refine List.mem_cons_of_mem _ ?_)) off (.inr ⟨_, up _ hH, rfl, _, rfl⟩) (hG0 led₁ ⟨hinv.1, ?_⟩)
      rw [filt_skip hri (by have hk' : keyIs r x y = false := hkx; simp [lets, hk'])]
      exact hinv.2
  · intro ys led₂ hinv2
    have hlen : vs.toArray.size = rows.length := by rw [List.size_toArray, hRl, List.length_map]
    rw [hlen, List.take_length] at hinv2
    clear N'
    obtain ⟨hup, hinv3⟩ := hinv2
    have up : ∀ q ∈ news, q ∈ led₂ := fun q hq => hup q (List.mem_cons_of_mem _ (List.mem_cons_of_mem _ (List.mem_cons_of_mem _ hq)))
    k_steps
    refine Halt.mk ?_
    rename News _ _ _ _ => N9
    refine eq_empty N9 (List.mem_cons_of_mem _ (List.mem_cons_self ..)) (List.mem_cons_self ..) (by ktr_units) ?_
    k_steps
    rw [datall_empty hinv3, List.isEmpty_map]
    exact hret _ _ _ (_ :: _ :: led₂) ⟨fun q hq => List.mem_cons_of_mem _ (List.mem_cons_of_mem _ (up q hq)), rfl⟩ (by assumption) (by assumption)
end
end Mine

namespace Mine
section
open PySem PySem.W PyProof.Rows
set_option maxRecDepth 100000
set_option maxHeartbeats 4000000
section
variable {prog : Program} {w : World} {A : Around} {E : Value → Shared → Prop} {s : Shared} {h₀ : Heap} {env : Env} {target : Expr} {body : List Stmt} {Q : Flow → Shared → Prop} {m₀ : Str → Option Value} {led : Led}
def TupE (h₀ : Heap) (L : Addr) (own led₁ : Led) (J' : (Str → Option Value) → Led → Prop) (s : Shared) (f : Flow) (s₂ : Shared) : Prop :=
  f = .next ∧ ∃ h' tk' m' led', s₂ = { s with heap := h', toks := tk' } ∧ Fr h₀ L h' m' ∧ News h₀ L h' (own ++ led') ∧ (∀ a, (∃ o, (a, o) ∈ led') → ∃ o, (a, o) ∈ led₁) ∧ J' m' led'
theorem TupE.mk {h₀ h' : Heap} {L : Addr} {m' : Str → Option Value} {own led₁ led' : Led} {J' : (Str → Option Value) → Led → Prop} {s : Shared} {tk' : Nat} (F : Fr h₀ L h' m') (N : News h₀ L h' (own ++ led')) (ha : ∀ a, (∃ o, (a, o) ∈ led') → ∃ o, (a, o) ∈ led₁) (hJ : J' m' led') :
    TupE h₀ L own led₁ J' s .next { s with heap := h', toks := tk' } := ⟨rfl, h', tk', m', led', rfl, F, N, ha, hJ⟩
/-- over a made tuple -/
theorem loop_tup {ax : Addr} {vs : List Value} {n : Nat} {led0 : Led} (J : Nat → (Str → Option Value) → Led → Prop) (hh : A.handled = none) (F : Fr h₀ env.locals s.heap m₀) (N : News h₀ env.locals s.heap led) (hm : (ax, ({ cls := .type "tuple", data := .seq vs.toArray n } : Obj)) ∈ led) (hsub : ∀ q ∈ led0, q ∈ led) (h0 : J 0 m₀ led0)
    (turn : ∀ i v m₁ h tk own led₁, vs[i]? = some v → J i m₁ led₁ → (∀ q ∈ own, q.1 = ax ∨ ∀ r ∈ led₁, r.1 ≠ q.1) → Fr h₀ env.locals h m₁ → News h₀ env.locals h (own ++ led₁) →
      wpAny (model prog w) A (assign target env v) (fun _ s₃ => wpAny (model prog w) A (execs body env) (TupE h₀ env.locals own led₁ (J (i + 1)) s) E s₃) E { s with heap := h, toks := tk })
    (done : ∀ m₁ h tk led', J vs.length m₁ led' → Fr h₀ env.locals h m₁ → News h₀ env.locals h led' → Q .next { s with heap := h, toks := tk }) :
    wpAny (model prog w) A (pyIter (.ref ax)) (fun it s₂ => TurnsAt prog w A h₀ env target body Q E it s₂) E s := by
  have hax := N _ hm
  have hl : s.heap.IsTuple ax vs.toArray := ⟨_, hax.1, rfl, n, rfl⟩
  have hne : ax ≠ s.heap.objs.size := Nat.ne_of_lt (Heap.lt_size hax.1)
  refine wpAny_pyIter_tuple hl ?_
  have W := KTurns.ofWalks (target := target) (Walks.tuple (prog := prog) (w := w) (A := A) hh s.heap.objs.size ax hne vs.toArray) fun i v s Q E st q => letGo_tupleiter st.1 q
  have up : ∀ b o, s.heap.get? b = some o → (s.heap.push { cls := .type "tuple_iterator", data := .fields #[.ref ax, .int 0 0] }).get? b = some o := fun b o e => Heap.get?_push_of_some _ e
  refine ⟨_, _, _, vs.toArray.size, _, _, _, m₀, led0, J, rfl, W, ?_, ?_, ?_, ⟨⟨_, Heap.get?_push_size _ rfl, rfl, rfl⟩, hl.at fun o e => up _ _ e⟩, F.push _, (fun p hp => ⟨up _ _ (N p (hsub p hp)).1, (N p (hsub p hp)).2⟩), h0, ?_, ?_⟩
  · intro hI
    rcases List.mem_cons.mp hI with e | hI
    · exact absurd F.ns.lt (e ▸ Nat.lt_irrefl _)
    · exact hax.2.1 (List.mem_singleton.mp hI).symm
  · intro b hb
    rw [List.mem_singleton.mp hb]
    exact next_is_new F
  · intro q hq hI
    exact absurd (Heap.lt_size (N q (hsub q hq)).1) ((List.mem_singleton.mp hI) ▸ Nat.lt_irrefl _)
  · intro i v m₁ news₁ h₁ tk₁ own hin hv hJ hoff hfp _ _ _ F₁ N₁
    refine wpAny_mono (turn i v m₁ h₁ tk₁ own news₁ (by simpa using hv) hJ (fun q hq => ?_) F₁ N₁) (fun _ s₃ q => wpAny_mono q (fun f s₂ q => ?_) fun _ _ e => e) fun _ _ e => e
    · rcases List.mem_cons.mp (hfp q hq) with e | e
      · right
        intro r hr hrq
        exact hoff r hr (by rw [hrq, e]; simp)
      · left
        exact List.mem_singleton.mp e
    · obtain ⟨rfl, h', tk, m', led', e, F', N', ha, hG⟩ := q
      exact .next ⟨rfl, h', tk, m', led', e, F', N', fun q hq => (by
        obtain ⟨o, ho⟩ := ha q.1 ⟨q.2, hq⟩
        exact hoff (q.1, o) ho), hG⟩
  · intro h' tk m' news' F' N' _ hJ
    exact done m' h' tk news' (by simpa using hJ) F' N'
end
end
end Mine

namespace Mine
section
local macro_rules | `(tactic| walk_at "unused 0") => `(tactic| fail)
open PySem PySem.W PyProof.Rows
set_option maxRecDepth 100000
set_option maxHeartbeats 4000000
section
variable {prog : Program} {w : World} {A : Around} {E : Value → Shared → Prop} {s : Shared} {h₀ : Heap} {L : Addr} {m : Str → Option Value} {led : Led}
theorem zip_short {vs : List Value} (h : vs.length < 2) : (vs.toArray.zip vs.toArray).map (·.2) = vs.toArray := by
  rcases vs with _ | ⟨x, _ | ⟨y, r⟩⟩
  · simp
  · simp
  · simp only [List.length_cons] at h
    omega
theorem list_sort_short {a : Addr} {vs : List Value} {n : Nat} {P : PySem.Fin → Shared → Prop} (h2' : vs.length < 2) (ho : s.heap.get? a = some (seqObj "list" vs.toArray n))
    (h : P (.done (.ret .none)) { s with heap := sortedHeap s.heap a vs vs.toArray }) :
    wpAny (model prog w) A (Builtin.«list.sort» ⟨[.ref a], []⟩) P E s := by
  rw [list_sort_plain]
  have ha : a < s.heap.objs.size := Heap.lt_size ho
  refine wpAny_bind (listItems_at ho rfl ?_)
  refine wpAny_bind (listUpdate_at ho rfl ?_)
  obtain ⟨e1, ho1⟩ : ∃ e1, (s.heap.update a (Obj.mapSeq fun _ => #[])).get? a = some (seqObj "list" #[] e1) := ⟨_, get?_update_seq ho (fun _ => #[])⟩
  refine wpAny_bind (seqEpoch_at ho1 rfl ?_)
  have hz9 : vs.toArray.toList.length ≤ sizeLine := by
    rw [sizeLine_eq]
    have : vs.toArray.toList.length = vs.length := by simp
    omega
  refine wpAny_bind (wpAny_newTuple ?_ (hsz := hz9))
  refine wpAny_bind (wpAny_newList ?_)
  refine wpAny_holding ?_
  have ho6 : (((s.heap.update a (Obj.mapSeq fun _ => #[])).push (seqObj "tuple" vs.toArray 0)).push (seqObj "list" #[] 0)).get? a = some (seqObj "list" #[] e1) := by
    rw [Heap.get?_push_ne _ _ _ (by rw [size_push', Heap.size_update]; exact Nat.ne_of_lt (Nat.lt_succ_of_lt ha)), Heap.get?_push_ne _ _ _ (by rw [Heap.size_update]; exact Nat.ne_of_lt ha)]
    exact ho1
  show wpAny (model prog w) A _ P E { s with heap := ((s.heap.update a (Obj.mapSeq fun _ => #[])).push (seqObj "tuple" vs.toArray 0)).push (seqObj "list" #[] 0) }
  dsimp only
  have h2 : vs.toArray.size < 2 := by simpa using h2'
  rw [if_pos h2, if_pos h2]
  refine wpAny_bind (wpAny_pure ?_)
  rw [StateT.run_pure]
  refine wpAny_bind (wpAny_pure ?_)
  dsimp only
  refine wpAny_bind (seqEpoch_at ho6 rfl ?_)
  refine wpAny_bind (listUpdate_at ho6 rfl ?_ (hsz2 := by rw [Array.size_map]; show (pairsOf vs).size ≤ _; rw [pairsOf_size, sizeLine_eq]; omega))
  simp only [bne_self_eq_false, Bool.false_eq_true, if_false]
  have e : ((arrOf (SortSt.mk' general' (vs.toArray.zip vs.toArray) #[] 7 none)).map (·.2)) = vs.toArray := by
    show (vs.toArray.zip vs.toArray).map (·.2) = vs.toArray
    exact zip_short h2'
  refine wpAny_pure ?_
  rw [← e] at h
  exact h
theorem lsort_short {B : Addr} {vs : List Value} {n : Nat} {Q : Value → Shared → Prop} (h2 : vs.length < 2) (F : Fr h₀ L s.heap m) (N : News h₀ L s.heap ((B, PySem.W.listOf vs.toArray n) :: led)) (hne : ∀ q ∈ led, q.1 ≠ B)
    (h : ∀ e h', Fr h₀ L h' m → News h₀ L h' ((B, PySem.W.listOf vs.toArray e) :: led) → Q .none { s with heap := h' }) :
    wpAny (model prog w) A (call (.builtin "list.sort") [.ref B]) Q E s := by
  have hB := N _ (List.mem_cons_self ..)
  have ho : s.heap.get? B = some (seqObj "list" vs.toArray n) := hB.1
  refine wpAny_call_entry slot_list_sort ⟨_, ho, rfl⟩ entry_list_sort (list_sort_short h2 ho ⟨_, rfl, ?_⟩) (args_list_sort _)
  obtain ⟨e, hat⟩ := sortedHeap_at (out := vs.toArray) ho
  have up : ∀ b o, b ≠ B → s.heap.get? b = some o → (sortedHeap s.heap B vs vs.toArray).get? b = some o := fun b o hb q => (sortedHeap_old hb (Heap.lt_size q)).trans q
  obtain ⟨⟨oL, es, ep, hL, r⟩, hk, hab⟩ := id F
  refine h e _ ⟨⟨oL, es, ep, up _ _ (fun q => hB.2.1 q.symm) hL, r⟩, fun b o q => up b o (fun z => by have := hB.2.2; dsimp only at this; rw [← z, q] at this; cases this) (hk b o q), hab⟩ (fun p hp => ?_)
  rcases List.mem_cons.mp hp with rfl | hp
  · exact ⟨hat, hB.2⟩
  · have := N p (List.mem_cons_of_mem _ hp)
    exact ⟨up _ _ (hne p hp) this.1, this.2⟩
theorem sorted_short {l : Addr} {vs : List Value} {Q : Value → Shared → Prop} (h2 : vs.length < 2) (F : Fr h₀ L s.heap m) (N : News h₀ L s.heap led) (hl : s.heap.IsList l vs.toArray)
    (h : ∀ D e h', Fr h₀ L h' m → News h₀ L h' ((D, PySem.W.listOf vs.toArray e) :: led) → (∀ q ∈ led, q.1 < D) → Q (.ref D) { s with heap := h' }) :
    wpAny (model prog w) A (call (.builtin "sorted") [.ref l]) Q E s := by
  refine Calls.call_function_entry kind_sorted plain_sorted entry_sorted (args_sorted1 _) ?_
  unfold Builtin.«sorted»
  refine wpAny_bind (m := checkCount "sorted" 1 1 _) (wpAny_pure ?_)
  refine wpAny_bind (collect_list hl ?_ (by rw [sizeLine_eq]; omega))
  refine wpAny_bind (wpAny_newList ?_ (by rw [sizeLine_eq]; omega))
  have hsz : ((s.heap.push (seqObj "list" #[] 0)).update s.heap.objs.size (Obj.mapSeq (· ++ vs.toArray))).objs.size = s.heap.objs.size + 1 := by
    rw [Heap.size_update, size_push']
  have hoL : (((s.heap.push (seqObj "list" #[] 0)).update s.heap.objs.size (Obj.mapSeq (· ++ vs.toArray))).push (seqObj "list" vs.toArray 0)).get? (s.heap.objs.size + 1) = some (seqObj "list" vs.toArray 0) := by
    rw [← hsz]; exact Heap.get?_push_size _ rfl
  show wpAny _ _ _ _ _ { s with heap := ((s.heap.push (seqObj "list" #[] 0)).update s.heap.objs.size (Obj.mapSeq (· ++ vs.toArray))).push (seqObj "list" vs.toArray 0) }
  rw [hsz]
  refine wpAny_bind (wpAny_holding (wpAny_call_entry slot_list_sort ⟨_, hoL, rfl⟩ entry_list_sort (list_sort_short h2 hoL ⟨_, rfl, ?_⟩) (args_list_sort _)))
  obtain ⟨e, hat⟩ := sortedAll_at s.heap vs vs.toArray
  have up : ∀ b o, s.heap.get? b = some o → (sortedAll s.heap vs vs.toArray).get? b = some o := fun b o q => sortedAll_old q
  refine wpAny_pure ⟨_, rfl, h (s.heap.objs.size + 1) e (sortedAll s.heap vs vs.toArray) (F.keeps up) (fun p hp => ?_) (fun p hp => Nat.lt_succ_of_lt (Heap.lt_size (N p hp).1))⟩
  rcases List.mem_cons.mp hp with rfl | hp
  · refine ⟨hat, Nat.ne_of_gt (Nat.lt_succ_of_lt F.ns.lt), ?_⟩
    cases q : h₀.get? (s.heap.objs.size + 1) with
    | none => rfl
    | some o => exact absurd (Heap.lt_size (F.keep _ _ q)) (Nat.not_lt.mpr (Nat.le_succ _))
  · exact ⟨up _ _ (N p hp).1, (N p hp).2⟩
end
end
end Mine

namespace Mine
section
open PySem PySem.W PyProof.Rows
set_option maxRecDepth 100000
set_option maxHeartbeats 4000000
def pairDat (q : Int × Int) : Dat := .tuple [.int q.1, .int q.2]
local macro_rules | `(tactic| k_mem) => `(tactic| first | ktr_member | exact List.mem_cons_self .. | (refine' List.mem_cons_of_mem _ ?_; k_mem))
local macro_rules | `(tactic| k_all) => `(tactic| assumption)
theorem srt_12 {w : World} {A : Around} {Q : Value → Shared → Prop} {E : Value → Shared → Prop} {s : Shared} {h₀ : Heap} {L : Addr} {m : Str → Option Value} {led : Led} {l : Addr} {c : Nat} {a1 : Addr} {t1 u1 : Tok} {m1 : Int} {n1 : Nat} {a2 : Addr} {t2 u2 : Tok} {m2 : Int} {n2 : Nat} (X : (hd.heap_1 w.params).In h₀) (F : Fr h₀ L s.heap m) (N0 : News h₀ L s.heap led) (hl : (l, PySem.W.listOf #[.ref a1, .ref a2] c) ∈ led) (h1 : (a1, ({ cls := .type "tuple", data := .seq #[.int 1 t1, .int m1 u1] n1 } : Obj)) ∈ led) (h2 : (a2, ({ cls := .type "tuple", data := .seq #[.int 2 t2, .int m2 u2] n2 } : Obj)) ∈ led)
   (h : ∀ D c' h' tk', Fr h₀ L h' m → News h₀ L h' ((D, PySem.W.listOf #[.ref a1, .ref a2] c') :: led) → (∀ q ∈ led, q.1 < D) → Q (.ref D) { s with heap := h', toks := tk' }) :
    wpAny (model PySem.Challenge.rw_xm0751_01.row.prog w) A (call (.builtin "sorted") [.ref l]) Q E s := by
  revert X
  k_fill
  intro X
  have N := news_sub (news := (l, PySem.W.listOf #[.ref a1, .ref a2] c) :: (a1, ({ cls := .type "tuple", data := .seq #[.int 1 t1, .int m1 u1] n1 } : Obj)) :: (a2, ({ cls := .type "tuple", data := .seq #[.int 2 t2, .int m2 u2] n2 } : Obj)) :: led) N0 (List.forall_mem_cons.mpr ⟨hl, List.forall_mem_cons.mpr ⟨h1, List.forall_mem_cons.mpr ⟨h2, fun q hq => hq⟩⟩⟩)
  with_unfolding_all refine' kat_sorted ?k1 ?k2 ?k3 ?k4 ?k5 ?_
  case k1 => k_asm
  case k2 => k_asm
  case k3 => kso_list
  case k4 => exact Nat.le_of_ble_eq_true rfl
  case k5 => exact Nat.le_of_ble_eq_true rfl
  intro D' e' h' F' N' l1
  have l2 : ∀ q ∈ led, @LT.lt Nat _ q.1 D' := fun q hq => l1 q (List.mem_cons_of_mem _ (List.mem_cons_of_mem _ (List.mem_cons_of_mem _ (hq))))
  k_lt l1
  clear N N0
  kat_kinds
  k_steps
  exact h D' _ _ _ (by assumption) (news_sub (by assumption) (List.forall_mem_cons.mpr ⟨List.mem_cons_self .., fun q hq => List.mem_cons_of_mem _ (List.mem_cons_of_mem _ (List.mem_cons_of_mem _ (List.mem_cons_of_mem _ (hq))))⟩)) l2
theorem lsr_12 {w : World} {A : Around} {Q : Value → Shared → Prop} {E : Value → Shared → Prop} {s : Shared} {h₀ : Heap} {L : Addr} {m : Str → Option Value} {led : Led} {B : Addr} {c : Nat} {a1 : Addr} {t1 u1 : Tok} {m1 : Int} {n1 : Nat} {a2 : Addr} {t2 u2 : Tok} {m2 : Int} {n2 : Nat} (X : (hd.heap_1 w.params).In h₀) (F : Fr h₀ L s.heap m) (N0 : News h₀ L s.heap ((B, PySem.W.listOf #[.ref a1, .ref a2] c) :: led)) (hne : ∀ q ∈ led, @LT.lt Nat _ q.1 B) (h1 : (a1, ({ cls := .type "tuple", data := .seq #[.int 1 t1, .int m1 u1] n1 } : Obj)) ∈ led) (h2 : (a2, ({ cls := .type "tuple", data := .seq #[.int 2 t2, .int m2 u2] n2 } : Obj)) ∈ led)
   (h : ∀ c' h' tk', Fr h₀ L h' m → News h₀ L h' ((B, PySem.W.listOf #[.ref a1, .ref a2] c') :: led) → Q .none { s with heap := h', toks := tk' }) :
    wpAny (model PySem.Challenge.rw_xm0751_01.row.prog w) A (call (.builtin "list.sort") [.ref B]) Q E s := by
  revert X
  k_fill
  intro X
  have off : ∀ p ∈ led, p.1 ≠ B := fun p hp e => absurd (hne p hp) (e ▸ Nat.lt_irrefl _)
  have hlt1 : @LT.lt Nat _ a1 B := hne _ h1
  have hlt2 : @LT.lt Nat _ a2 B := hne _ h2
  have N := news_sub (news := (B, PySem.W.listOf #[.ref a1, .ref a2] c) :: (a1, ({ cls := .type "tuple", data := .seq #[.int 1 t1, .int m1 u1] n1 } : Obj)) :: (a2, ({ cls := .type "tuple", data := .seq #[.int 2 t2, .int m2 u2] n2 } : Obj)) :: led) N0 (List.forall_mem_cons.mpr ⟨List.mem_cons_self .., List.forall_mem_cons.mpr ⟨List.mem_cons_of_mem _ h1, List.forall_mem_cons.mpr ⟨List.mem_cons_of_mem _ h2, fun q hq => List.mem_cons_of_mem _ hq⟩⟩⟩)
  with_unfolding_all refine' kat_lsort ?F ?N ?U ?e ?z ?y ?_
  case F => k_asm
  case N => k_asm
  case U => k_updF
  case e => kso_lit
  case z => exact Nat.le_of_ble_eq_true rfl
  case y => exact Nat.le_of_ble_eq_true rfl
  intro e' h' F' N'
  (try dsimp only at N')
  clear N N0
  kat_kinds
  k_steps
  exact h _ _ _ (by assumption) (news_sub (by assumption) (List.forall_mem_cons.mpr ⟨List.mem_cons_self .., fun q hq => List.mem_cons_of_mem _ (List.mem_cons_of_mem _ (List.mem_cons_of_mem _ (hq)))⟩))
theorem srt_13 {w : World} {A : Around} {Q : Value → Shared → Prop} {E : Value → Shared → Prop} {s : Shared} {h₀ : Heap} {L : Addr} {m : Str → Option Value} {led : Led} {l : Addr} {c : Nat} {a1 : Addr} {t1 u1 : Tok} {m1 : Int} {n1 : Nat} {a2 : Addr} {t2 u2 : Tok} {m2 : Int} {n2 : Nat} (X : (hd.heap_1 w.params).In h₀) (F : Fr h₀ L s.heap m) (N0 : News h₀ L s.heap led) (hl : (l, PySem.W.listOf #[.ref a1, .ref a2] c) ∈ led) (h1 : (a1, ({ cls := .type "tuple", data := .seq #[.int 1 t1, .int m1 u1] n1 } : Obj)) ∈ led) (h2 : (a2, ({ cls := .type "tuple", data := .seq #[.int 3 t2, .int m2 u2] n2 } : Obj)) ∈ led)
   (h : ∀ D c' h' tk', Fr h₀ L h' m → News h₀ L h' ((D, PySem.W.listOf #[.ref a1, .ref a2] c') :: led) → (∀ q ∈ led, q.1 < D) → Q (.ref D) { s with heap := h', toks := tk' }) :
    wpAny (model PySem.Challenge.rw_xm0751_01.row.prog w) A (call (.builtin "sorted") [.ref l]) Q E s := by
  revert X
  k_fill
  intro X
  have N := news_sub (news := (l, PySem.W.listOf #[.ref a1, .ref a2] c) :: (a1, ({ cls := .type "tuple", data := .seq #[.int 1 t1, .int m1 u1] n1 } : Obj)) :: (a2, ({ cls := .type "tuple", data := .seq #[.int 3 t2, .int m2 u2] n2 } : Obj)) :: led) N0 (List.forall_mem_cons.mpr ⟨hl, List.forall_mem_cons.mpr ⟨h1, List.forall_mem_cons.mpr ⟨h2, fun q hq => hq⟩⟩⟩)
  with_unfolding_all refine' kat_sorted ?k1 ?k2 ?k3 ?k4 ?k5 ?_
  case k1 => k_asm
  case k2 => k_asm
  case k3 => kso_list
  case k4 => exact Nat.le_of_ble_eq_true rfl
  case k5 => exact Nat.le_of_ble_eq_true rfl
  intro D' e' h' F' N' l1
  have l2 : ∀ q ∈ led, @LT.lt Nat _ q.1 D' := fun q hq => l1 q (List.mem_cons_of_mem _ (List.mem_cons_of_mem _ (List.mem_cons_of_mem _ (hq))))
  k_lt l1
  clear N N0
  kat_kinds
  k_steps
  exact h D' _ _ _ (by assumption) (news_sub (by assumption) (List.forall_mem_cons.mpr ⟨List.mem_cons_self .., fun q hq => List.mem_cons_of_mem _ (List.mem_cons_of_mem _ (List.mem_cons_of_mem _ (List.mem_cons_of_mem _ (hq))))⟩)) l2
theorem lsr_13 {w : World} {A : Around} {Q : Value → Shared → Prop} {E : Value → Shared → Prop} {s : Shared} {h₀ : Heap} {L : Addr} {m : Str → Option Value} {led : Led} {B : Addr} {c : Nat} {a1 : Addr} {t1 u1 : Tok} {m1 : Int} {n1 : Nat} {a2 : Addr} {t2 u2 : Tok} {m2 : Int} {n2 : Nat} (X : (hd.heap_1 w.params).In h₀) (F : Fr h₀ L s.heap m) (N0 : News h₀ L s.heap ((B, PySem.W.listOf #[.ref a1, .ref a2] c) :: led)) (hne : ∀ q ∈ led, @LT.lt Nat _ q.1 B) (h1 : (a1, ({ cls := .type "tuple", data := .seq #[.int 1 t1, .int m1 u1] n1 } : Obj)) ∈ led) (h2 : (a2, ({ cls := .type "tuple", data := .seq #[.int 3 t2, .int m2 u2] n2 } : Obj)) ∈ led)
   (h : ∀ c' h' tk', Fr h₀ L h' m → News h₀ L h' ((B, PySem.W.listOf #[.ref a1, .ref a2] c') :: led) → Q .none { s with heap := h', toks := tk' }) :
    wpAny (model PySem.Challenge.rw_xm0751_01.row.prog w) A (call (.builtin "list.sort") [.ref B]) Q E s := by
  revert X
  k_fill
  intro X
  have off : ∀ p ∈ led, p.1 ≠ B := fun p hp e => absurd (hne p hp) (e ▸ Nat.lt_irrefl _)
  have hlt1 : @LT.lt Nat _ a1 B := hne _ h1
  have hlt2 : @LT.lt Nat _ a2 B := hne _ h2
  have N := news_sub (news := (B, PySem.W.listOf #[.ref a1, .ref a2] c) :: (a1, ({ cls := .type "tuple", data := .seq #[.int 1 t1, .int m1 u1] n1 } : Obj)) :: (a2, ({ cls := .type "tuple", data := .seq #[.int 3 t2, .int m2 u2] n2 } : Obj)) :: led) N0 (List.forall_mem_cons.mpr ⟨List.mem_cons_self .., List.forall_mem_cons.mpr ⟨List.mem_cons_of_mem _ h1, List.forall_mem_cons.mpr ⟨List.mem_cons_of_mem _ h2, fun q hq => List.mem_cons_of_mem _ hq⟩⟩⟩)
  with_unfolding_all refine' kat_lsort ?F ?N ?U ?e ?z ?y ?_
  case F => k_asm
  case N => k_asm
  case U => k_updF
  case e => kso_lit
  case z => exact Nat.le_of_ble_eq_true rfl
  case y => exact Nat.le_of_ble_eq_true rfl
  intro e' h' F' N'
  (try dsimp only at N')
  clear N N0
  kat_kinds
  k_steps
  exact h _ _ _ (by assumption) (news_sub (by assumption) (List.forall_mem_cons.mpr ⟨List.mem_cons_self .., fun q hq => List.mem_cons_of_mem _ (List.mem_cons_of_mem _ (List.mem_cons_of_mem _ (hq)))⟩))
theorem srt_21 {w : World} {A : Around} {Q : Value → Shared → Prop} {E : Value → Shared → Prop} {s : Shared} {h₀ : Heap} {L : Addr} {m : Str → Option Value} {led : Led} {l : Addr} {c : Nat} {a1 : Addr} {t1 u1 : Tok} {m1 : Int} {n1 : Nat} {a2 : Addr} {t2 u2 : Tok} {m2 : Int} {n2 : Nat} (X : (hd.heap_1 w.params).In h₀) (F : Fr h₀ L s.heap m) (N0 : News h₀ L s.heap led) (hl : (l, PySem.W.listOf #[.ref a1, .ref a2] c) ∈ led) (h1 : (a1, ({ cls := .type "tuple", data := .seq #[.int 2 t1, .int m1 u1] n1 } : Obj)) ∈ led) (h2 : (a2, ({ cls := .type "tuple", data := .seq #[.int 1 t2, .int m2 u2] n2 } : Obj)) ∈ led)
   (h : ∀ D c' h' tk', Fr h₀ L h' m → News h₀ L h' ((D, PySem.W.listOf #[.ref a2, .ref a1] c') :: led) → (∀ q ∈ led, q.1 < D) → Q (.ref D) { s with heap := h', toks := tk' }) :
    wpAny (model PySem.Challenge.rw_xm0751_01.row.prog w) A (call (.builtin "sorted") [.ref l]) Q E s := by
  revert X
  k_fill
  intro X
  have N := news_sub (news := (l, PySem.W.listOf #[.ref a1, .ref a2] c) :: (a1, ({ cls := .type "tuple", data := .seq #[.int 2 t1, .int m1 u1] n1 } : Obj)) :: (a2, ({ cls := .type "tuple", data := .seq #[.int 1 t2, .int m2 u2] n2 } : Obj)) :: led) N0 (List.forall_mem_cons.mpr ⟨hl, List.forall_mem_cons.mpr ⟨h1, List.forall_mem_cons.mpr ⟨h2, fun q hq => hq⟩⟩⟩)
  with_unfolding_all refine' kat_sorted ?k1 ?k2 ?k3 ?k4 ?k5 ?_
  case k1 => k_asm
  case k2 => k_asm
  case k3 => kso_list
  case k4 => exact Nat.le_of_ble_eq_true rfl
  case k5 => exact Nat.le_of_ble_eq_true rfl
  intro D' e' h' F' N' l1
  have l2 : ∀ q ∈ led, @LT.lt Nat _ q.1 D' := fun q hq => l1 q (List.mem_cons_of_mem _ (List.mem_cons_of_mem _ (List.mem_cons_of_mem _ (hq))))
  k_lt l1
  clear N N0
  kat_kinds
  k_steps
  exact h D' _ _ _ (by assumption) (news_sub (by assumption) (List.forall_mem_cons.mpr ⟨List.mem_cons_self .., fun q hq => List.mem_cons_of_mem _ (List.mem_cons_of_mem _ (List.mem_cons_of_mem _ (List.mem_cons_of_mem _ (hq))))⟩)) l2
theorem lsr_21 {w : World} {A : Around} {Q : Value → Shared → Prop} {E : Value → Shared → Prop} {s : Shared} {h₀ : Heap} {L : Addr} {m : Str → Option Value} {led : Led} {B : Addr} {c : Nat} {a1 : Addr} {t1 u1 : Tok} {m1 : Int} {n1 : Nat} {a2 : Addr} {t2 u2 : Tok} {m2 : Int} {n2 : Nat} (X : (hd.heap_1 w.params).In h₀) (F : Fr h₀ L s.heap m) (N0 : News h₀ L s.heap ((B, PySem.W.listOf #[.ref a1, .ref a2] c) :: led)) (hne : ∀ q ∈ led, @LT.lt Nat _ q.1 B) (h1 : (a1, ({ cls := .type "tuple", data := .seq #[.int 2 t1, .int m1 u1] n1 } : Obj)) ∈ led) (h2 : (a2, ({ cls := .type "tuple", data := .seq #[.int 1 t2, .int m2 u2] n2 } : Obj)) ∈ led)
   (h : ∀ c' h' tk', Fr h₀ L h' m → News h₀ L h' ((B, PySem.W.listOf #[.ref a2, .ref a1] c') :: led) → Q .none { s with heap := h', toks := tk' }) :
    wpAny (model PySem.Challenge.rw_xm0751_01.row.prog w) A (call (.builtin "list.sort") [.ref B]) Q E s := by
  revert X
  k_fill
  intro X
  have off : ∀ p ∈ led, p.1 ≠ B := fun p hp e => absurd (hne p hp) (e ▸ Nat.lt_irrefl _)
  have hlt1 : @LT.lt Nat _ a1 B := hne _ h1
  have hlt2 : @LT.lt Nat _ a2 B := hne _ h2
  have N := news_sub (news := (B, PySem.W.listOf #[.ref a1, .ref a2] c) :: (a1, ({ cls := .type "tuple", data := .seq #[.int 2 t1, .int m1 u1] n1 } : Obj)) :: (a2, ({ cls := .type "tuple", data := .seq #[.int 1 t2, .int m2 u2] n2 } : Obj)) :: led) N0 (List.forall_mem_cons.mpr ⟨List.mem_cons_self .., List.forall_mem_cons.mpr ⟨List.mem_cons_of_mem _ h1, List.forall_mem_cons.mpr ⟨List.mem_cons_of_mem _ h2, fun q hq => List.mem_cons_of_mem _ hq⟩⟩⟩)
  with_unfolding_all refine' kat_lsort ?F ?N ?U ?e ?z ?y ?_
  case F => k_asm
  case N => k_asm
  case U => k_updF
  case e => kso_lit
  case z => exact Nat.le_of_ble_eq_true rfl
  case y => exact Nat.le_of_ble_eq_true rfl
  intro e' h' F' N'
  (try dsimp only at N')
  clear N N0
  kat_kinds
  k_steps
  exact h _ _ _ (by assumption) (news_sub (by assumption) (List.forall_mem_cons.mpr ⟨List.mem_cons_self .., fun q hq => List.mem_cons_of_mem _ (List.mem_cons_of_mem _ (List.mem_cons_of_mem _ (hq)))⟩))
theorem srt_23 {w : World} {A : Around} {Q : Value → Shared → Prop} {E : Value → Shared → Prop} {s : Shared} {h₀ : Heap} {L : Addr} {m : Str → Option Value} {led : Led} {l : Addr} {c : Nat} {a1 : Addr} {t1 u1 : Tok} {m1 : Int} {n1 : Nat} {a2 : Addr} {t2 u2 : Tok} {m2 : Int} {n2 : Nat} (X : (hd.heap_1 w.params).In h₀) (F : Fr h₀ L s.heap m) (N0 : News h₀ L s.heap led) (hl : (l, PySem.W.listOf #[.ref a1, .ref a2] c) ∈ led) (h1 : (a1, ({ cls := .type "tuple", data := .seq #[.int 2 t1, .int m1 u1] n1 } : Obj)) ∈ led) (h2 : (a2, ({ cls := .type "tuple", data := .seq #[.int 3 t2, .int m2 u2] n2 } : Obj)) ∈ led)
   (h : ∀ D c' h' tk', Fr h₀ L h' m → News h₀ L h' ((D, PySem.W.listOf #[.ref a1, .ref a2] c') :: led) → (∀ q ∈ led, q.1 < D) → Q (.ref D) { s with heap := h', toks := tk' }) :
    wpAny (model PySem.Challenge.rw_xm0751_01.row.prog w) A (call (.builtin "sorted") [.ref l]) Q E s := by
  revert X
  k_fill
  intro X
  have N := news_sub (news := (l, PySem.W.listOf #[.ref a1, .ref a2] c) :: (a1, ({ cls := .type "tuple", data := .seq #[.int 2 t1, .int m1 u1] n1 } : Obj)) :: (a2, ({ cls := .type "tuple", data := .seq #[.int 3 t2, .int m2 u2] n2 } : Obj)) :: led) N0 (List.forall_mem_cons.mpr ⟨hl, List.forall_mem_cons.mpr ⟨h1, List.forall_mem_cons.mpr ⟨h2, fun q hq => hq⟩⟩⟩)
  with_unfolding_all refine' kat_sorted ?k1 ?k2 ?k3 ?k4 ?k5 ?_
  case k1 => k_asm
  case k2 => k_asm
  case k3 => kso_list
  case k4 => exact Nat.le_of_ble_eq_true rfl
  case k5 => exact Nat.le_of_ble_eq_true rfl
  intro D' e' h' F' N' l1
  have l2 : ∀ q ∈ led, @LT.lt Nat _ q.1 D' := fun q hq => l1 q (List.mem_cons_of_mem _ (List.mem_cons_of_mem _ (List.mem_cons_of_mem _ (hq))))
  k_lt l1
  clear N N0
  kat_kinds
  k_steps
  exact h D' _ _ _ (by assumption) (news_sub (by assumption) (List.forall_mem_cons.mpr ⟨List.mem_cons_self .., fun q hq => List.mem_cons_of_mem _ (List.mem_cons_of_mem _ (List.mem_cons_of_mem _ (List.mem_cons_of_mem _ (hq))))⟩)) l2
theorem lsr_23 {w : World} {A : Around} {Q : Value → Shared → Prop} {E : Value → Shared → Prop} {s : Shared} {h₀ : Heap} {L : Addr} {m : Str → Option Value} {led : Led} {B : Addr} {c : Nat} {a1 : Addr} {t1 u1 : Tok} {m1 : Int} {n1 : Nat} {a2 : Addr} {t2 u2 : Tok} {m2 : Int} {n2 : Nat} (X : (hd.heap_1 w.params).In h₀) (F : Fr h₀ L s.heap m) (N0 : News h₀ L s.heap ((B, PySem.W.listOf #[.ref a1, .ref a2] c) :: led)) (hne : ∀ q ∈ led, @LT.lt Nat _ q.1 B) (h1 : (a1, ({ cls := .type "tuple", data := .seq #[.int 2 t1, .int m1 u1] n1 } : Obj)) ∈ led) (h2 : (a2, ({ cls := .type "tuple", data := .seq #[.int 3 t2, .int m2 u2] n2 } : Obj)) ∈ led)
   (h : ∀ c' h' tk', Fr h₀ L h' m → News h₀ L h' ((B, PySem.W.listOf #[.ref a1, .ref a2] c') :: led) → Q .none { s with heap := h', toks := tk' }) :
    wpAny (model PySem.Challenge.rw_xm0751_01.row.prog w) A (call (.builtin "list.sort") [.ref B]) Q E s := by
  revert X
  k_fill
  intro X
  have off : ∀ p ∈ led, p.1 ≠ B := fun p hp e => absurd (hne p hp) (e ▸ Nat.lt_irrefl _)
  have hlt1 : @LT.lt Nat _ a1 B := hne _ h1
  have hlt2 : @LT.lt Nat _ a2 B := hne _ h2
  have N := news_sub (news := (B, PySem.W.listOf #[.ref a1, .ref a2] c) :: (a1, ({ cls := .type "tuple", data := .seq #[.int 2 t1, .int m1 u1] n1 } : Obj)) :: (a2, ({ cls := .type "tuple", data := .seq #[.int 3 t2, .int m2 u2] n2 } : Obj)) :: led) N0 (List.forall_mem_cons.mpr ⟨List.mem_cons_self .., List.forall_mem_cons.mpr ⟨List.mem_cons_of_mem _ h1, List.forall_mem_cons.mpr ⟨List.mem_cons_of_mem _ h2, fun q hq => List.mem_cons_of_mem _ hq⟩⟩⟩)
  with_unfolding_all refine' kat_lsort ?F ?N ?U ?e ?z ?y ?_
  case F => k_asm
  case N => k_asm
  case U => k_updF
  case e => kso_lit
  case z => exact Nat.le_of_ble_eq_true rfl
  case y => exact Nat.le_of_ble_eq_true rfl
  intro e' h' F' N'
  (try dsimp only at N')
  clear N N0
  kat_kinds
  k_steps
  exact h _ _ _ (by assumption) (news_sub (by assumption) (List.forall_mem_cons.mpr ⟨List.mem_cons_self .., fun q hq => List.mem_cons_of_mem _ (List.mem_cons_of_mem _ (List.mem_cons_of_mem _ (hq)))⟩))
theorem srt_31 {w : World} {A : Around} {Q : Value → Shared → Prop} {E : Value → Shared → Prop} {s : Shared} {h₀ : Heap} {L : Addr} {m : Str → Option Value} {led : Led} {l : Addr} {c : Nat} {a1 : Addr} {t1 u1 : Tok} {m1 : Int} {n1 : Nat} {a2 : Addr} {t2 u2 : Tok} {m2 : Int} {n2 : Nat} (X : (hd.heap_1 w.params).In h₀) (F : Fr h₀ L s.heap m) (N0 : News h₀ L s.heap led) (hl : (l, PySem.W.listOf #[.ref a1, .ref a2] c) ∈ led) (h1 : (a1, ({ cls := .type "tuple", data := .seq #[.int 3 t1, .int m1 u1] n1 } : Obj)) ∈ led) (h2 : (a2, ({ cls := .type "tuple", data := .seq #[.int 1 t2, .int m2 u2] n2 } : Obj)) ∈ led)
   (h : ∀ D c' h' tk', Fr h₀ L h' m → News h₀ L h' ((D, PySem.W.listOf #[.ref a2, .ref a1] c') :: led) → (∀ q ∈ led, q.1 < D) → Q (.ref D) { s with heap := h', toks := tk' }) :
    wpAny (model PySem.Challenge.rw_xm0751_01.row.prog w) A (call (.builtin "sorted") [.ref l]) Q E s := by
  revert X
  k_fill
  intro X
  have N := news_sub (news := (l, PySem.W.listOf #[.ref a1, .ref a2] c) :: (a1, ({ cls := .type "tuple", data := .seq #[.int 3 t1, .int m1 u1] n1 } : Obj)) :: (a2, ({ cls := .type "tuple", data := .seq #[.int 1 t2, .int m2 u2] n2 } : Obj)) :: led) N0 (List.forall_mem_cons.mpr ⟨hl, List.forall_mem_cons.mpr ⟨h1, List.forall_mem_cons.mpr ⟨h2, fun q hq => hq⟩⟩⟩)
  with_unfolding_all refine' kat_sorted ?k1 ?k2 ?k3 ?k4 ?k5 ?_
  case k1 => k_asm
  case k2 => k_asm
  case k3 => kso_list
  case k4 => exact Nat.le_of_ble_eq_true rfl
  case k5 => exact Nat.le_of_ble_eq_true rfl
  intro D' e' h' F' N' l1
  have l2 : ∀ q ∈ led, @LT.lt Nat _ q.1 D' := fun q hq => l1 q (List.mem_cons_of_mem _ (List.mem_cons_of_mem _ (List.mem_cons_of_mem _ (hq))))
  k_lt l1
  clear N N0
  kat_kinds
  k_steps
  exact h D' _ _ _ (by assumption) (news_sub (by assumption) (List.forall_mem_cons.mpr ⟨List.mem_cons_self .., fun q hq => List.mem_cons_of_mem _ (List.mem_cons_of_mem _ (List.mem_cons_of_mem _ (List.mem_cons_of_mem _ (hq))))⟩)) l2
theorem lsr_31 {w : World} {A : Around} {Q : Value → Shared → Prop} {E : Value → Shared → Prop} {s : Shared} {h₀ : Heap} {L : Addr} {m : Str → Option Value} {led : Led} {B : Addr} {c : Nat} {a1 : Addr} {t1 u1 : Tok} {m1 : Int} {n1 : Nat} {a2 : Addr} {t2 u2 : Tok} {m2 : Int} {n2 : Nat} (X : (hd.heap_1 w.params).In h₀) (F : Fr h₀ L s.heap m) (N0 : News h₀ L s.heap ((B, PySem.W.listOf #[.ref a1, .ref a2] c) :: led)) (hne : ∀ q ∈ led, @LT.lt Nat _ q.1 B) (h1 : (a1, ({ cls := .type "tuple", data := .seq #[.int 3 t1, .int m1 u1] n1 } : Obj)) ∈ led) (h2 : (a2, ({ cls := .type "tuple", data := .seq #[.int 1 t2, .int m2 u2] n2 } : Obj)) ∈ led)
   (h : ∀ c' h' tk', Fr h₀ L h' m → News h₀ L h' ((B, PySem.W.listOf #[.ref a2, .ref a1] c') :: led) → Q .none { s with heap := h', toks := tk' }) :
    wpAny (model PySem.Challenge.rw_xm0751_01.row.prog w) A (call (.builtin "list.sort") [.ref B]) Q E s := by
  revert X
  k_fill
  intro X
  have off : ∀ p ∈ led, p.1 ≠ B := fun p hp e => absurd (hne p hp) (e ▸ Nat.lt_irrefl _)
  have hlt1 : @LT.lt Nat _ a1 B := hne _ h1
  have hlt2 : @LT.lt Nat _ a2 B := hne _ h2
  have N := news_sub (news := (B, PySem.W.listOf #[.ref a1, .ref a2] c) :: (a1, ({ cls := .type "tuple", data := .seq #[.int 3 t1, .int m1 u1] n1 } : Obj)) :: (a2, ({ cls := .type "tuple", data := .seq #[.int 1 t2, .int m2 u2] n2 } : Obj)) :: led) N0 (List.forall_mem_cons.mpr ⟨List.mem_cons_self .., List.forall_mem_cons.mpr ⟨List.mem_cons_of_mem _ h1, List.forall_mem_cons.mpr ⟨List.mem_cons_of_mem _ h2, fun q hq => List.mem_cons_of_mem _ hq⟩⟩⟩)
  with_unfolding_all refine' kat_lsort ?F ?N ?U ?e ?z ?y ?_
  case F => k_asm
  case N => k_asm
  case U => k_updF
  case e => kso_lit
  case z => exact Nat.le_of_ble_eq_true rfl
  case y => exact Nat.le_of_ble_eq_true rfl
  intro e' h' F' N'
  (try dsimp only at N')
  clear N N0
  kat_kinds
  k_steps
  exact h _ _ _ (by assumption) (news_sub (by assumption) (List.forall_mem_cons.mpr ⟨List.mem_cons_self .., fun q hq => List.mem_cons_of_mem _ (List.mem_cons_of_mem _ (List.mem_cons_of_mem _ (hq)))⟩))
theorem srt_32 {w : World} {A : Around} {Q : Value → Shared → Prop} {E : Value → Shared → Prop} {s : Shared} {h₀ : Heap} {L : Addr} {m : Str → Option Value} {led : Led} {l : Addr} {c : Nat} {a1 : Addr} {t1 u1 : Tok} {m1 : Int} {n1 : Nat} {a2 : Addr} {t2 u2 : Tok} {m2 : Int} {n2 : Nat} (X : (hd.heap_1 w.params).In h₀) (F : Fr h₀ L s.heap m) (N0 : News h₀ L s.heap led) (hl : (l, PySem.W.listOf #[.ref a1, .ref a2] c) ∈ led) (h1 : (a1, ({ cls := .type "tuple", data := .seq #[.int 3 t1, .int m1 u1] n1 } : Obj)) ∈ led) (h2 : (a2, ({ cls := .type "tuple", data := .seq #[.int 2 t2, .int m2 u2] n2 } : Obj)) ∈ led)
   (h : ∀ D c' h' tk', Fr h₀ L h' m → News h₀ L h' ((D, PySem.W.listOf #[.ref a2, .ref a1] c') :: led) → (∀ q ∈ led, q.1 < D) → Q (.ref D) { s with heap := h', toks := tk' }) :
    wpAny (model PySem.Challenge.rw_xm0751_01.row.prog w) A (call (.builtin "sorted") [.ref l]) Q E s := by
  revert X
  k_fill
  intro X
  have N := news_sub (news := (l, PySem.W.listOf #[.ref a1, .ref a2] c) :: (a1, ({ cls := .type "tuple", data := .seq #[.int 3 t1, .int m1 u1] n1 } : Obj)) :: (a2, ({ cls := .type "tuple", data := .seq #[.int 2 t2, .int m2 u2] n2 } : Obj)) :: led) N0 (List.forall_mem_cons.mpr ⟨hl, List.forall_mem_cons.mpr ⟨h1, List.forall_mem_cons.mpr ⟨h2, fun q hq => hq⟩⟩⟩)
  with_unfolding_all refine' kat_sorted ?k1 ?k2 ?k3 ?k4 ?k5 ?_
  case k1 => k_asm
  case k2 => k_asm
  case k3 => kso_list
  case k4 => exact Nat.le_of_ble_eq_true rfl
  case k5 => exact Nat.le_of_ble_eq_true rfl
  intro D' e' h' F' N' l1
  have l2 : ∀ q ∈ led, @LT.lt Nat _ q.1 D' := fun q hq => l1 q (List.mem_cons_of_mem _ (List.mem_cons_of_mem _ (List.mem_cons_of_mem _ (hq))))
  k_lt l1
  clear N N0
  kat_kinds
  k_steps
  exact h D' _ _ _ (by assumption) (news_sub (by assumption) (List.forall_mem_cons.mpr ⟨List.mem_cons_self .., fun q hq => List.mem_cons_of_mem _ (List.mem_cons_of_mem _ (List.mem_cons_of_mem _ (List.mem_cons_of_mem _ (hq))))⟩)) l2
theorem lsr_32 {w : World} {A : Around} {Q : Value → Shared → Prop} {E : Value → Shared → Prop} {s : Shared} {h₀ : Heap} {L : Addr} {m : Str → Option Value} {led : Led} {B : Addr} {c : Nat} {a1 : Addr} {t1 u1 : Tok} {m1 : Int} {n1 : Nat} {a2 : Addr} {t2 u2 : Tok} {m2 : Int} {n2 : Nat} (X : (hd.heap_1 w.params).In h₀) (F : Fr h₀ L s.heap m) (N0 : News h₀ L s.heap ((B, PySem.W.listOf #[.ref a1, .ref a2] c) :: led)) (hne : ∀ q ∈ led, @LT.lt Nat _ q.1 B) (h1 : (a1, ({ cls := .type "tuple", data := .seq #[.int 3 t1, .int m1 u1] n1 } : Obj)) ∈ led) (h2 : (a2, ({ cls := .type "tuple", data := .seq #[.int 2 t2, .int m2 u2] n2 } : Obj)) ∈ led)
   (h : ∀ c' h' tk', Fr h₀ L h' m → News h₀ L h' ((B, PySem.W.listOf #[.ref a2, .ref a1] c') :: led) → Q .none { s with heap := h', toks := tk' }) :
    wpAny (model PySem.Challenge.rw_xm0751_01.row.prog w) A (call (.builtin "list.sort") [.ref B]) Q E s := by
  revert X
  k_fill
  intro X
  have off : ∀ p ∈ led, p.1 ≠ B := fun p hp e => absurd (hne p hp) (e ▸ Nat.lt_irrefl _)
  have hlt1 : @LT.lt Nat _ a1 B := hne _ h1
  have hlt2 : @LT.lt Nat _ a2 B := hne _ h2
  have N := news_sub (news := (B, PySem.W.listOf #[.ref a1, .ref a2] c) :: (a1, ({ cls := .type "tuple", data := .seq #[.int 3 t1, .int m1 u1] n1 } : Obj)) :: (a2, ({ cls := .type "tuple", data := .seq #[.int 2 t2, .int m2 u2] n2 } : Obj)) :: led) N0 (List.forall_mem_cons.mpr ⟨List.mem_cons_self .., List.forall_mem_cons.mpr ⟨List.mem_cons_of_mem _ h1, List.forall_mem_cons.mpr ⟨List.mem_cons_of_mem _ h2, fun q hq => List.mem_cons_of_mem _ hq⟩⟩⟩)
  with_unfolding_all refine' kat_lsort ?F ?N ?U ?e ?z ?y ?_
  case F => k_asm
  case N => k_asm
  case U => k_updF
  case e => kso_lit
  case z => exact Nat.le_of_ble_eq_true rfl
  case y => exact Nat.le_of_ble_eq_true rfl
  intro e' h' F' N'
  (try dsimp only at N')
  clear N N0
  kat_kinds
  k_steps
  exact h _ _ _ (by assumption) (news_sub (by assumption) (List.forall_mem_cons.mpr ⟨List.mem_cons_self .., fun q hq => List.mem_cons_of_mem _ (List.mem_cons_of_mem _ (List.mem_cons_of_mem _ (hq)))⟩))
theorem srt_123 {w : World} {A : Around} {Q : Value → Shared → Prop} {E : Value → Shared → Prop} {s : Shared} {h₀ : Heap} {L : Addr} {m : Str → Option Value} {led : Led} {l : Addr} {c : Nat} {a1 : Addr} {t1 u1 : Tok} {m1 : Int} {n1 : Nat} {a2 : Addr} {t2 u2 : Tok} {m2 : Int} {n2 : Nat} {a3 : Addr} {t3 u3 : Tok} {m3 : Int} {n3 : Nat} (X : (hd.heap_1 w.params).In h₀) (F : Fr h₀ L s.heap m) (N0 : News h₀ L s.heap led) (hl : (l, PySem.W.listOf #[.ref a1, .ref a2, .ref a3] c) ∈ led) (h1 : (a1, ({ cls := .type "tuple", data := .seq #[.int 1 t1, .int m1 u1] n1 } : Obj)) ∈ led) (h2 : (a2, ({ cls := .type "tuple", data := .seq #[.int 2 t2, .int m2 u2] n2 } : Obj)) ∈ led) (h3 : (a3, ({ cls := .type "tuple", data := .seq #[.int 3 t3, .int m3 u3] n3 } : Obj)) ∈ led)
   (h : ∀ D c' h' tk', Fr h₀ L h' m → News h₀ L h' ((D, PySem.W.listOf #[.ref a1, .ref a2, .ref a3] c') :: led) → (∀ q ∈ led, q.1 < D) → Q (.ref D) { s with heap := h', toks := tk' }) :
    wpAny (model PySem.Challenge.rw_xm0751_01.row.prog w) A (call (.builtin "sorted") [.ref l]) Q E s := by
  revert X
  k_fill
  intro X
  have N := news_sub (news := (l, PySem.W.listOf #[.ref a1, .ref a2, .ref a3] c) :: (a1, ({ cls := .type "tuple", data := .seq #[.int 1 t1, .int m1 u1] n1 } : Obj)) :: (a2, ({ cls := .type "tuple", data := .seq #[.int 2 t2, .int m2 u2] n2 } : Obj)) :: (a3, ({ cls := .type "tuple", data := .seq #[.int 3 t3, .int m3 u3] n3 } : Obj)) :: led) N0 (List.forall_mem_cons.mpr ⟨hl, List.forall_mem_cons.mpr ⟨h1, List.forall_mem_cons.mpr ⟨h2, List.forall_mem_cons.mpr ⟨h3, fun q hq => hq⟩⟩⟩⟩)
  with_unfolding_all refine' kat_sorted ?k1 ?k2 ?k3 ?k4 ?k5 ?_
  case k1 => k_asm
  case k2 => k_asm
  case k3 => kso_list
  case k4 => exact Nat.le_of_ble_eq_true rfl
  case k5 => exact Nat.le_of_ble_eq_true rfl
  intro D' e' h' F' N' l1
  have l2 : ∀ q ∈ led, @LT.lt Nat _ q.1 D' := fun q hq => l1 q (List.mem_cons_of_mem _ (List.mem_cons_of_mem _ (List.mem_cons_of_mem _ (List.mem_cons_of_mem _ (hq)))))
  k_lt l1
  clear N N0
  kat_kinds
  k_steps
  exact h D' _ _ _ (by assumption) (news_sub (by assumption) (List.forall_mem_cons.mpr ⟨List.mem_cons_self .., fun q hq => List.mem_cons_of_mem _ (List.mem_cons_of_mem _ (List.mem_cons_of_mem _ (List.mem_cons_of_mem _ (List.mem_cons_of_mem _ (hq)))))⟩)) l2
theorem lsr_123 {w : World} {A : Around} {Q : Value → Shared → Prop} {E : Value → Shared → Prop} {s : Shared} {h₀ : Heap} {L : Addr} {m : Str → Option Value} {led : Led} {B : Addr} {c : Nat} {a1 : Addr} {t1 u1 : Tok} {m1 : Int} {n1 : Nat} {a2 : Addr} {t2 u2 : Tok} {m2 : Int} {n2 : Nat} {a3 : Addr} {t3 u3 : Tok} {m3 : Int} {n3 : Nat} (X : (hd.heap_1 w.params).In h₀) (F : Fr h₀ L s.heap m) (N0 : News h₀ L s.heap ((B, PySem.W.listOf #[.ref a1, .ref a2, .ref a3] c) :: led)) (hne : ∀ q ∈ led, @LT.lt Nat _ q.1 B) (h1 : (a1, ({ cls := .type "tuple", data := .seq #[.int 1 t1, .int m1 u1] n1 } : Obj)) ∈ led) (h2 : (a2, ({ cls := .type "tuple", data := .seq #[.int 2 t2, .int m2 u2] n2 } : Obj)) ∈ led) (h3 : (a3, ({ cls := .type "tuple", data := .seq #[.int 3 t3, .int m3 u3] n3 } : Obj)) ∈ led)
   (h : ∀ c' h' tk', Fr h₀ L h' m → News h₀ L h' ((B, PySem.W.listOf #[.ref a1, .ref a2, .ref a3] c') :: led) → Q .none { s with heap := h', toks := tk' }) :
    wpAny (model PySem.Challenge.rw_xm0751_01.row.prog w) A (call (.builtin "list.sort") [.ref B]) Q E s := by
  revert X
  k_fill
  intro X
  have off : ∀ p ∈ led, p.1 ≠ B := fun p hp e => absurd (hne p hp) (e ▸ Nat.lt_irrefl _)
  have hlt1 : @LT.lt Nat _ a1 B := hne _ h1
  have hlt2 : @LT.lt Nat _ a2 B := hne _ h2
  have hlt3 : @LT.lt Nat _ a3 B := hne _ h3
  have N := news_sub (news := (B, PySem.W.listOf #[.ref a1, .ref a2, .ref a3] c) :: (a1, ({ cls := .type "tuple", data := .seq #[.int 1 t1, .int m1 u1] n1 } : Obj)) :: (a2, ({ cls := .type "tuple", data := .seq #[.int 2 t2, .int m2 u2] n2 } : Obj)) :: (a3, ({ cls := .type "tuple", data := .seq #[.int 3 t3, .int m3 u3] n3 } : Obj)) :: led) N0 (List.forall_mem_cons.mpr ⟨List.mem_cons_self .., List.forall_mem_cons.mpr ⟨List.mem_cons_of_mem _ h1, List.forall_mem_cons.mpr ⟨List.mem_cons_of_mem _ h2, List.forall_mem_cons.mpr ⟨List.mem_cons_of_mem _ h3, fun q hq => List.mem_cons_of_mem _ hq⟩⟩⟩⟩)
  with_unfolding_all refine' kat_lsort ?F ?N ?U ?e ?z ?y ?_
  case F => k_asm
  case N => k_asm
  case U => k_updF
  case e => kso_lit
  case z => exact Nat.le_of_ble_eq_true rfl
  case y => exact Nat.le_of_ble_eq_true rfl
  intro e' h' F' N'
  (try dsimp only at N')
  clear N N0
  kat_kinds
  k_steps
  exact h _ _ _ (by assumption) (news_sub (by assumption) (List.forall_mem_cons.mpr ⟨List.mem_cons_self .., fun q hq => List.mem_cons_of_mem _ (List.mem_cons_of_mem _ (List.mem_cons_of_mem _ (List.mem_cons_of_mem _ (hq))))⟩))
theorem srt_132 {w : World} {A : Around} {Q : Value → Shared → Prop} {E : Value → Shared → Prop} {s : Shared} {h₀ : Heap} {L : Addr} {m : Str → Option Value} {led : Led} {l : Addr} {c : Nat} {a1 : Addr} {t1 u1 : Tok} {m1 : Int} {n1 : Nat} {a2 : Addr} {t2 u2 : Tok} {m2 : Int} {n2 : Nat} {a3 : Addr} {t3 u3 : Tok} {m3 : Int} {n3 : Nat} (X : (hd.heap_1 w.params).In h₀) (F : Fr h₀ L s.heap m) (N0 : News h₀ L s.heap led) (hl : (l, PySem.W.listOf #[.ref a1, .ref a2, .ref a3] c) ∈ led) (h1 : (a1, ({ cls := .type "tuple", data := .seq #[.int 1 t1, .int m1 u1] n1 } : Obj)) ∈ led) (h2 : (a2, ({ cls := .type "tuple", data := .seq #[.int 3 t2, .int m2 u2] n2 } : Obj)) ∈ led) (h3 : (a3, ({ cls := .type "tuple", data := .seq #[.int 2 t3, .int m3 u3] n3 } : Obj)) ∈ led)
   (h : ∀ D c' h' tk', Fr h₀ L h' m → News h₀ L h' ((D, PySem.W.listOf #[.ref a1, .ref a3, .ref a2] c') :: led) → (∀ q ∈ led, q.1 < D) → Q (.ref D) { s with heap := h', toks := tk' }) :
    wpAny (model PySem.Challenge.rw_xm0751_01.row.prog w) A (call (.builtin "sorted") [.ref l]) Q E s := by
  revert X
  k_fill
  intro X
  have N := news_sub (news := (l, PySem.W.listOf #[.ref a1, .ref a2, .ref a3] c) :: (a1, ({ cls := .type "tuple", data := .seq #[.int 1 t1, .int m1 u1] n1 } : Obj)) :: (a2, ({ cls := .type "tuple", data := .seq #[.int 3 t2, .int m2 u2] n2 } : Obj)) :: (a3, ({ cls := .type "tuple", data := .seq #[.int 2 t3, .int m3 u3] n3 } : Obj)) :: led) N0 (List.forall_mem_cons.mpr ⟨hl, List.forall_mem_cons.mpr ⟨h1, List.forall_mem_cons.mpr ⟨h2, List.forall_mem_cons.mpr ⟨h3, fun q hq => hq⟩⟩⟩⟩)
  with_unfolding_all refine' kat_sorted ?k1 ?k2 ?k3 ?k4 ?k5 ?_
  case k1 => k_asm
  case k2 => k_asm
  case k3 => kso_list
  case k4 => exact Nat.le_of_ble_eq_true rfl
  case k5 => exact Nat.le_of_ble_eq_true rfl
  intro D' e' h' F' N' l1
  have l2 : ∀ q ∈ led, @LT.lt Nat _ q.1 D' := fun q hq => l1 q (List.mem_cons_of_mem _ (List.mem_cons_of_mem _ (List.mem_cons_of_mem _ (List.mem_cons_of_mem _ (hq)))))
  k_lt l1
  clear N N0
  kat_kinds
  k_steps
  exact h D' _ _ _ (by assumption) (news_sub (by assumption) (List.forall_mem_cons.mpr ⟨List.mem_cons_self .., fun q hq => List.mem_cons_of_mem _ (List.mem_cons_of_mem _ (List.mem_cons_of_mem _ (List.mem_cons_of_mem _ (List.mem_cons_of_mem _ (hq)))))⟩)) l2
theorem lsr_132 {w : World} {A : Around} {Q : Value → Shared → Prop} {E : Value → Shared → Prop} {s : Shared} {h₀ : Heap} {L : Addr} {m : Str → Option Value} {led : Led} {B : Addr} {c : Nat} {a1 : Addr} {t1 u1 : Tok} {m1 : Int} {n1 : Nat} {a2 : Addr} {t2 u2 : Tok} {m2 : Int} {n2 : Nat} {a3 : Addr} {t3 u3 : Tok} {m3 : Int} {n3 : Nat} (X : (hd.heap_1 w.params).In h₀) (F : Fr h₀ L s.heap m) (N0 : News h₀ L s.heap ((B, PySem.W.listOf #[.ref a1, .ref a2, .ref a3] c) :: led)) (hne : ∀ q ∈ led, @LT.lt Nat _ q.1 B) (h1 : (a1, ({ cls := .type "tuple", data := .seq #[.int 1 t1, .int m1 u1] n1 } : Obj)) ∈ led) (h2 : (a2, ({ cls := .type "tuple", data := .seq #[.int 3 t2, .int m2 u2] n2 } : Obj)) ∈ led) (h3 : (a3, ({ cls := .type "tuple", data := .seq #[.int 2 t3, .int m3 u3] n3 } : Obj)) ∈ led)
   (h : ∀ c' h' tk', Fr h₀ L h' m → News h₀ L h' ((B, PySem.W.listOf #[.ref a1, .ref a3, .ref a2] c') :: led) → Q .none { s with heap := h', toks := tk' }) :
    wpAny (model PySem.Challenge.rw_xm0751_01.row.prog w) A (call (.builtin "list.sort") [.ref B]) Q E s := by
  revert X
  k_fill
  intro X
  have off : ∀ p ∈ led, p.1 ≠ B := fun p hp e => absurd (hne p hp) (e ▸ Nat.lt_irrefl _)
  have hlt1 : @LT.lt Nat _ a1 B := hne _ h1
  have hlt2 : @LT.lt Nat _ a2 B := hne _ h2
  have hlt3 : @LT.lt Nat _ a3 B := hne _ h3
  have N := news_sub (news := (B, PySem.W.listOf #[.ref a1, .ref a2, .ref a3] c) :: (a1, ({ cls := .type "tuple", data := .seq #[.int 1 t1, .int m1 u1] n1 } : Obj)) :: (a2, ({ cls := .type "tuple", data := .seq #[.int 3 t2, .int m2 u2] n2 } : Obj)) :: (a3, ({ cls := .type "tuple", data := .seq #[.int 2 t3, .int m3 u3] n3 } : Obj)) :: led) N0 (List.forall_mem_cons.mpr ⟨List.mem_cons_self .., List.forall_mem_cons.mpr ⟨List.mem_cons_of_mem _ h1, List.forall_mem_cons.mpr ⟨List.mem_cons_of_mem _ h2, List.forall_mem_cons.mpr ⟨List.mem_cons_of_mem _ h3, fun q hq => List.mem_cons_of_mem _ hq⟩⟩⟩⟩)
  with_unfolding_all refine' kat_lsort ?F ?N ?U ?e ?z ?y ?_
  case F => k_asm
  case N => k_asm
  case U => k_updF
  case e => kso_lit
  case z => exact Nat.le_of_ble_eq_true rfl
  case y => exact Nat.le_of_ble_eq_true rfl
  intro e' h' F' N'
  (try dsimp only at N')
  clear N N0
  kat_kinds
  k_steps
  exact h _ _ _ (by assumption) (news_sub (by assumption) (List.forall_mem_cons.mpr ⟨List.mem_cons_self .., fun q hq => List.mem_cons_of_mem _ (List.mem_cons_of_mem _ (List.mem_cons_of_mem _ (List.mem_cons_of_mem _ (hq))))⟩))
theorem srt_213 {w : World} {A : Around} {Q : Value → Shared → Prop} {E : Value → Shared → Prop} {s : Shared} {h₀ : Heap} {L : Addr} {m : Str → Option Value} {led : Led} {l : Addr} {c : Nat} {a1 : Addr} {t1 u1 : Tok} {m1 : Int} {n1 : Nat} {a2 : Addr} {t2 u2 : Tok} {m2 : Int} {n2 : Nat} {a3 : Addr} {t3 u3 : Tok} {m3 : Int} {n3 : Nat} (X : (hd.heap_1 w.params).In h₀) (F : Fr h₀ L s.heap m) (N0 : News h₀ L s.heap led) (hl : (l, PySem.W.listOf #[.ref a1, .ref a2, .ref a3] c) ∈ led) (h1 : (a1, ({ cls := .type "tuple", data := .seq #[.int 2 t1, .int m1 u1] n1 } : Obj)) ∈ led) (h2 : (a2, ({ cls := .type "tuple", data := .seq #[.int 1 t2, .int m2 u2] n2 } : Obj)) ∈ led) (h3 : (a3, ({ cls := .type "tuple", data := .seq #[.int 3 t3, .int m3 u3] n3 } : Obj)) ∈ led)
   (h : ∀ D c' h' tk', Fr h₀ L h' m → News h₀ L h' ((D, PySem.W.listOf #[.ref a2, .ref a1, .ref a3] c') :: led) → (∀ q ∈ led, q.1 < D) → Q (.ref D) { s with heap := h', toks := tk' }) :
    wpAny (model PySem.Challenge.rw_xm0751_01.row.prog w) A (call (.builtin "sorted") [.ref l]) Q E s := by
  revert X
  k_fill
  intro X
  have N := news_sub (news := (l, PySem.W.listOf #[.ref a1, .ref a2, .ref a3] c) :: (a1, ({ cls := .type "tuple", data := .seq #[.int 2 t1, .int m1 u1] n1 } : Obj)) :: (a2, ({ cls := .type "tuple", data := .seq #[.int 1 t2, .int m2 u2] n2 } : Obj)) :: (a3, ({ cls := .type "tuple", data := .seq #[.int 3 t3, .int m3 u3] n3 } : Obj)) :: led) N0 (List.forall_mem_cons.mpr ⟨hl, List.forall_mem_cons.mpr ⟨h1, List.forall_mem_cons.mpr ⟨h2, List.forall_mem_cons.mpr ⟨h3, fun q hq => hq⟩⟩⟩⟩)
  with_unfolding_all refine' kat_sorted ?k1 ?k2 ?k3 ?k4 ?k5 ?_
  case k1 => k_asm
  case k2 => k_asm
  case k3 => kso_list
  case k4 => exact Nat.le_of_ble_eq_true rfl
  case k5 => exact Nat.le_of_ble_eq_true rfl
  intro D' e' h' F' N' l1
  have l2 : ∀ q ∈ led, @LT.lt Nat _ q.1 D' := fun q hq => l1 q (List.mem_cons_of_mem _ (List.mem_cons_of_mem _ (List.mem_cons_of_mem _ (List.mem_cons_of_mem _ (hq)))))
  k_lt l1
  clear N N0
  kat_kinds
  k_steps
  exact h D' _ _ _ (by assumption) (news_sub (by assumption) (List.forall_mem_cons.mpr ⟨List.mem_cons_self .., fun q hq => List.mem_cons_of_mem _ (List.mem_cons_of_mem _ (List.mem_cons_of_mem _ (List.mem_cons_of_mem _ (List.mem_cons_of_mem _ (hq)))))⟩)) l2
theorem lsr_213 {w : World} {A : Around} {Q : Value → Shared → Prop} {E : Value → Shared → Prop} {s : Shared} {h₀ : Heap} {L : Addr} {m : Str → Option Value} {led : Led} {B : Addr} {c : Nat} {a1 : Addr} {t1 u1 : Tok} {m1 : Int} {n1 : Nat} {a2 : Addr} {t2 u2 : Tok} {m2 : Int} {n2 : Nat} {a3 : Addr} {t3 u3 : Tok} {m3 : Int} {n3 : Nat} (X : (hd.heap_1 w.params).In h₀) (F : Fr h₀ L s.heap m) (N0 : News h₀ L s.heap ((B, PySem.W.listOf #[.ref a1, .ref a2, .ref a3] c) :: led)) (hne : ∀ q ∈ led, @LT.lt Nat _ q.1 B) (h1 : (a1, ({ cls := .type "tuple", data := .seq #[.int 2 t1, .int m1 u1] n1 } : Obj)) ∈ led) (h2 : (a2, ({ cls := .type "tuple", data := .seq #[.int 1 t2, .int m2 u2] n2 } : Obj)) ∈ led) (h3 : (a3, ({ cls := .type "tuple", data := .seq #[.int 3 t3, .int m3 u3] n3 } : Obj)) ∈ led)
   (h : ∀ c' h' tk', Fr h₀ L h' m → News h₀ L h' ((B, PySem.W.listOf #[.ref a2, .ref a1, .ref a3] c') :: led) → Q .none { s with heap := h', toks := tk' }) :
    wpAny (model PySem.Challenge.rw_xm0751_01.row.prog w) A (call (.builtin "list.sort") [.ref B]) Q E s := by
  revert X
  k_fill
  intro X
  have off : ∀ p ∈ led, p.1 ≠ B := fun p hp e => absurd (hne p hp) (e ▸ Nat.lt_irrefl _)
  have hlt1 : @LT.lt Nat _ a1 B := hne _ h1
  have hlt2 : @LT.lt Nat _ a2 B := hne _ h2
  have hlt3 : @LT.lt Nat _ a3 B := hne _ h3
  have N := news_sub (news := (B, PySem.W.listOf #[.ref a1, .ref a2, .ref a3] c) :: (a1, ({ cls := .type "tuple", data := .seq #[.int 2 t1, .int m1 u1] n1 } : Obj)) :: (a2, ({ cls := .type "tuple", data := .seq #[.int 1 t2, .int m2 u2] n2 } : Obj)) :: (a3, ({ cls := .type "tuple", data := .seq #[.int 3 t3, .int m3 u3] n3 } : Obj)) :: led) N0 (List.forall_mem_cons.mpr ⟨List.mem_cons_self .., List.forall_mem_cons.mpr ⟨List.mem_cons_of_mem _ h1, List.forall_mem_cons.mpr ⟨List.mem_cons_of_mem _ h2, List.forall_mem_cons.mpr ⟨List.mem_cons_of_mem _ h3, fun q hq => List.mem_cons_of_mem _ hq⟩⟩⟩⟩)
  with_unfolding_all refine' kat_lsort ?F ?N ?U ?e ?z ?y ?_
  case F => k_asm
  case N => k_asm
  case U => k_updF
  case e => kso_lit
  case z => exact Nat.le_of_ble_eq_true rfl
  case y => exact Nat.le_of_ble_eq_true rfl
  intro e' h' F' N'
  (try dsimp only at N')
  clear N N0
  kat_kinds
  k_steps
  exact h _ _ _ (by assumption) (news_sub (by assumption) (List.forall_mem_cons.mpr ⟨List.mem_cons_self .., fun q hq => List.mem_cons_of_mem _ (List.mem_cons_of_mem _ (List.mem_cons_of_mem _ (List.mem_cons_of_mem _ (hq))))⟩))
theorem srt_231 {w : World} {A : Around} {Q : Value → Shared → Prop} {E : Value → Shared → Prop} {s : Shared} {h₀ : Heap} {L : Addr} {m : Str → Option Value} {led : Led} {l : Addr} {c : Nat} {a1 : Addr} {t1 u1 : Tok} {m1 : Int} {n1 : Nat} {a2 : Addr} {t2 u2 : Tok} {m2 : Int} {n2 : Nat} {a3 : Addr} {t3 u3 : Tok} {m3 : Int} {n3 : Nat} (X : (hd.heap_1 w.params).In h₀) (F : Fr h₀ L s.heap m) (N0 : News h₀ L s.heap led) (hl : (l, PySem.W.listOf #[.ref a1, .ref a2, .ref a3] c) ∈ led) (h1 : (a1, ({ cls := .type "tuple", data := .seq #[.int 2 t1, .int m1 u1] n1 } : Obj)) ∈ led) (h2 : (a2, ({ cls := .type "tuple", data := .seq #[.int 3 t2, .int m2 u2] n2 } : Obj)) ∈ led) (h3 : (a3, ({ cls := .type "tuple", data := .seq #[.int 1 t3, .int m3 u3] n3 } : Obj)) ∈ led)
   (h : ∀ D c' h' tk', Fr h₀ L h' m → News h₀ L h' ((D, PySem.W.listOf #[.ref a3, .ref a1, .ref a2] c') :: led) → (∀ q ∈ led, q.1 < D) → Q (.ref D) { s with heap := h', toks := tk' }) :
    wpAny (model PySem.Challenge.rw_xm0751_01.row.prog w) A (call (.builtin "sorted") [.ref l]) Q E s := by
  revert X
  k_fill
  intro X
  have N := news_sub (news := (l, PySem.W.listOf #[.ref a1, .ref a2, .ref a3] c) :: (a1, ({ cls := .type "tuple", data := .seq #[.int 2 t1, .int m1 u1] n1 } : Obj)) :: (a2, ({ cls := .type "tuple", data := .seq #[.int 3 t2, .int m2 u2] n2 } : Obj)) :: (a3, ({ cls := .type "tuple", data := .seq #[.int 1 t3, .int m3 u3] n3 } : Obj)) :: led) N0 (List.forall_mem_cons.mpr ⟨hl, List.forall_mem_cons.mpr ⟨h1, List.forall_mem_cons.mpr ⟨h2, List.forall_mem_cons.mpr ⟨h3, fun q hq => hq⟩⟩⟩⟩)
  with_unfolding_all refine' kat_sorted ?k1 ?k2 ?k3 ?k4 ?k5 ?_
  case k1 => k_asm
  case k2 => k_asm
  case k3 => kso_list
  case k4 => exact Nat.le_of_ble_eq_true rfl
  case k5 => exact Nat.le_of_ble_eq_true rfl
  intro D' e' h' F' N' l1
  have l2 : ∀ q ∈ led, @LT.lt Nat _ q.1 D' := fun q hq => l1 q (List.mem_cons_of_mem _ (List.mem_cons_of_mem _ (List.mem_cons_of_mem _ (List.mem_cons_of_mem _ (hq)))))
  k_lt l1
  clear N N0
  kat_kinds
  k_steps
  exact h D' _ _ _ (by assumption) (news_sub (by assumption) (List.forall_mem_cons.mpr ⟨List.mem_cons_self .., fun q hq => List.mem_cons_of_mem _ (List.mem_cons_of_mem _ (List.mem_cons_of_mem _ (List.mem_cons_of_mem _ (List.mem_cons_of_mem _ (hq)))))⟩)) l2
theorem lsr_231 {w : World} {A : Around} {Q : Value → Shared → Prop} {E : Value → Shared → Prop} {s : Shared} {h₀ : Heap} {L : Addr} {m : Str → Option Value} {led : Led} {B : Addr} {c : Nat} {a1 : Addr} {t1 u1 : Tok} {m1 : Int} {n1 : Nat} {a2 : Addr} {t2 u2 : Tok} {m2 : Int} {n2 : Nat} {a3 : Addr} {t3 u3 : Tok} {m3 : Int} {n3 : Nat} (X : (hd.heap_1 w.params).In h₀) (F : Fr h₀ L s.heap m) (N0 : News h₀ L s.heap ((B, PySem.W.listOf #[.ref a1, .ref a2, .ref a3] c) :: led)) (hne : ∀ q ∈ led, @LT.lt Nat _ q.1 B) (h1 : (a1, ({ cls := .type "tuple", data := .seq #[.int 2 t1, .int m1 u1] n1 } : Obj)) ∈ led) (h2 : (a2, ({ cls := .type "tuple", data := .seq #[.int 3 t2, .int m2 u2] n2 } : Obj)) ∈ led) (h3 : (a3, ({ cls := .type "tuple", data := .seq #[.int 1 t3, .int m3 u3] n3 } : Obj)) ∈ led)
   (h : ∀ c' h' tk', Fr h₀ L h' m → News h₀ L h' ((B, PySem.W.listOf #[.ref a3, .ref a1, .ref a2] c') :: led) → Q .none { s with heap := h', toks := tk' }) :
    wpAny (model PySem.Challenge.rw_xm0751_01.row.prog w) A (call (.builtin "list.sort") [.ref B]) Q E s := by
  revert X
  k_fill
  intro X
  have off : ∀ p ∈ led, p.1 ≠ B := fun p hp e => absurd (hne p hp) (e ▸ Nat.lt_irrefl _)
  have hlt1 : @LT.lt Nat _ a1 B := hne _ h1
  have hlt2 : @LT.lt Nat _ a2 B := hne _ h2
  have hlt3 : @LT.lt Nat _ a3 B := hne _ h3
  have N := news_sub (news := (B, PySem.W.listOf #[.ref a1, .ref a2, .ref a3] c) :: (a1, ({ cls := .type "tuple", data := .seq #[.int 2 t1, .int m1 u1] n1 } : Obj)) :: (a2, ({ cls := .type "tuple", data := .seq #[.int 3 t2, .int m2 u2] n2 } : Obj)) :: (a3, ({ cls := .type "tuple", data := .seq #[.int 1 t3, .int m3 u3] n3 } : Obj)) :: led) N0 (List.forall_mem_cons.mpr ⟨List.mem_cons_self .., List.forall_mem_cons.mpr ⟨List.mem_cons_of_mem _ h1, List.forall_mem_cons.mpr ⟨List.mem_cons_of_mem _ h2, List.forall_mem_cons.mpr ⟨List.mem_cons_of_mem _ h3, fun q hq => List.mem_cons_of_mem _ hq⟩⟩⟩⟩)
  with_unfolding_all refine' kat_lsort ?F ?N ?U ?e ?z ?y ?_
  case F => k_asm
  case N => k_asm
  case U => k_updF
  case e => kso_lit
  case z => exact Nat.le_of_ble_eq_true rfl
  case y => exact Nat.le_of_ble_eq_true rfl
  intro e' h' F' N'
  (try dsimp only at N')
  clear N N0
  kat_kinds
  k_steps
  exact h _ _ _ (by assumption) (news_sub (by assumption) (List.forall_mem_cons.mpr ⟨List.mem_cons_self .., fun q hq => List.mem_cons_of_mem _ (List.mem_cons_of_mem _ (List.mem_cons_of_mem _ (List.mem_cons_of_mem _ (hq))))⟩))
theorem srt_312 {w : World} {A : Around} {Q : Value → Shared → Prop} {E : Value → Shared → Prop} {s : Shared} {h₀ : Heap} {L : Addr} {m : Str → Option Value} {led : Led} {l : Addr} {c : Nat} {a1 : Addr} {t1 u1 : Tok} {m1 : Int} {n1 : Nat} {a2 : Addr} {t2 u2 : Tok} {m2 : Int} {n2 : Nat} {a3 : Addr} {t3 u3 : Tok} {m3 : Int} {n3 : Nat} (X : (hd.heap_1 w.params).In h₀) (F : Fr h₀ L s.heap m) (N0 : News h₀ L s.heap led) (hl : (l, PySem.W.listOf #[.ref a1, .ref a2, .ref a3] c) ∈ led) (h1 : (a1, ({ cls := .type "tuple", data := .seq #[.int 3 t1, .int m1 u1] n1 } : Obj)) ∈ led) (h2 : (a2, ({ cls := .type "tuple", data := .seq #[.int 1 t2, .int m2 u2] n2 } : Obj)) ∈ led) (h3 : (a3, ({ cls := .type "tuple", data := .seq #[.int 2 t3, .int m3 u3] n3 } : Obj)) ∈ led)
   (h : ∀ D c' h' tk', Fr h₀ L h' m → News h₀ L h' ((D, PySem.W.listOf #[.ref a2, .ref a3, .ref a1] c') :: led) → (∀ q ∈ led, q.1 < D) → Q (.ref D) { s with heap := h', toks := tk' }) :
    wpAny (model PySem.Challenge.rw_xm0751_01.row.prog w) A (call (.builtin "sorted") [.ref l]) Q E s := by
  revert X
  k_fill
  intro X
  have N := news_sub (news := (l, PySem.W.listOf #[.ref a1, .ref a2, .ref a3] c) :: (a1, ({ cls := .type "tuple", data := .seq #[.int 3 t1, .int m1 u1] n1 } : Obj)) :: (a2, ({ cls := .type "tuple", data := .seq #[.int 1 t2, .int m2 u2] n2 } : Obj)) :: (a3, ({ cls := .type "tuple", data := .seq #[.int 2 t3, .int m3 u3] n3 } : Obj)) :: led) N0 (List.forall_mem_cons.mpr ⟨hl, List.forall_mem_cons.mpr ⟨h1, List.forall_mem_cons.mpr ⟨h2, List.forall_mem_cons.mpr ⟨h3, fun q hq => hq⟩⟩⟩⟩)
  with_unfolding_all refine' kat_sorted ?k1 ?k2 ?k3 ?k4 ?k5 ?_
  case k1 => k_asm
  case k2 => k_asm
  case k3 => kso_list
  case k4 => exact Nat.le_of_ble_eq_true rfl
  case k5 => exact Nat.le_of_ble_eq_true rfl
  intro D' e' h' F' N' l1
  have l2 : ∀ q ∈ led, @LT.lt Nat _ q.1 D' := fun q hq => l1 q (List.mem_cons_of_mem _ (List.mem_cons_of_mem _ (List.mem_cons_of_mem _ (List.mem_cons_of_mem _ (hq)))))
  k_lt l1
  clear N N0
  kat_kinds
  k_steps
  exact h D' _ _ _ (by assumption) (news_sub (by assumption) (List.forall_mem_cons.mpr ⟨List.mem_cons_self .., fun q hq => List.mem_cons_of_mem _ (List.mem_cons_of_mem _ (List.mem_cons_of_mem _ (List.mem_cons_of_mem _ (List.mem_cons_of_mem _ (hq)))))⟩)) l2
theorem lsr_312 {w : World} {A : Around} {Q : Value → Shared → Prop} {E : Value → Shared → Prop} {s : Shared} {h₀ : Heap} {L : Addr} {m : Str → Option Value} {led : Led} {B : Addr} {c : Nat} {a1 : Addr} {t1 u1 : Tok} {m1 : Int} {n1 : Nat} {a2 : Addr} {t2 u2 : Tok} {m2 : Int} {n2 : Nat} {a3 : Addr} {t3 u3 : Tok} {m3 : Int} {n3 : Nat} (X : (hd.heap_1 w.params).In h₀) (F : Fr h₀ L s.heap m) (N0 : News h₀ L s.heap ((B, PySem.W.listOf #[.ref a1, .ref a2, .ref a3] c) :: led)) (hne : ∀ q ∈ led, @LT.lt Nat _ q.1 B) (h1 : (a1, ({ cls := .type "tuple", data := .seq #[.int 3 t1, .int m1 u1] n1 } : Obj)) ∈ led) (h2 : (a2, ({ cls := .type "tuple", data := .seq #[.int 1 t2, .int m2 u2] n2 } : Obj)) ∈ led) (h3 : (a3, ({ cls := .type "tuple", data := .seq #[.int 2 t3, .int m3 u3] n3 } : Obj)) ∈ led)
   (h : ∀ c' h' tk', Fr h₀ L h' m → News h₀ L h' ((B, PySem.W.listOf #[.ref a2, .ref a3, .ref a1] c') :: led) → Q .none { s with heap := h', toks := tk' }) :
    wpAny (model PySem.Challenge.rw_xm0751_01.row.prog w) A (call (.builtin "list.sort") [.ref B]) Q E s := by
  revert X
  k_fill
  intro X
  have off : ∀ p ∈ led, p.1 ≠ B := fun p hp e => absurd (hne p hp) (e ▸ Nat.lt_irrefl _)
  have hlt1 : @LT.lt Nat _ a1 B := hne _ h1
  have hlt2 : @LT.lt Nat _ a2 B := hne _ h2
  have hlt3 : @LT.lt Nat _ a3 B := hne _ h3
  have N := news_sub (news := (B, PySem.W.listOf #[.ref a1, .ref a2, .ref a3] c) :: (a1, ({ cls := .type "tuple", data := .seq #[.int 3 t1, .int m1 u1] n1 } : Obj)) :: (a2, ({ cls := .type "tuple", data := .seq #[.int 1 t2, .int m2 u2] n2 } : Obj)) :: (a3, ({ cls := .type "tuple", data := .seq #[.int 2 t3, .int m3 u3] n3 } : Obj)) :: led) N0 (List.forall_mem_cons.mpr ⟨List.mem_cons_self .., List.forall_mem_cons.mpr ⟨List.mem_cons_of_mem _ h1, List.forall_mem_cons.mpr ⟨List.mem_cons_of_mem _ h2, List.forall_mem_cons.mpr ⟨List.mem_cons_of_mem _ h3, fun q hq => List.mem_cons_of_mem _ hq⟩⟩⟩⟩)
  with_unfolding_all refine' kat_lsort ?F ?N ?U ?e ?z ?y ?_
  case F => k_asm
  case N => k_asm
  case U => k_updF
  case e => kso_lit
  case z => exact Nat.le_of_ble_eq_true rfl
  case y => exact Nat.le_of_ble_eq_true rfl
  intro e' h' F' N'
  (try dsimp only at N')
  clear N N0
  kat_kinds
  k_steps
  exact h _ _ _ (by assumption) (news_sub (by assumption) (List.forall_mem_cons.mpr ⟨List.mem_cons_self .., fun q hq => List.mem_cons_of_mem _ (List.mem_cons_of_mem _ (List.mem_cons_of_mem _ (List.mem_cons_of_mem _ (hq))))⟩))
theorem srt_321 {w : World} {A : Around} {Q : Value → Shared → Prop} {E : Value → Shared → Prop} {s : Shared} {h₀ : Heap} {L : Addr} {m : Str → Option Value} {led : Led} {l : Addr} {c : Nat} {a1 : Addr} {t1 u1 : Tok} {m1 : Int} {n1 : Nat} {a2 : Addr} {t2 u2 : Tok} {m2 : Int} {n2 : Nat} {a3 : Addr} {t3 u3 : Tok} {m3 : Int} {n3 : Nat} (X : (hd.heap_1 w.params).In h₀) (F : Fr h₀ L s.heap m) (N0 : News h₀ L s.heap led) (hl : (l, PySem.W.listOf #[.ref a1, .ref a2, .ref a3] c) ∈ led) (h1 : (a1, ({ cls := .type "tuple", data := .seq #[.int 3 t1, .int m1 u1] n1 } : Obj)) ∈ led) (h2 : (a2, ({ cls := .type "tuple", data := .seq #[.int 2 t2, .int m2 u2] n2 } : Obj)) ∈ led) (h3 : (a3, ({ cls := .type "tuple", data := .seq #[.int 1 t3, .int m3 u3] n3 } : Obj)) ∈ led)
   (h : ∀ D c' h' tk', Fr h₀ L h' m → News h₀ L h' ((D, PySem.W.listOf #[.ref a3, .ref a2, .ref a1] c') :: led) → (∀ q ∈ led, q.1 < D) → Q (.ref D) { s with heap := h', toks := tk' }) :
    wpAny (model PySem.Challenge.rw_xm0751_01.row.prog w) A (call (.builtin "sorted") [.ref l]) Q E s := by
  revert X
  k_fill
  intro X
  have N := news_sub (news := (l, PySem.W.listOf #[.ref a1, .ref a2, .ref a3] c) :: (a1, ({ cls := .type "tuple", data := .seq #[.int 3 t1, .int m1 u1] n1 } : Obj)) :: (a2, ({ cls := .type "tuple", data := .seq #[.int 2 t2, .int m2 u2] n2 } : Obj)) :: (a3, ({ cls := .type "tuple", data := .seq #[.int 1 t3, .int m3 u3] n3 } : Obj)) :: led) N0 (List.forall_mem_cons.mpr ⟨hl, List.forall_mem_cons.mpr ⟨h1, List.forall_mem_cons.mpr ⟨h2, List.forall_mem_cons.mpr ⟨h3, fun q hq => hq⟩⟩⟩⟩)
  with_unfolding_all refine' kat_sorted ?k1 ?k2 ?k3 ?k4 ?k5 ?_
  case k1 => k_asm
  case k2 => k_asm
  case k3 => kso_list
  case k4 => exact Nat.le_of_ble_eq_true rfl
  case k5 => exact Nat.le_of_ble_eq_true rfl
  intro D' e' h' F' N' l1
  have l2 : ∀ q ∈ led, @LT.lt Nat _ q.1 D' := fun q hq => l1 q (List.mem_cons_of_mem _ (List.mem_cons_of_mem _ (List.mem_cons_of_mem _ (List.mem_cons_of_mem _ (hq)))))
  k_lt l1
  clear N N0
  kat_kinds
  k_steps
  exact h D' _ _ _ (by assumption) (news_sub (by assumption) (List.forall_mem_cons.mpr ⟨List.mem_cons_self .., fun q hq => List.mem_cons_of_mem _ (List.mem_cons_of_mem _ (List.mem_cons_of_mem _ (List.mem_cons_of_mem _ (List.mem_cons_of_mem _ (hq)))))⟩)) l2
theorem lsr_321 {w : World} {A : Around} {Q : Value → Shared → Prop} {E : Value → Shared → Prop} {s : Shared} {h₀ : Heap} {L : Addr} {m : Str → Option Value} {led : Led} {B : Addr} {c : Nat} {a1 : Addr} {t1 u1 : Tok} {m1 : Int} {n1 : Nat} {a2 : Addr} {t2 u2 : Tok} {m2 : Int} {n2 : Nat} {a3 : Addr} {t3 u3 : Tok} {m3 : Int} {n3 : Nat} (X : (hd.heap_1 w.params).In h₀) (F : Fr h₀ L s.heap m) (N0 : News h₀ L s.heap ((B, PySem.W.listOf #[.ref a1, .ref a2, .ref a3] c) :: led)) (hne : ∀ q ∈ led, @LT.lt Nat _ q.1 B) (h1 : (a1, ({ cls := .type "tuple", data := .seq #[.int 3 t1, .int m1 u1] n1 } : Obj)) ∈ led) (h2 : (a2, ({ cls := .type "tuple", data := .seq #[.int 2 t2, .int m2 u2] n2 } : Obj)) ∈ led) (h3 : (a3, ({ cls := .type "tuple", data := .seq #[.int 1 t3, .int m3 u3] n3 } : Obj)) ∈ led)
   (h : ∀ c' h' tk', Fr h₀ L h' m → News h₀ L h' ((B, PySem.W.listOf #[.ref a3, .ref a2, .ref a1] c') :: led) → Q .none { s with heap := h', toks := tk' }) :
    wpAny (model PySem.Challenge.rw_xm0751_01.row.prog w) A (call (.builtin "list.sort") [.ref B]) Q E s := by
  revert X
  k_fill
  intro X
  have off : ∀ p ∈ led, p.1 ≠ B := fun p hp e => absurd (hne p hp) (e ▸ Nat.lt_irrefl _)
  have hlt1 : @LT.lt Nat _ a1 B := hne _ h1
  have hlt2 : @LT.lt Nat _ a2 B := hne _ h2
  have hlt3 : @LT.lt Nat _ a3 B := hne _ h3
  have N := news_sub (news := (B, PySem.W.listOf #[.ref a1, .ref a2, .ref a3] c) :: (a1, ({ cls := .type "tuple", data := .seq #[.int 3 t1, .int m1 u1] n1 } : Obj)) :: (a2, ({ cls := .type "tuple", data := .seq #[.int 2 t2, .int m2 u2] n2 } : Obj)) :: (a3, ({ cls := .type "tuple", data := .seq #[.int 1 t3, .int m3 u3] n3 } : Obj)) :: led) N0 (List.forall_mem_cons.mpr ⟨List.mem_cons_self .., List.forall_mem_cons.mpr ⟨List.mem_cons_of_mem _ h1, List.forall_mem_cons.mpr ⟨List.mem_cons_of_mem _ h2, List.forall_mem_cons.mpr ⟨List.mem_cons_of_mem _ h3, fun q hq => List.mem_cons_of_mem _ hq⟩⟩⟩⟩)
  with_unfolding_all refine' kat_lsort ?F ?N ?U ?e ?z ?y ?_
  case F => k_asm
  case N => k_asm
  case U => k_updF
  case e => kso_lit
  case z => exact Nat.le_of_ble_eq_true rfl
  case y => exact Nat.le_of_ble_eq_true rfl
  intro e' h' F' N'
  (try dsimp only at N')
  clear N N0
  kat_kinds
  k_steps
  exact h _ _ _ (by assumption) (news_sub (by assumption) (List.forall_mem_cons.mpr ⟨List.mem_cons_self .., fun q hq => List.mem_cons_of_mem _ (List.mem_cons_of_mem _ (List.mem_cons_of_mem _ (List.mem_cons_of_mem _ (hq))))⟩))
def canon (ps : List (Int × Int)) : List (Int × Int) := ps.filter (fun q => decide (q.1 = 1)) ++ (ps.filter (fun q => decide (q.1 = 2)) ++ ps.filter (fun q => decide (q.1 = 3)))
theorem pair_open {led : Led} {v : Value} {q : Int × Int} (h : DatIn led v (pairDat q)) : ∃ (a : Addr) (t u : Tok) (n : Nat), v = .ref a ∧ (a, ({ cls := .type "tuple", data := .seq #[.int q.1 t, .int q.2 u] n } : Obj)) ∈ led := by
  obtain ⟨a, vs, n, rfl, hm, hr⟩ := din_tuple h
  obtain ⟨v1, r1, rfl, h1, hr⟩ := dall_cons hr
  obtain ⟨v2, r2, rfl, h2, hr⟩ := dall_cons hr
  obtain rfl := dall_nil hr
  obtain ⟨t, rfl⟩ := din_int h1
  obtain ⟨u, rfl⟩ := din_int h2
  exact ⟨_, _, _, _, rfl, hm⟩
def fin123 (i : Int) : _root_.Fin 3 := if i = 1 then 0 else if i = 2 then 1 else 2
theorem fin123_ne {a b : Int} (ha : a = 1 ∨ a = 2 ∨ a = 3) (hb : b = 1 ∨ b = 2 ∨ b = 3) (h : a ≠ b) : fin123 a ≠ fin123 b := by
  rcases ha with rfl | rfl | rfl <;> rcases hb with rfl | rfl | rfl <;> first | exact absurd rfl h | decide
theorem fin_four : ∀ a b c d : _root_.Fin 3, a = b ∨ a = c ∨ a = d ∨ b = c ∨ b = d ∨ c = d := by decide
theorem no4 {a b c d : Int} (ha : a = 1 ∨ a = 2 ∨ a = 3) (hb : b = 1 ∨ b = 2 ∨ b = 3) (hc : c = 1 ∨ c = 2 ∨ c = 3) (hd' : d = 1 ∨ d = 2 ∨ d = 3) (h1 : a ≠ b) (h2 : a ≠ c) (h3 : a ≠ d) (h4 : b ≠ c) (h5 : b ≠ d) (h6 : c ≠ d) : False :=
  (fin_four (fin123 a) (fin123 b) (fin123 c) (fin123 d)).elim (fin123_ne ha hb h1) fun e => e.elim (fin123_ne ha hc h2) fun e => e.elim (fin123_ne ha hd' h3) fun e => e.elim (fin123_ne hb hc h4) fun e => e.elim (fin123_ne hb hd' h5) (fin123_ne hc hd' h6)
theorem len3 {l : List Int} (hn : l.Nodup) (h : ∀ o ∈ l, o = 1 ∨ o = 2 ∨ o = 3) : l.length ≤ 3 := by
  rcases l with _ | ⟨a, _ | ⟨b, _ | ⟨c, _ | ⟨d, r⟩⟩⟩⟩
  · exact Nat.zero_le _
  · exact Nat.succ_le_succ (Nat.zero_le _)
  · exact Nat.succ_le_succ (Nat.succ_le_succ (Nat.zero_le _))
  · exact Nat.le_refl _
  · obtain ⟨n1, hn⟩ := List.nodup_cons.mp hn
    obtain ⟨n2, hn⟩ := List.nodup_cons.mp hn
    obtain ⟨n3, hn⟩ := List.nodup_cons.mp hn
    have ha := h a (List.mem_cons_self ..)
    have hb := h b (List.mem_cons_of_mem _ (List.mem_cons_self ..))
    have hc := h c (List.mem_cons_of_mem _ (List.mem_cons_of_mem _ (List.mem_cons_self ..)))
    have hd' := h d (List.mem_cons_of_mem _ (List.mem_cons_of_mem _ (List.mem_cons_of_mem _ (List.mem_cons_self ..))))
    refine (no4 ha hb hc hd' (fun e => n1 ?_) (fun e => n1 ?_) (fun e => n1 ?_) (fun e => n2 ?_) (fun e => n2 ?_) (fun e => n3 ?_)).elim <;> rw [e]
    · exact List.mem_cons_self ..
    · exact List.mem_cons_of_mem _ (List.mem_cons_self ..)
    · exact List.mem_cons_of_mem _ (List.mem_cons_of_mem _ (List.mem_cons_self ..))
    · exact List.mem_cons_self ..
    · exact List.mem_cons_of_mem _ (List.mem_cons_self ..)
    · exact List.mem_cons_self ..
theorem four_no {q1 q2 q3 q4 : Int × Int} {r : List (Int × Int)} (hnd : ((q1 :: q2 :: q3 :: q4 :: r).map (·.1)).Nodup) (h : ∀ q ∈ q1 :: q2 :: q3 :: q4 :: r, q.1 = 1 ∨ q.1 = 2 ∨ q.1 = 3) : False := by
  have := len3 hnd fun o ho => by
    obtain ⟨q, hq, rfl⟩ := List.mem_map.mp ho
    exact h q hq
  simp only [List.length_map, List.length_cons] at this
  omega
theorem dat_open1 {led : Led} {vs : List Value} {q1 : Int × Int} (h : DatAll led vs (([q1] : List (Int × Int)).map pairDat)) : ∃ v1, vs = [v1] ∧ DatIn led v1 (pairDat q1) := by
  obtain ⟨v1, r1, rfl, d1, h⟩ := dall_cons h
  obtain rfl := dall_nil h
  exact ⟨_, rfl, d1⟩
theorem dat_open2 {led : Led} {vs : List Value} {q1 q2 : Int × Int} (h : DatAll led vs (([q1, q2] : List (Int × Int)).map pairDat)) : ∃ v1 v2, vs = [v1, v2] ∧ DatIn led v1 (pairDat q1) ∧ DatIn led v2 (pairDat q2) := by
  obtain ⟨v1, r1, rfl, d1, h⟩ := dall_cons h
  obtain ⟨v2, r2, rfl, d2, h⟩ := dall_cons h
  obtain rfl := dall_nil h
  exact ⟨_, _, rfl, d1, d2⟩
theorem dat_open3 {led : Led} {vs : List Value} {q1 q2 q3 : Int × Int} (h : DatAll led vs (([q1, q2, q3] : List (Int × Int)).map pairDat)) : ∃ v1 v2 v3, vs = [v1, v2, v3] ∧ DatIn led v1 (pairDat q1) ∧ DatIn led v2 (pairDat q2) ∧ DatIn led v3 (pairDat q3) := by
  obtain ⟨v1, r1, rfl, d1, h⟩ := dall_cons h
  obtain ⟨v2, r2, rfl, d2, h⟩ := dall_cons h
  obtain ⟨v3, r3, rfl, d3, h⟩ := dall_cons h
  obtain rfl := dall_nil h
  exact ⟨_, _, _, rfl, d1, d2, d3⟩
theorem sorted_pairs {w : World} {A : Around} {Q : Value → Shared → Prop} {E : Value → Shared → Prop} {s : Shared} {h₀ : Heap} {L : Addr} {m : Str → Option Value} {led : Led} {l : Addr} {c : Nat} {vs : List Value} {ps : List (Int × Int)} (X : (hd.heap_1 w.params).In h₀) (F : Fr h₀ L s.heap m) (N0 : News h₀ L s.heap led) (hl : (l, PySem.W.listOf vs.toArray c) ∈ led) (hv : DatAll led vs (ps.map pairDat)) (hnd : (ps.map (·.1)).Nodup) (h123 : ∀ q ∈ ps, q.1 = 1 ∨ q.1 = 2 ∨ q.1 = 3)
    (h : ∀ D vs' c' h' tk', Fr h₀ L h' m → News h₀ L h' ((D, PySem.W.listOf (List.toArray vs') c') :: led) → (∀ q ∈ led, @LT.lt Nat _ q.1 D) → DatAll led vs' ((canon ps).map pairDat) → Q (.ref D) { s with heap := h', toks := tk' }) :
    wpAny (model PySem.Challenge.rw_xm0751_01.row.prog w) A (call (.builtin "sorted") [.ref l]) Q E s := by
  rcases ps with _ | ⟨q1, _ | ⟨q2, _ | ⟨q3, _ | ⟨q4, r⟩⟩⟩⟩
  · cases hv
    refine sorted_short (by simp) F N0 (News.isList N0 hl) fun D e h' F' N' l' => h D _ e h' s.toks F' N' l' ?_
    exact .nil
  · obtain ⟨v1, rfl, d1⟩ := dat_open1 hv
    obtain ⟨o1, x1⟩ := q1
    have e1 := h123 _ (by simp only [List.mem_cons, true_or, or_true] : (o1, x1) ∈ _)
    dsimp only at e1
    refine sorted_short (by simp) F N0 (News.isList N0 hl) fun D e h' F' N' l' => h D _ e h' s.toks F' N' l' ?_
    rcases e1 with rfl | rfl | rfl
    all_goals exact .cons d1 .nil
  · obtain ⟨v1, v2, rfl, d1, d2⟩ := dat_open2 hv
    obtain ⟨o1, x1⟩ := q1
    have e1 := h123 _ (by simp only [List.mem_cons, true_or, or_true] : (o1, x1) ∈ _)
    dsimp only at e1
    obtain ⟨o2, x2⟩ := q2
    have e2 := h123 _ (by simp only [List.mem_cons, true_or, or_true] : (o2, x2) ∈ _)
    dsimp only at e2
    obtain ⟨a1, t1, u1, n1, rfl, m1⟩ := pair_open d1
    dsimp only at m1
    obtain ⟨a2, t2, u2, n2, rfl, m2⟩ := pair_open d2
    dsimp only at m2
    rcases e1 with rfl | rfl | rfl <;> rcases e2 with rfl | rfl | rfl
    · exact absurd hnd (by simp)
    · exact srt_12 X F N0 hl m1 m2 (fun D c' h' tk' F' N' l' => h D [.ref a1, .ref a2] c' h' tk' F' N' l' (.cons d1 (.cons d2 (.nil))))
    · exact srt_13 X F N0 hl m1 m2 (fun D c' h' tk' F' N' l' => h D [.ref a1, .ref a2] c' h' tk' F' N' l' (.cons d1 (.cons d2 (.nil))))
    · exact srt_21 X F N0 hl m1 m2 (fun D c' h' tk' F' N' l' => h D [.ref a2, .ref a1] c' h' tk' F' N' l' (.cons d2 (.cons d1 (.nil))))
    · exact absurd hnd (by simp)
    · exact srt_23 X F N0 hl m1 m2 (fun D c' h' tk' F' N' l' => h D [.ref a1, .ref a2] c' h' tk' F' N' l' (.cons d1 (.cons d2 (.nil))))
    · exact srt_31 X F N0 hl m1 m2 (fun D c' h' tk' F' N' l' => h D [.ref a2, .ref a1] c' h' tk' F' N' l' (.cons d2 (.cons d1 (.nil))))
    · exact srt_32 X F N0 hl m1 m2 (fun D c' h' tk' F' N' l' => h D [.ref a2, .ref a1] c' h' tk' F' N' l' (.cons d2 (.cons d1 (.nil))))
    · exact absurd hnd (by simp)
  · obtain ⟨v1, v2, v3, rfl, d1, d2, d3⟩ := dat_open3 hv
    obtain ⟨o1, x1⟩ := q1
    have e1 := h123 _ (by simp only [List.mem_cons, true_or, or_true] : (o1, x1) ∈ _)
    dsimp only at e1
    obtain ⟨o2, x2⟩ := q2
    have e2 := h123 _ (by simp only [List.mem_cons, true_or, or_true] : (o2, x2) ∈ _)
    dsimp only at e2
    obtain ⟨o3, x3⟩ := q3
    have e3 := h123 _ (by simp only [List.mem_cons, true_or, or_true] : (o3, x3) ∈ _)
    dsimp only at e3
    obtain ⟨a1, t1, u1, n1, rfl, m1⟩ := pair_open d1
    dsimp only at m1
    obtain ⟨a2, t2, u2, n2, rfl, m2⟩ := pair_open d2
    dsimp only at m2
    obtain ⟨a3, t3, u3, n3, rfl, m3⟩ := pair_open d3
    dsimp only at m3
    rcases e1 with rfl | rfl | rfl <;> rcases e2 with rfl | rfl | rfl <;> rcases e3 with rfl | rfl | rfl
    · exact absurd hnd (by simp)
    · exact absurd hnd (by simp)
    · exact absurd hnd (by simp)
    · exact absurd hnd (by simp)
    · exact absurd hnd (by simp)
    · exact srt_123 X F N0 hl m1 m2 m3 (fun D c' h' tk' F' N' l' => h D [.ref a1, .ref a2, .ref a3] c' h' tk' F' N' l' (.cons d1 (.cons d2 (.cons d3 (.nil)))))
    · exact absurd hnd (by simp)
    · exact srt_132 X F N0 hl m1 m2 m3 (fun D c' h' tk' F' N' l' => h D [.ref a1, .ref a3, .ref a2] c' h' tk' F' N' l' (.cons d1 (.cons d3 (.cons d2 (.nil)))))
    · exact absurd hnd (by simp)
    · exact absurd hnd (by simp)
    · exact absurd hnd (by simp)
    · exact srt_213 X F N0 hl m1 m2 m3 (fun D c' h' tk' F' N' l' => h D [.ref a2, .ref a1, .ref a3] c' h' tk' F' N' l' (.cons d2 (.cons d1 (.cons d3 (.nil)))))
    · exact absurd hnd (by simp)
    · exact absurd hnd (by simp)
    · exact absurd hnd (by simp)
    · exact srt_231 X F N0 hl m1 m2 m3 (fun D c' h' tk' F' N' l' => h D [.ref a3, .ref a1, .ref a2] c' h' tk' F' N' l' (.cons d3 (.cons d1 (.cons d2 (.nil)))))
    · exact absurd hnd (by simp)
    · exact absurd hnd (by simp)
    · exact absurd hnd (by simp)
    · exact srt_312 X F N0 hl m1 m2 m3 (fun D c' h' tk' F' N' l' => h D [.ref a2, .ref a3, .ref a1] c' h' tk' F' N' l' (.cons d2 (.cons d3 (.cons d1 (.nil)))))
    · exact absurd hnd (by simp)
    · exact srt_321 X F N0 hl m1 m2 m3 (fun D c' h' tk' F' N' l' => h D [.ref a3, .ref a2, .ref a1] c' h' tk' F' N' l' (.cons d3 (.cons d2 (.cons d1 (.nil)))))
    · exact absurd hnd (by simp)
    · exact absurd hnd (by simp)
    · exact absurd hnd (by simp)
    · exact absurd hnd (by simp)
    · exact absurd hnd (by simp)
  · exact (four_no hnd h123).elim
theorem lsort_pairs {w : World} {A : Around} {Q : Value → Shared → Prop} {E : Value → Shared → Prop} {s : Shared} {h₀ : Heap} {L : Addr} {m : Str → Option Value} {led : Led} {B : Addr} {c : Nat} {vs : List Value} {ps : List (Int × Int)} (X : (hd.heap_1 w.params).In h₀) (F : Fr h₀ L s.heap m) (N0 : News h₀ L s.heap ((B, PySem.W.listOf vs.toArray c) :: led)) (hne : ∀ q ∈ led, @LT.lt Nat _ q.1 B) (hv : DatAll led vs (ps.map pairDat)) (hnd : (ps.map (·.1)).Nodup) (h123 : ∀ q ∈ ps, q.1 = 1 ∨ q.1 = 2 ∨ q.1 = 3)
    (h : ∀ vs' c' h' tk', Fr h₀ L h' m → News h₀ L h' ((B, PySem.W.listOf (List.toArray vs') c') :: led) → DatAll led vs' ((canon ps).map pairDat) → Q .none { s with heap := h', toks := tk' }) :
    wpAny (model PySem.Challenge.rw_xm0751_01.row.prog w) A (call (.builtin "list.sort") [.ref B]) Q E s := by
  rcases ps with _ | ⟨q1, _ | ⟨q2, _ | ⟨q3, _ | ⟨q4, r⟩⟩⟩⟩
  · cases hv
    refine lsort_short (by simp) F N0 (fun q hq e => absurd (hne q hq) (e ▸ Nat.lt_irrefl _)) fun e h' F' N' => h _ e h' s.toks F' N' ?_
    exact .nil
  · obtain ⟨v1, rfl, d1⟩ := dat_open1 hv
    obtain ⟨o1, x1⟩ := q1
    have e1 := h123 _ (by simp only [List.mem_cons, true_or, or_true] : (o1, x1) ∈ _)
    dsimp only at e1
    refine lsort_short (by simp) F N0 (fun q hq e => absurd (hne q hq) (e ▸ Nat.lt_irrefl _)) fun e h' F' N' => h _ e h' s.toks F' N' ?_
    rcases e1 with rfl | rfl | rfl
    all_goals exact .cons d1 .nil
  · obtain ⟨v1, v2, rfl, d1, d2⟩ := dat_open2 hv
    obtain ⟨o1, x1⟩ := q1
    have e1 := h123 _ (by simp only [List.mem_cons, true_or, or_true] : (o1, x1) ∈ _)
    dsimp only at e1
    obtain ⟨o2, x2⟩ := q2
    have e2 := h123 _ (by simp only [List.mem_cons, true_or, or_true] : (o2, x2) ∈ _)
    dsimp only at e2
    obtain ⟨a1, t1, u1, n1, rfl, m1⟩ := pair_open d1
    dsimp only at m1
    obtain ⟨a2, t2, u2, n2, rfl, m2⟩ := pair_open d2
    dsimp only at m2
    rcases e1 with rfl | rfl | rfl <;> rcases e2 with rfl | rfl | rfl
    · exact absurd hnd (by simp)
    · exact lsr_12 X F N0 hne m1 m2 (fun c' h' tk' F' N' => h [.ref a1, .ref a2] c' h' tk' F' N' (.cons d1 (.cons d2 (.nil))))
    · exact lsr_13 X F N0 hne m1 m2 (fun c' h' tk' F' N' => h [.ref a1, .ref a2] c' h' tk' F' N' (.cons d1 (.cons d2 (.nil))))
    · exact lsr_21 X F N0 hne m1 m2 (fun c' h' tk' F' N' => h [.ref a2, .ref a1] c' h' tk' F' N' (.cons d2 (.cons d1 (.nil))))
    · exact absurd hnd (by simp)
    · exact lsr_23 X F N0 hne m1 m2 (fun c' h' tk' F' N' => h [.ref a1, .ref a2] c' h' tk' F' N' (.cons d1 (.cons d2 (.nil))))
    · exact lsr_31 X F N0 hne m1 m2 (fun c' h' tk' F' N' => h [.ref a2, .ref a1] c' h' tk' F' N' (.cons d2 (.cons d1 (.nil))))
    · exact lsr_32 X F N0 hne m1 m2 (fun c' h' tk' F' N' => h [.ref a2, .ref a1] c' h' tk' F' N' (.cons d2 (.cons d1 (.nil))))
    · exact absurd hnd (by simp)
  · obtain ⟨v1, v2, v3, rfl, d1, d2, d3⟩ := dat_open3 hv
    obtain ⟨o1, x1⟩ := q1
    have e1 := h123 _ (by simp only [List.mem_cons, true_or, or_true] : (o1, x1) ∈ _)
    dsimp only at e1
    obtain ⟨o2, x2⟩ := q2
    have e2 := h123 _ (by simp only [List.mem_cons, true_or, or_true] : (o2, x2) ∈ _)
    dsimp only at e2
    obtain ⟨o3, x3⟩ := q3
    have e3 := h123 _ (by simp only [List.mem_cons, true_or, or_true] : (o3, x3) ∈ _)
    dsimp only at e3
    obtain ⟨a1, t1, u1, n1, rfl, m1⟩ := pair_open d1
    dsimp only at m1
    obtain ⟨a2, t2, u2, n2, rfl, m2⟩ := pair_open d2
    dsimp only at m2
    obtain ⟨a3, t3, u3, n3, rfl, m3⟩ := pair_open d3
    dsimp only at m3
    rcases e1 with rfl | rfl | rfl <;> rcases e2 with rfl | rfl | rfl <;> rcases e3 with rfl | rfl | rfl
    · exact absurd hnd (by simp)
    · exact absurd hnd (by simp)
    · exact absurd hnd (by simp)
    · exact absurd hnd (by simp)
    · exact absurd hnd (by simp)
    · exact lsr_123 X F N0 hne m1 m2 m3 (fun c' h' tk' F' N' => h [.ref a1, .ref a2, .ref a3] c' h' tk' F' N' (.cons d1 (.cons d2 (.cons d3 (.nil)))))
    · exact absurd hnd (by simp)
    · exact lsr_132 X F N0 hne m1 m2 m3 (fun c' h' tk' F' N' => h [.ref a1, .ref a3, .ref a2] c' h' tk' F' N' (.cons d1 (.cons d3 (.cons d2 (.nil)))))
    · exact absurd hnd (by simp)
    · exact absurd hnd (by simp)
    · exact absurd hnd (by simp)
    · exact lsr_213 X F N0 hne m1 m2 m3 (fun c' h' tk' F' N' => h [.ref a2, .ref a1, .ref a3] c' h' tk' F' N' (.cons d2 (.cons d1 (.cons d3 (.nil)))))
    · exact absurd hnd (by simp)
    · exact absurd hnd (by simp)
    · exact absurd hnd (by simp)
    · exact lsr_231 X F N0 hne m1 m2 m3 (fun c' h' tk' F' N' => h [.ref a3, .ref a1, .ref a2] c' h' tk' F' N' (.cons d3 (.cons d1 (.cons d2 (.nil)))))
    · exact absurd hnd (by simp)
    · exact absurd hnd (by simp)
    · exact absurd hnd (by simp)
    · exact lsr_312 X F N0 hne m1 m2 m3 (fun c' h' tk' F' N' => h [.ref a2, .ref a3, .ref a1] c' h' tk' F' N' (.cons d2 (.cons d3 (.cons d1 (.nil)))))
    · exact absurd hnd (by simp)
    · exact lsr_321 X F N0 hne m1 m2 m3 (fun c' h' tk' F' N' => h [.ref a3, .ref a2, .ref a1] c' h' tk' F' N' (.cons d3 (.cons d2 (.cons d1 (.nil)))))
    · exact absurd hnd (by simp)
    · exact absurd hnd (by simp)
    · exact absurd hnd (by simp)
    · exact absurd hnd (by simp)
    · exact absurd hnd (by simp)
  · exact (four_no hnd h123).elim
end
end Mine

namespace Mine
section
local macro_rules | `(tactic| walk_at "unused 0") => `(tactic| fail)
open PySem PySem.W PyProof.Rows
set_option maxRecDepth 100000
set_option maxHeartbeats 4000000
def intOf : Value → Int
  | .int m _ => m
  | _ => 0
def datInt : Dat → Int
  | .int m => m
  | _ => 0
def pairsKV (kv : KV) : List (Int × Int) := kv.map fun q => (q.1, intOf q.2)
theorem kdx_all {lo : Addr} {news : Led} {C : List Value → Led → Prop} : ∀ (kvs : KV) (vs : List Value) (tups : Led) (ds : List Dat), (∀ q ∈ kvs, ∃ m u, q.2 = .int m u) → DatAll (tups ++ news) vs ds → (∀ q ∈ tups, lo < q.1) →
    (∀ vs' tups', DatAll (tups' ++ news) vs' (ds ++ (pairsKV kvs).map pairDat) → (∀ q ∈ tups', lo < q.1) → C vs' tups') → KdxOpen lo news (kvs.map (fun p => (kyVal (PyData.int p.1), p.2))) vs tups C
  | [], vs, tups, ds, _, hd, hlo, hC => KdxOpen.nil (hC vs tups (by simpa [pairsKV] using hd) hlo)
  | q :: r, vs, tups, ds, hv, hd, hlo, hC => KdxOpen.cons fun a t h1 h2 h3 => by
    obtain ⟨m, u, hq⟩ := hv q (List.mem_cons_self ..)
    refine kdx_all r _ _ (ds ++ [pairDat (q.1, intOf q.2)]) (fun q' hq' => hv q' (List.mem_cons_of_mem _ hq')) ?_ (fun p hp => ?_) (fun vs' tups' h' => hC vs' tups' (by simpa [pairsKV] using h'))
    · refine datall_snoc (hd.mono fun p hp => List.mem_cons_of_mem _ hp) ?_
      refine .tuple (vs := [kyVal (PyData.int q.1) t, q.2]) (List.mem_cons_self ..) (.cons (.int _ _) (.cons ?_ .nil))
      rw [hq]
      exact .int _ _
    · rcases List.mem_cons.mp hp with rfl | hp
      · exact h1
      · exact hlo p hp
theorem filt_le {k : Int} : ∀ {ps : List (Int × Int)}, (ps.map (·.1)).Nodup → (ps.filter fun q => decide (q.1 = k)).length ≤ 1
  | [], _ => by simp
  | q :: r, h => by
    simp only [List.map_cons, List.nodup_cons] at h
    by_cases hq : q.1 = k
    · have : r.filter (fun q => decide (q.1 = k)) = [] := by
        rw [List.filter_eq_nil_iff]
        intro x hx
        simp only [decide_eq_true_eq]
        intro e
        exact h.1 (List.mem_map.mpr ⟨x, hx, e.trans hq.symm⟩)
      rw [List.filter_cons_of_pos (by simpa using hq), this]
      simp
    · rw [List.filter_cons_of_neg (by simpa using hq)]
      exact filt_le h.2
theorem perm_short {α : Type} : ∀ {a b : List α}, a.Perm b → a.length ≤ 1 → a = b
  | [], b, h, _ => (h.nil_eq)
  | [x], b, h, _ => by
    have := h.symm
    exact (List.perm_singleton.mp this).symm
  | _ :: _ :: _, _, _, h => by simp at h
theorem canon_perm {ps qs : List (Int × Int)} (h : ps.Perm qs) (hn : (ps.map (·.1)).Nodup) : canon ps = canon qs := by
  unfold canon
  rw [perm_short (h.filter (fun q => decide (q.1 = 1))) (filt_le hn), perm_short (h.filter (fun q => decide (q.1 = 2))) (filt_le hn), perm_short (h.filter (fun q => decide (q.1 = 3))) (filt_le hn)]
theorem pairs_ok {ps : List (Int × Int)} : kqdOk 8 (.list (ps.map pairDat)) = true := by
  simp [kqdOk, pairDat]
end
end Mine

namespace Mine
section
open PySem PySem.W PyProof.Rows
set_option maxRecDepth 100000
set_option maxHeartbeats 4000000
theorem pool_spec (w : World) (l : Addr) (vs : List Value) (ns : List Int) (hI : IntsAre vs ns) (hlen : ns.length ≤ 63) (k : Int) (tk0 : Tok) (hk0 : 0 ≤ k) (hk1 : k < 64) (news : Led) :
  ∀ (mean : ExcName → Option Value) (mg mb : Str → Option Value) (dp un : Nat) (gd : Option (List Code)) (cn : Str) (cs : Scope) (a : Addr) (ccd : Value) (cl : List (Str × Addr)) (outer : List Env) (A₀ : Around) (base h₀ : Heap) (L : Addr) (m : Str → Option Value) (s : Shared) (Q E : Value → Shared → Prop),
    Below A₀ base outer h₀ → Fr h₀ L s.heap m → (hd.heap_1 w.params).In h₀ → News h₀ L s.heap news → Top Mine.view (looseW Mine.view [Str.ofString "LockTable"]) mean mg mb h₀ → h₀.IsList l vs.toArray → cs.kind = .function →
    dp + 2 < recursionLimit → un + 20 < cLine →
    (∀ D x y t1 t2 c h' tk', 0 ≤ x → 0 ≤ y → y < 2147483647 → (∀ p ∈ news, p.1 ≠ D) → Fr h₀ L h' m → News h₀ L h' ((D, PySem.W.listOf #[.int x t1, .int y t2] c) :: news) → Q (.ref D) { s with heap := h', toks := tk' }) →
    wpAny (model PySem.Challenge.rw_xm0751_01.row.prog w) (ktrTop dp un gd cn cs L a ccd cl outer) (call (.ref 195) [.ref l, .int k tk0]) Q E s := by
  k_fill
  intro mean mg mb dp un gd cn cs ca ccd cl outer A₀ base h₀ L m s Q E B F X N T hL hk hdp hu hret
  refine wpAny_call ?_
  k_dflt cell_enter
  rename Fr h₀ _ _ _ => FG9
  have hLg := hL.at fun o e => FG9.keep _ o e
  k_steps
  all_goals
    rename_i l1 _ _ _ _
    refine hret _ _ _ _ _ _ _ _ ?_ ?_ ?_ (fun p hp => Nat.ne_of_lt (l1 p hp)) (by assumption) (by assumption)
    · exact Int.mul_nonneg (by split <;> omega) (by repeat (first | omega | split))
    · exact fmod_lo _ (by decide)
    · exact fmod_hi _ (by decide)
end
end Mine

namespace Mine
section
open PySem PySem.W PyProof.Rows
set_option maxRecDepth 100000
set_option maxHeartbeats 4000000
open LCg LCt
local macro_rules | `(tactic| walk_at "getMethod ref") => `(tactic| (k_here; k_dflt (refine' method_inst ?k1 ?k2 ?k3 ?k4 ?k5 ?k6 ?k7 ?_; (case k1 => k_asm); (case k2 => k_asm); (case k3 => k_inst); (case k4 => k_is); (case k5 => k_is); (case k6 => k_is); (case k7 => k_get); k_whole)))
local macro_rules | `(tactic| walk_at "getMethod ref") => `(tactic| (k_here; first
  | ((with_reducible show wpAny _ _ (getMethod (Value.ref _) (PySem.Str.ofString "get") _) _ _ _); refine gm_dict PySem.F.slot_dict_get PySem.F.type_dict_get (by k_asm) (by repeat (first | assumption | exact In1.isD (by assumption) | refine IsD.cons ?_)) ?_)
  | ((with_reducible show wpAny _ _ (getMethod (Value.ref _) (PySem.Str.ofString "pop") _) _ _ _); refine gm_dict PySem.F.slot_dict_pop PySem.F.type_dict_pop (by k_asm) (by repeat (first | assumption | exact In1.isD (by assumption) | refine IsD.cons ?_)) ?_)
  | ((with_reducible show wpAny _ _ (getMethod (Value.ref _) (PySem.Str.ofString "setdefault") _) _ _ _); refine gm_dict PySem.F.slot_dict_setdefault PySem.F.type_dict_setdefault (by k_asm) (by repeat (first | assumption | exact In1.isD (by assumption) | refine IsD.cons ?_)) ?_)
  | ((with_reducible show wpAny _ _ (getMethod (Value.ref _) (PySem.Str.ofString "items") _) _ _ _); refine gm_dict PySem.F.slot_dict_items PySem.F.type_dict_items (by k_asm) (by repeat (first | assumption | exact In1.isD (by assumption) | refine IsD.cons ?_)) ?_)))
local macro_rules | `(tactic| k_mem) => `(tactic| first | ktr_member | exact List.mem_cons_self .. | (refine' List.mem_cons_of_mem _ ?_; k_mem))
local macro_rules | `(tactic| walk_at "subscriptTail Name Slice ref ref") => `(tactic| (k_here; (with_reducible show wpAny _ _ (subscriptTail _ (Expr.Slice none (some _) none _) (Value.ref _) (Value.ref _)) _ _ _); k_dflt (refine' cut3 ?F ?N ?t ?_ ?s ?g; (case F => k_asm); (case N => k_asm); (case t => k_mem); (case s => with_unfolding_all rfl); (case g => (intro _; with_unfolding_all rfl)); k_whole); intro D' h' F' N' l1; (try k_lt l1)))
local macro_rules | `(tactic| walk_at "compareOp NotEq ref ref") => `(tactic| (k_here; k_dflt (refine' (cmp3 ?N ?ma ?mb ?mk ?ml ?o5 ?o6 ?o1 ?o2 ?o3 ?o4 ?hu).2 ?_; (case N => k_asm); (case ma => k_mem); (case mb => k_mem); (case mk => k_mem); (case ml => k_mem); (case o5 => (first | assumption | rfl | decide +kernel)); (case o6 => (first | assumption | rfl | decide +kernel)); (case o1 => (first | assumption | rfl | decide +kernel)); (case o2 => (first | assumption | rfl | decide +kernel)); (case o3 => (first | assumption | rfl | decide +kernel)); (case o4 => (first | assumption | rfl | decide +kernel)); (case hu => ktr_units); k_whole)))
local macro_rules | `(tactic| walk_at "compareOp Eq ref ref") => `(tactic| (k_here; k_dflt (refine' (cmp3 ?N ?ma ?mb ?mk ?ml ?o5 ?o6 ?o1 ?o2 ?o3 ?o4 ?hu).1 ?_; (case N => k_asm); (case ma => k_mem); (case mb => k_mem); (case mk => k_mem); (case ml => k_mem); (case o5 => (first | assumption | rfl | decide +kernel)); (case o6 => (first | assumption | rfl | decide +kernel)); (case o1 => (first | assumption | rfl | decide +kernel)); (case o2 => (first | assumption | rfl | decide +kernel)); (case o3 => (first | assumption | rfl | decide +kernel)); (case o4 => (first | assumption | rfl | decide +kernel)); (case hu => ktr_units); k_whole)))
local macro_rules | `(tactic| walk_at "compareOp Eq ref ref") => `(tactic| (k_here; k_dflt (refine' cmp2 ?N ?ma ?mb ?o1 ?o2 ?o3 ?o4 ?hu ?_; (case N => k_asm); (case ma => k_mem); (case mb => k_mem); (case o1 => (first | assumption | rfl | decide +kernel)); (case o2 => (first | assumption | rfl | decide +kernel)); (case o3 => (first | assumption | rfl | decide +kernel)); (case o4 => (first | assumption | rfl | decide +kernel)); (case hu => ktr_units); k_whole)))
local macro_rules | `(tactic| walk_at "call ref") => `(tactic| (k_here; (first | (with_reducible show wpAny _ _ (call (Value.ref 160) _ _) _ _ _) | (with_reducible show wpAny _ _ (call (Value.ref 174) _ _) _ _ _) | (with_reducible show wpAny _ _ (call (Value.ref 74) _ _) _ _ _)); refine Halt.out ?_))
local macro_rules | `(tactic| walk_at "CompSrcT") => `(tactic| (k_here; refine Halt.out ?_))
local macro_rules | `(tactic| walk_at "pyIter ref") => `(tactic| (k_here; refine Halt.out ?_))
local macro_rules | `(tactic| walk_at "call builtin:sorted") => `(tactic| (k_here; refine Halt.out ?_))
local macro_rules | `(tactic| walk_at "setItem ref int") => `(tactic| (k_here; refine Halt.out ?_))
local macro_rules | `(tactic| walk_at "compareOp In int ref") => `(tactic| (k_here; refine Halt.out ?_))
local macro_rules | `(tactic| walk_at "compareOp NotEq ref ref") => `(tactic| (k_here; refine Halt.out ?_))
local macro_rules | `(tactic| k_all) => `(tactic| assumption)
def IsCell (o : Obj) : Prop := ∃ x, o.data = .cell x
theorem two_str {a b : Str} {ta tb : Tok} {i : Nat} {v : Value} (h : [Value.str a ta, Value.str b tb][i]? = some v) : ∃ x tx, v = .str x tx ∧ (x = a ∨ x = b) := by
  match i with
  | 0 => cases h; exact ⟨_, _, rfl, .inl rfl⟩
  | 1 => cases h; exact ⟨_, _, rfl, .inr rfl⟩
  | n + 2 => simp at h
theorem off_own {own led₁ : Led} {T1 c : Addr} {o : Obj} {news : Led} (hown : ∀ q ∈ own, q.1 = T1 ∨ ∀ r ∈ led₁, r.1 ≠ q.1) (hc : (c, o) ∈ led₁) (hT : @LT.lt Nat _ c T1) (hn : ∀ p ∈ news, @LT.lt Nat _ p.1 c) : ∀ p ∈ own ++ news, p.1 ≠ c := fun p hp e => by
  rcases List.mem_append.mp hp with h | h
  · rcases hown p h with h1 | h1
    · rw [h1] at e; exact absurd hT (e ▸ Nat.lt_irrefl _)
    · exact h1 _ hc e.symm
  · exact absurd (hn p h) (e ▸ Nat.lt_irrefl _)
theorem dat_ints {led : Led} : ∀ {ys : List Value} {rs : List Row}, DatAll led ys (rs.map fun r => Dat.int r.o) → IntsAre ys (rs.map (·.o))
  | _, [], h => by cases h; exact .nil
  | _, r :: rs, h => by
    cases h with
    | cons h1 h2 => cases h1; exact .cons _ _ (dat_ints h2)
theorem ints_dat {led : Led} : ∀ {ys : List Value} {ns : List Int}, IntsAre ys ns → DatAll led ys (ns.map Dat.int)
  | _, _, .nil => .nil
  | _, _, .cons _ _ h => .cons (.int _ _) (ints_dat h)
theorem off_own' {own led₁ : Led} {T1 c : Addr} {o : Obj} {news : Led} (hb : ∀ p ∈ news, p.1 ≠ c) (hown : ∀ q ∈ own, q.1 = T1 ∨ ∀ r ∈ led₁, r.1 ≠ q.1) (hc : (c, o) ∈ led₁) (hT : @LT.lt Nat _ c T1) : ∀ p ∈ own ++ news, p.1 ≠ c := fun p hp e => by
  rcases List.mem_append.mp hp with h | h
  · rcases hown p h with h1 | h1
    · rw [h1] at e; exact absurd hT (e ▸ Nat.lt_irrefl _)
    · exact h1 _ hc e.symm
  · exact hb p h e
theorem rows_ok {rs : List Row} (h : ∀ r ∈ rs, RowOk r ∧ r.val = .int 1) : kqdOk 8 (.list (rs.map rowDat)) = true := by
  simp only [kqdOk, List.all_map, List.all_eq_true]
  intro r hr
  obtain ⟨⟨h1, h2, h3⟩, h4⟩ := h r hr
  simp [rowDat, kqdOk, h1, h2, h3, h4]
theorem three_int {ta tb tc : Tok} {i : Nat} {v : Value} (h : [Value.int 1 ta, Value.int 2 tb, Value.int 3 tc][i]? = some v) : ∃ o to, v = .int o to ∧ (o = 1 ∨ o = 2 ∨ o = 3) := by
  match i with
  | 0 => cases h; exact ⟨_, _, rfl, .inl rfl⟩
  | 1 => cases h; exact ⟨_, _, rfl, .inr (.inl rfl)⟩
  | 2 => cases h; exact ⟨_, _, rfl, .inr (.inr rfl)⟩
  | n + 3 => simp at h
theorem right_spec (w : World) (t : Addr) (news : Led) (p : Parts) (n : Nat) (TT : Tab PySem.Challenge.rw_xm0751_01.row.prog w news t p n) (hn : n ≤ 1000) (H : Addr) (vs : List Value) (c : Nat) (rows : List Row) (hH : (H, PySem.W.listOf vs.toArray c) ∈ news) (hR : DatAll news vs (rows.map rowDat)) (hsz : vs.length ≤ 1000) (hok : ∀ r ∈ rows, RowOk r)
    (hS : ∀ x y, (x = Str.ofString "a" ∨ x = Str.ofString "b") → (y = Str.ofString "write" ∨ y = Str.ofString "checkpoint") → ((p.view (.s [x, y])).map (·.1)).Perm ((rows.filter (keyIs · x y)).map (·.o)) ∧ (p.view (.s [x, y])).length ≤ 3)
    (hM : ∀ x, (x = Str.ofString "a" ∨ x = Str.ofString "b") → (∀ q ∈ p.view (.m x), ∃ m u, q.2 = .int m u) ∧ (∀ q ∈ p.view (.m x), q.1 = 1 ∨ q.1 = 2 ∨ q.1 = 3) ∧ (pairsKV (p.view (.m x))).Perm ((rows.filter (keyIs · x (Str.ofString "mark"))).map fun r => (r.o, datInt r.val)) ∧ ∀ r ∈ rows, keyIs r x (Str.ofString "mark") = true → ∃ i, r.val = .int i)
    (hL : ∀ x o, (x = Str.ofString "a" ∨ x = Str.ofString "b") → (o = 1 ∨ o = 2 ∨ o = 3) → (((rows.filter (isRow · (Str.ofString "level") o x (Str.ofString "level"))).isEmpty = false ∧ ∃ tk, valueAt (p.view (.l x)) o = some (.int 1 tk)) ∨ ((rows.filter (isRow · (Str.ofString "level") o x (Str.ofString "level"))).isEmpty = true ∧ valueAt (p.view (.l x)) o = none)))
    (hLv : ∀ r ∈ rows, r.word = Str.ofString "level" → r.val = .int 1) :
    Spec 20 w 231 [.ref t, .ref H] news (fun v news' => (∀ q ∈ news, q ∈ news') ∧ v = .bool true) := by
  unfold Spec
  k_fill
  intro mean mg mb dp un gd cn cs ca ccd cl outer A₀ base h₀ L m s Q E B F X N T hk' hdp hu hret
  refine wpAny_call ?_
  k_dflt (refine' code_defC ?k1 ?k2 ?k3 ?k4 ?k5 ?kA ?kF ?kK ?k6 ?k7 ?k8 ?k9 ?kB ?kD ?_ ?c2 ?c3 ?c4; (case kA => exact rfl); (case kF => exact rfl); (case kK => first | assumption | exact rfl); (case k1 => k_asm); (case k2 => k_asm); (case k3 => k_asm); (case k4 => k_asm); (case k5 => k_asm); (case k6 => k_is); (case k7 => k_is); (case k8 => ktr_room); (case k9 => first | exact BindsTo.of_eq rfl | exact binds_K (by k_in) rfl (by k_is) rfl rfl rfl); (case kB => exact rfl); (case kD => decide +kernel); (case c2 => exact rfl); (case c3 => exact rfl); (case c4 => exact rfl); k_whole; intro g' L' h' tk' cells' FG' F' N' Y' B' X' T' l1; k_cells Y'; (try simp only [List.cons_append, List.nil_append] at N'); (try dsimp only); (try k_lift B'); (try k_fold))
  k_steps
  refine Halt.mk ?_
  rename_i o3 o2 o1 d3 d2 d1 T1 hT FT NT lT
  refine loop_tup (vs := [.str (Str.ofString "a") _, .str (Str.ofString "b") _]) (led0 := (L' + 1 + 1 + 1, o3) :: (L' + 1 + 1, o2) :: (L' + 1, o1) :: news) (fun i m led₁ => (m (Str.ofString "table") = some (.ref t) ∧ m (Str.ofString "held") = some (.ref H)) ∧ ∃ o1 o2 o3, led₁ = (L' + 1 + 1 + 1, o3) :: (L' + 1 + 1, o2) :: (L' + 1, o1) :: news ∧ IsCell o1 ∧ IsCell o2 ∧ IsCell o3)
    rfl FT NT (List.mem_cons_self ..) (fun q hq => List.mem_cons_of_mem _ hq) ⟨⟨rfl, rfl⟩, o1, o2, o3, rfl, ⟨_, d1⟩, ⟨_, d2⟩, ⟨_, d3⟩⟩ ?_ ?_
  · intro i v m₁ h tk own led₁ hv hJ hown F5 N5
    obtain ⟨⟨e1, e2⟩, p1, p2, p3, rfl, ⟨x1, c1⟩, ⟨x2, c2⟩, ⟨x3, c3⟩⟩ := hJ
    obtain ⟨x, tx, rfl, hxab⟩ := two_str hv
    have off1 := off_own (c := L' + 1) (news := news) hown (List.mem_cons_of_mem _ (List.mem_cons_of_mem _ (List.mem_cons_self ..))) lT.2.2.1 (fun p hp => Nat.lt_succ_of_lt (l1 p hp))
    have off2 := off_own (c := L' + 1 + 1) (news := news) hown (List.mem_cons_of_mem _ (List.mem_cons_self ..)) lT.2.1 (fun p hp => Nat.lt_succ_of_lt (Nat.lt_succ_of_lt (l1 p hp)))
    have off3 := off_own (c := L' + 1 + 1 + 1) (news := news) hown (List.mem_cons_self ..) lT.1 (fun p hp => Nat.lt_succ_of_lt (Nat.lt_succ_of_lt (Nat.lt_succ_of_lt (l1 p hp))))
    have N6 := news_sub (news := (L' + 1 + 1 + 1, p3) :: (L' + 1 + 1, p2) :: (L' + 1, p1) :: (own ++ news)) N5 (fun q hq => by simp only [List.mem_cons, List.mem_append] at hq ⊢; rcases hq with h | h | h | h | h <;> simp [h])
    have F6 := fr_name (fr_name F5 e1) (x := Str.ofString "held") (v := .ref H) (by show (if _ then _ else _) = _; rw [if_neg (by decide)]; exact e2)
    clear N5 F5
    k_steps
    refine Halt.mk ?_
    rename_i hA o1' d1' T2 hT2 FT2 NT2 lT2
    obtain ⟨nb, hnb⟩ : ∃ nb, nb = own ++ news := ⟨_, rfl⟩
    rw [← hnb] at off1 off2 off3 NT2 lT2 N6
    have upb : ∀ q ∈ news, q ∈ nb := fun q hq => by rw [hnb]; exact List.mem_append_right _ hq
    refine loop_tup (vs := [.str (Str.ofString "write") _, .str (Str.ofString "checkpoint") _]) (led0 := (L' + 1 + 1 + 1, p3) :: (L' + 1 + 1, p2) :: (L' + 1, o1') :: nb) (fun i m led₁ => (m (Str.ofString "table") = some (.ref t) ∧ m (Str.ofString "held") = some (.ref H)) ∧ ∃ o2 o3, led₁ = (L' + 1 + 1 + 1, o3) :: (L' + 1 + 1, o2) :: (L' + 1, o1') :: nb ∧ IsCell o2 ∧ IsCell o3)
      rfl FT2 NT2 (List.mem_cons_self ..) (fun q hq => List.mem_cons_of_mem _ hq) ⟨⟨rfl, rfl⟩, p2, p3, rfl, ⟨_, c2⟩, ⟨_, c3⟩⟩ ?_ ?_
    · intro j v2 m₂ h2 tk2 own2 led₂ hv2 hJ2 hown2 F7 N7
      obtain ⟨⟨e3, e4⟩, q2, q3, rfl, ⟨y2, c4⟩, ⟨y3, c5⟩⟩ := hJ2
      obtain ⟨y, ty, rfl, hyws⟩ := two_str hv2
      have off4 := off_own' (news := nb) off1 hown2 (c := L' + 1) (List.mem_cons_of_mem _ (List.mem_cons_of_mem _ (List.mem_cons_self ..))) lT2.2.2.1
      have off5 := off_own' (news := nb) off2 hown2 (c := L' + 1 + 1) (List.mem_cons_of_mem _ (List.mem_cons_self ..)) lT2.2.1
      have off6 := off_own' (news := nb) off3 hown2 (c := L' + 1 + 1 + 1) (List.mem_cons_self ..) lT2.1
      have N8 := news_sub (news := (L' + 1 + 1 + 1, q3) :: (L' + 1 + 1, q2) :: (L' + 1, o1') :: (own2 ++ nb)) N7 (fun q hq => by simp only [List.mem_cons, List.mem_append] at hq ⊢; rcases hq with h | h | h | h | h <;> simp [h])
      obtain ⟨nc, hnc⟩ : ∃ nc, nc = own2 ++ nb := ⟨_, rfl⟩
      rw [← hnc] at off4 off5 off6 N8
      have upc : ∀ q ∈ news, q ∈ nc := fun q hq => by rw [hnc]; exact List.mem_append_right _ (upb q hq)
      have hin1 := upc _ TT.inst
      have hin2 := upc _ TT.attrs
      have F8 := fr_name (fr_name F7 e3) (x := Str.ofString "held") (v := .ref H) (by show (if _ then _ else _) = _; rw [if_neg (by decide)]; exact e4)
      clear N7 F7
      k_steps
      refine Halt.mk ?_
      rename_i hB o2n FB NB d2n
      rename News _ _ _ _ => N10
      refine Spec.use (holders_spec w t _ p n (TT.up (fun q hq => List.mem_cons_of_mem _ (List.mem_cons_of_mem _ (List.mem_cons_of_mem _ (upc q hq))))) hn x y tx ty) (by assumption) (by assumption) (by assumption) N10 (fun q hq => hq) (by assumption) rfl (by ktr_room) (by ktr_units) ?_
      rintro v3 h3 tk3 news3 ⟨D3, vs3, cc3, e5, e6, hI3⟩ F9 N9
      rw [e5]
      rw [e6] at N9
      k_steps
      refine Halt.mk ?_
      obtain ⟨hS1, hS2⟩ := hS x y hxab hyws
      refine kso_sorted (by assumption) N9 (News.isList N9 (List.mem_cons_self ..)) hI3 (by rw [List.length_map]; omega) ?_
      intro D4 vs4 ns4 cc4 h4 F10 N11 l4 hI4 hl4 hp4 hs4 _
      k_steps
      refine Halt.mk ?_
      have okx : PyData.strOk x = true := by rcases hxab with rfl | rfl <;> decide +kernel
      have oky : PyData.strOk y = true := by rcases hyws with rfl | rfl <;> decide +kernel
      have hRl := datall_len hR
      refine LCt.CompSrcT.ledger (by rfl) (by k_asm) (by k_asm) (List.mem_cons_of_mem _ (List.mem_cons_of_mem _ (List.mem_cons_of_mem _ (List.mem_cons_of_mem _ (List.mem_cons_of_mem _ (upc _ hH)))))) (by rw [List.size_toArray, sizeLine_eq]; omega) ?_
      intro g9
      refine rest_ind (fun i ys led₁ => (∀ q ∈ _, q ∈ led₁) ∧ DatAll led₁ ys (((rows.take i).filter (keyIs · x y)).map fun r => Dat.int r.o)) ?_ ?_ _ 0 [] _ (Nat.zero_add _) ⟨fun q hq => hq, .nil⟩
      · intro i ys led₁ v I oI C oC D m₂ h tk E' G hi hinv hG0 hG1 hv hC hx F5 N5 off ne
        obtain ⟨dr, hdr, hdv⟩ := datall_get hR (i := i) (by simpa using hv)
        rw [List.getElem?_map] at hdr
        obtain ⟨r, hri, rfl⟩ := Option.map_eq_some_iff.mp hdr
        obtain ⟨ra, rk, t1, t2, t3, t4, rv, n1, n2, rfl, hra, hrk, hrv⟩ := row_open hdv
        have upc2 : ∀ q ∈ nc, q ∈ led₁ := fun q hq => hinv.1 q (List.mem_cons_of_mem _ (List.mem_cons_of_mem _ (List.mem_cons_of_mem _ (List.mem_cons_of_mem _ (List.mem_cons_of_mem _ hq)))))
        have up : ∀ q ∈ news, q ∈ led₁ := fun q hq => upc2 q (upc q hq)
        obtain ⟨ok1, ok2, ok3⟩ := hok r (List.mem_of_getElem? hri)
        have hra1 := up _ hra
        have hrk1 := up _ hrk
        have hc1 := hinv.1 _ (List.mem_cons_of_mem _ (List.mem_cons_of_mem _ (List.mem_cons_self ..)))
        have hc2 := hinv.1 _ (List.mem_cons_of_mem _ (List.mem_cons_of_mem _ (List.mem_cons_of_mem _ (List.mem_cons_self ..))))
        have hc3 := hinv.1 _ (List.mem_cons_of_mem _ (List.mem_cons_of_mem _ (List.mem_cons_of_mem _ (List.mem_cons_of_mem _ (List.mem_cons_self ..)))))
        k_steps
        · rename_i ht
          refine CompEnd.intro (by assumption) (by assumption) led₁ (fun p hp => by repeat (first | exact hp | exact List.mem_append_right _ hp | refine List.mem_cons_of_mem _ ?_)) off (.inr ⟨_, up _ hH, rfl, _, rfl⟩) (hG1 _ led₁ ⟨hinv.1, ?_⟩)
          rw [filt_take hri (by exact ht), List.map_append]
          exact datall_snoc hinv.2 (.int _ _)
        · rename_i ht
          refine CompEnd.intro (by assumption) (by assumption) led₁ (fun p hp => by repeat (first | exact hp | exact List.mem_append_right _ hp | refine List.mem_cons_of_mem _ ?_)) off (.inr ⟨_, up _ hH, rfl, _, rfl⟩) (hG0 led₁ ⟨hinv.1, ?_⟩)
          rw [filt_skip hri (by exact ht)]
          exact hinv.2
      · intro ys led₂ hinv2
        have hlen : vs.toArray.size = rows.length := by rw [List.size_toArray, hRl, List.length_map]
        rw [hlen, List.take_length] at hinv2
        obtain ⟨hup, hinv3⟩ := hinv2
        have hi5 := dat_ints hinv3
        have hD4 := hup _ (List.mem_cons_self ..)
        clear N9 N11
        k_steps
        refine Halt.mk ?_
        rename News _ _ _ _ => N12
        refine kso_sorted (by assumption) N12 (News.isList N12 (List.mem_cons_self ..)) hi5 (by rw [← hS1.length_eq, List.length_map]; omega) ?_
        intro D6 vs6 ns6 cc6 h6 F13 N13 l6 hI6 hl6 hp6 hs6 _
        have hsame : ns4 = ns6 := lks_uniq (hp4.trans (hS1.trans hp6.symm)) hs4 hs6
        subst hsame
        k_steps
        refine Halt.mk ?_
        refine (dat_cmp N13 (da := .list (ns4.map .int)) (db := .list (ns4.map .int)) (.list (List.mem_cons_of_mem _ (List.mem_cons_of_mem _ hD4)) (ints_dat hI4)) (.list (List.mem_cons_self ..) (ints_dat hI6)) (by simp [kqdOk]) (by simp [kqdOk]) (by ktr_units) true (by simp)).2 ?_
        k_steps
        refine TupE.mk (led' := (L' + 1 + 1 + 1, q3) :: (L' + 1 + 1, o2n) :: (L' + 1, o1') :: nb) (by assumption) (news_sub (by assumption) (fun q hq => List.mem_cons_of_mem _ (List.mem_cons_of_mem _ (hup q (List.mem_cons_of_mem _ (List.mem_cons_of_mem _ ?_)))))) (fun a ha => ?_) ⟨⟨rfl, rfl⟩, o2n, q3, rfl, ⟨_, d2n⟩, ⟨_, c5⟩⟩
        · rw [hnc]
          simp only [List.mem_append, List.mem_cons] at hq ⊢
          rcases hq with h | h | h | h | h <;> simp [h]
        · obtain ⟨o, ho⟩ := ha
          simp only [List.mem_cons, Prod.mk.injEq] at ho
          rcases ho with ⟨h, _⟩ | ⟨h, _⟩ | ⟨h, _⟩ | h
          · exact ⟨q3, by simp [h]⟩
          · exact ⟨q2, by simp [h]⟩
          · exact ⟨o1', by simp [h]⟩
          · exact ⟨o, by simp [h]⟩
    · intro m₂ h2 tk2 led₂ hJ2 F7 N7
      obtain ⟨⟨e3, e4⟩, q2, q3, rfl, ⟨y2, c4⟩, ⟨y3, c5⟩⟩ := hJ2
      have F8 := fr_name (fr_name F7 e3) (x := Str.ofString "held") (v := .ref H) (by show (if _ then _ else _) = _; rw [if_neg (by decide)]; exact e4)
      clear F7
      have hin1 := upb _ TT.inst
      have hin2 := upb _ TT.attrs
      k_steps
      refine Halt.mk ?_
      refine Spec.use (marks_spec w t _ p n (TT.up (fun q hq => List.mem_cons_of_mem _ (List.mem_cons_of_mem _ (List.mem_cons_of_mem _ (upb q hq))))) hn x tx) (by assumption) (by assumption) (by assumption) N7 (fun q hq => hq) (by assumption) rfl (by ktr_room) (by ktr_units) ?_
      rintro v3 h3 tk3 news3 ⟨D3, o3d, e5, e6, hd3, lo3, l3⟩ F9 N9
      rw [e5]
      rw [e6] at N9
      k_steps
      refine Halt.mk ?_
      rename News _ _ _ _ => N10
      rename_i hC FC tkC DV hD9 FD lD
      obtain ⟨hM1, hM2, hM3, hM4⟩ := hM x hxab
      have okx : PyData.strOk x = true := by rcases hxab with rfl | rfl <;> decide +kernel
      have hRl := datall_len hR
      have hkn : ((p.view (.m x)).map (·.1)).Nodup := let ⟨_, _, _, _, _, _, h⟩ := hd3; h
      have hpn : ((pairsKV (p.view (.m x))).map (·.1)).Nodup := by unfold pairsKV; rw [List.map_map]; exact hkn
      have hp123 : ∀ q ∈ pairsKV (p.view (.m x)), q.1 = 1 ∨ q.1 = 2 ∨ q.1 = 3 := by
        intro q hq
        obtain ⟨q', hq', rfl⟩ := List.mem_map.mp hq
        exact hM2 q' hq'
      refine kdx_sortedN (knd := intKind _ _) (enc := PyData.int) rfl (by assumption) N10 (List.mem_cons_self ..) (List.mem_cons_of_mem _ (List.mem_cons_self ..)) hd3 (Nat.le_trans (TT.len_view _) (Nat.le_trans hn (by decide))) (fun k v hk => by obtain ⟨t, rfl⟩ := Value.isInt_shape hk; exact ⟨t, rfl⟩) rfl ?_
      intro lo hlo
      refine kdx_all _ [] [] [] hM1 .nil (fun q hq => by simp at hq) ?_
      intro vs4 tups hda htl B4 h4 tk4 hB4 F10 N11
      refine lsort_pairs (by assumption) F10 N11 hB4 hda hpn hp123 ?_
      intro vs5 cc5 h5 tk5 F12 N12 hda5
      k_steps
      refine Halt.mk ?_
      obtain ⟨nd, hnd⟩ : ∃ nd, nd = tups ++ (DV, ({ cls := .type "dict_items", data := .fields #[.ref D3] } : Obj)) :: (D3, o3d) :: (L' + 1 + 1 + 1, q3) :: (L' + 1 + 1, q2) :: (L' + 1, o1') :: nb := ⟨_, rfl⟩
      have ndr : ∀ q ∈ (D3, o3d) :: (L' + 1 + 1 + 1, q3) :: (L' + 1 + 1, q2) :: (L' + 1, o1') :: nb, q ∈ nd := fun q hq => by rw [hnd]; exact List.mem_append_right _ (List.mem_cons_of_mem _ hq)
      rw [← hnd] at N12 hda5
      clear hnd N11 N10 htl hda
      have upd : ∀ q ∈ news, q ∈ nd := fun q hq => ndr q (List.mem_cons_of_mem _ (List.mem_cons_of_mem _ (List.mem_cons_of_mem _ (List.mem_cons_of_mem _ (upb q hq)))))
      have hcd1 : (L' + 1, o1') ∈ nd := ndr _ (by simp only [List.mem_cons, true_or, or_true])
      refine LCt.CompSrcT.ledger (by rfl) (by k_asm) (by k_asm) (List.mem_cons_of_mem _ (upd _ hH)) (by rw [List.size_toArray, sizeLine_eq]; omega) ?_
      intro g9
      refine rest_ind (fun i ys led₁ => (∀ q ∈ _, q ∈ led₁) ∧ DatAll led₁ ys (((rows.take i).filter (keyIs · x (Str.ofString "mark"))).map fun r => pairDat (r.o, datInt r.val))) ?_ ?_ _ 0 [] _ (Nat.zero_add _) ⟨fun q hq => hq, .nil⟩
      · intro i ys led₁ v I oI C oC D m₂ h tk E' G hi hinv hG0 hG1 hv hC hx F5 N5 off ne
        obtain ⟨dr, hdr, hdv⟩ := datall_get hR (i := i) (by simpa using hv)
        rw [List.getElem?_map] at hdr
        obtain ⟨r, hri, rfl⟩ := Option.map_eq_some_iff.mp hdr
        obtain ⟨ra, rk, t1, t2, t3, t4, rv, n1, n2, rfl, hra, hrk, hrv⟩ := row_open hdv
        have upd2 : ∀ q ∈ nd, q ∈ led₁ := fun q hq => hinv.1 q (List.mem_cons_of_mem _ hq)
        have up : ∀ q ∈ news, q ∈ led₁ := fun q hq => upd2 q (upd q hq)
        obtain ⟨ok1, ok2, ok3⟩ := hok r (List.mem_of_getElem? hri)
        have hra1 := up _ hra
        have hrk1 := up _ hrk
        have hc1 := upd2 _ hcd1
        k_steps
        · rename_i ht TV hTV lTV FTV NTV
          obtain ⟨mi, hmi⟩ := hM4 r (List.mem_of_getElem? hri) ht
          have hrv' := hrv
          rw [hmi] at hrv'
          cases hrv'
          refine CompEnd.intro lTV FTV ((TV, _) :: led₁) (List.forall_mem_cons.mpr ⟨.tail _ (.tail _ (.head _)), List.forall_mem_cons.mpr ⟨.tail _ (.tail _ (.tail _ (.head _))), List.forall_mem_cons.mpr ⟨.tail _ (.tail _ (.tail _ (.tail _ (.head _)))), List.forall_mem_cons.mpr ⟨.head _, fun q hq => .tail _ (.tail _ (.tail _ (.tail _ (.tail _ hq))))⟩⟩⟩⟩) ⟨⟨Nat.ne_of_gt NTV.2.1, Nat.ne_of_gt NTV.2.2.1, Nat.ne_of_gt NTV.2.2.2.1⟩, off⟩ (.inr ⟨_, List.mem_cons_of_mem _ (up _ hH), rfl, _, rfl⟩) (hG1 _ _ ⟨fun q hq => List.mem_cons_of_mem _ (hinv.1 q hq), ?_⟩)
          rw [filt_take hri (by exact ht), List.map_append]
          refine datall_snoc (hinv.2.mono fun q hq => List.mem_cons_of_mem _ hq) (.tuple (List.mem_cons_self ..) (.cons (.int _ _) (.cons ?_ .nil)))
          show DatIn _ _ (.int (datInt r.val))
          rw [hmi]
          exact .int _ _
        · rename_i ht
          refine CompEnd.intro (by assumption) (by assumption) led₁ (fun p hp => by repeat (first | exact hp | exact List.mem_append_right _ hp | refine List.mem_cons_of_mem _ ?_)) off (.inr ⟨_, up _ hH, rfl, _, rfl⟩) (hG0 led₁ ⟨hinv.1, ?_⟩)
          rw [filt_skip hri (by exact ht)]
          exact hinv.2
      · intro ys led₂ hinv2
        have hlen : vs.toArray.size = rows.length := by rw [List.size_toArray, hRl, List.length_map]
        rw [hlen, List.take_length] at hinv2
        obtain ⟨hup, hinv3⟩ := hinv2
        have hD4 := hup _ (List.mem_cons_self ..)
        clear N12
        k_steps
        refine Halt.mk ?_
        rename News _ _ _ _ => N13
        have hq9 : (List.filter (keyIs · x (Str.ofString "mark")) rows).map (fun r => pairDat (r.o, datInt r.val)) = (((List.filter (keyIs · x (Str.ofString "mark")) rows).map fun r => (r.o, datInt r.val))).map pairDat := by rw [List.map_map]; rfl
        rw [hq9] at hinv3
        refine sorted_pairs (by assumption) (by assumption) N13 (List.mem_cons_self ..) (hinv3.mono fun q hq => List.mem_cons_of_mem _ hq) ((hM3.map (·.1)).nodup_iff.mp hpn) (fun q hq => hp123 q (hM3.mem_iff.mpr hq)) ?_
        intro D6 vs6 cc6 h6 tk6 F14 N14 l6 hda6
        rw [← canon_perm hM3 hpn] at hda6
        k_steps
        refine Halt.mk ?_
        refine (dat_cmp N14 (da := .list ((canon (pairsKV (p.view (Key.m x)))).map pairDat)) (db := .list ((canon (pairsKV (p.view (Key.m x)))).map pairDat)) (.list (List.mem_cons_of_mem _ (List.mem_cons_of_mem _ hD4)) (hda5.mono fun q hq => List.mem_cons_of_mem _ (List.mem_cons_of_mem _ (hup q (List.mem_cons_of_mem _ hq))))) (.list (List.mem_cons_self ..) (hda6.mono fun q hq => List.mem_cons_of_mem _ hq)) pairs_ok pairs_ok (by ktr_units) true (by simp)).2 ?_
        have N15 := news_sub (news := (D3, o3d) :: (L' + 1 + 1 + 1, q3) :: (L' + 1 + 1, q2) :: (L' + 1, o1') :: nb) N14 (fun q hq => List.mem_cons_of_mem _ (List.mem_cons_of_mem _ (hup q (List.mem_cons_of_mem _ (ndr q hq)))))
        clear N14 N13
        k_steps
        refine Halt.mk ?_
        have hd15 := Heap.dictOf_iff.mpr ⟨o3d, (N15 _ (List.mem_cons_self ..)).1, hd3⟩
        refine wpAny_setItem_pairs (knd := intKind _ _) (intKind_is _ _ _ _) hd15 (fun h7 hd7 hs7 => ?_) (Nat.le_trans (TT.len_view _) (Nat.le_trans hn (by decide)))
        have F16 := fr_put F14 N15 (List.mem_cons_self ..) hs7
        have N16 : News g' L' h7 ((L' + 1 + 1 + 1, q3) :: (L' + 1 + 1, q2) :: (L' + 1, o1') :: nb) := fun q hq => ⟨(hs7.2 q.1 (Nat.ne_of_lt (l3 q hq))).trans (N15 q (List.mem_cons_of_mem _ hq)).1, (N15 q (List.mem_cons_of_mem _ hq)).2⟩
        clear N15 F14
        k_steps
        refine Halt.mk ?_
        refine Spec.use (marks_spec w t _ p n (TT.up (fun q hq => List.mem_cons_of_mem _ (List.mem_cons_of_mem _ (List.mem_cons_of_mem _ (upb q hq))))) hn x tx) (by assumption) (by assumption) (by assumption) N16 (fun q hq => hq) (by assumption) rfl (by ktr_room) (by ktr_units) ?_
        rintro v8 h8 tk8 news8 ⟨D8, o8d, e8, e9, hd8, lo8, l8⟩ F17 N17
        rw [e8]
        rw [e9] at N17
        k_steps
        refine Halt.mk ?_
        have hd17 := Heap.dictOf_iff.mpr ⟨o8d, (N17 _ (List.mem_cons_self ..)).1, hd8⟩
        refine wpAny_in_of (knd := intKind _ _) (intKind_is _ _ _ _) lo8 hd17.mapOf ?_
        have h9n : valueAt (p.view (Key.m x)) 9 = none := valueAt_none_of_not_mem fun hm => by
          obtain ⟨q, hq, e⟩ := List.mem_map.mp hm
          rcases hM2 q hq with h | h | h <;> rw [e] at h <;> exact absurd h (by decide)
        rw [h9n]
        dsimp only [Option.isSome]
        k_steps
        refine Halt.mk ?_
        rename_i T3 hT3 FT3 NT3 lT3
        refine loop_tup (vs := [.int 1 _, .int 2 _, .int 3 _]) (led0 := (L' + 1 + 1 + 1, q3) :: (L' + 1 + 1, q2) :: (L' + 1, o1') :: nb) (fun i m led₁ => (m (Str.ofString "table") = some (.ref t) ∧ m (Str.ofString "held") = some (.ref H)) ∧ ∃ o3, led₁ = (L' + 1 + 1 + 1, o3) :: (L' + 1 + 1, q2) :: (L' + 1, o1') :: nb ∧ IsCell o3)
          rfl FT3 NT3 (List.mem_cons_self ..) (fun q hq => List.mem_cons_of_mem _ (List.mem_cons_of_mem _ hq)) ⟨⟨rfl, rfl⟩, q3, rfl, ⟨_, c5⟩⟩ ?_ ?_
        · intro j v9 m₃ h9 tk9 own3 led₃ hv9 hJ3 hown3 F7 N7
          obtain ⟨⟨e3, e4⟩, r3, rfl, ⟨y4, c6⟩⟩ := hJ3
          obtain ⟨ow, tow, rfl, ho123⟩ := three_int hv9
          have off4 := off_own' (news := nb) off1 hown3 (c := L' + 1) (List.mem_cons_of_mem _ (List.mem_cons_of_mem _ (List.mem_cons_self ..))) lT3.2.2.2.1
          have off5 := off_own' (news := nb) off2 hown3 (c := L' + 1 + 1) (List.mem_cons_of_mem _ (List.mem_cons_self ..)) lT3.2.2.1
          have off6 := off_own' (news := nb) off3 hown3 (c := L' + 1 + 1 + 1) (List.mem_cons_self ..) lT3.2.1
          have N8 := news_sub (news := (L' + 1 + 1 + 1, r3) :: (L' + 1 + 1, q2) :: (L' + 1, o1') :: (own3 ++ nb)) N7 (fun q hq => by simp only [List.mem_cons, List.mem_append] at hq ⊢; rcases hq with h | h | h | h | h <;> simp [h])
          obtain ⟨nc, hnc⟩ : ∃ nc, nc = own3 ++ nb := ⟨_, rfl⟩
          rw [← hnc] at off4 off5 off6 N8
          have upc : ∀ q ∈ news, q ∈ nc := fun q hq => by rw [hnc]; exact List.mem_append_right _ (upb q hq)
          have hin3 := upc _ TT.inst
          have hin4 := upc _ TT.attrs
          have F8 := fr_name (fr_name F7 e3) (x := Str.ofString "held") (v := .ref H) (by show (if _ then _ else _) = _; rw [if_neg (by decide)]; exact e4)
          clear N7 F7 NT3
          k_steps
          refine Halt.mk ?_
          rename_i hE9 oE FE9 NE9 dE
          refine LCt.CompSrcT.ledger (by rfl) (by k_asm) (by k_asm) (List.mem_cons_of_mem _ (List.mem_cons_of_mem _ (List.mem_cons_of_mem _ (upc _ hH)))) (by rw [List.size_toArray, sizeLine_eq]; omega) ?_
          intro g9
          refine rest_ind (fun i ys led₁ => (∀ q ∈ _, q ∈ led₁) ∧ DatAll led₁ ys (((rows.take i).filter (isRow · (Str.ofString "level") ow x (Str.ofString "level"))).map rowDat)) ?_ ?_ _ 0 [] _ (Nat.zero_add _) ⟨fun q hq => hq, .nil⟩
          · intro i ys led₁ v I oI C oC D m₂ h tk E' G hi hinv hG0 hG1 hv hC hx F5 N5 off ne
            obtain ⟨dr, hdr, hdv⟩ := datall_get hR (i := i) (by simpa using hv)
            rw [List.getElem?_map] at hdr
            obtain ⟨r, hri, rfl⟩ := Option.map_eq_some_iff.mp hdr
            obtain ⟨ra, rk, t1, t2, t3, t4, rv, n1, n2, rfl, hra, hrk, hrv⟩ := row_open hdv
            have upc2 : ∀ q ∈ nc, q ∈ led₁ := fun q hq => hinv.1 q (List.mem_cons_of_mem _ (List.mem_cons_of_mem _ (List.mem_cons_of_mem _ hq)))
            have up : ∀ q ∈ news, q ∈ led₁ := fun q hq => upc2 q (upc q hq)
            obtain ⟨ok1, ok2, ok3⟩ := hok r (List.mem_of_getElem? hri)
            have hra1 := up _ hra
            have hrk1 := up _ hrk
            have hc1 := hinv.1 _ (List.mem_cons_self ..)
            have hc3 := hinv.1 _ (List.mem_cons_of_mem _ (List.mem_cons_of_mem _ (List.mem_cons_self ..)))
            k_steps
            · rename_i ht
              refine CompEnd.intro (by assumption) (by assumption) led₁ (fun p hp => by repeat (first | exact hp | exact List.mem_append_right _ hp | refine List.mem_cons_of_mem _ ?_)) off (.inr ⟨_, up _ hH, rfl, _, rfl⟩) (hG1 _ led₁ ⟨hinv.1, ?_⟩)
              rw [filt_take hri (by exact ht), List.map_append]
              exact datall_snoc hinv.2 (dat_mono up hdv)
            · rename_i ht
              refine CompEnd.intro (by assumption) (by assumption) led₁ (fun p hp => by repeat (first | exact hp | exact List.mem_append_right _ hp | refine List.mem_cons_of_mem _ ?_)) off (.inr ⟨_, up _ hH, rfl, _, rfl⟩) (hG0 led₁ ⟨hinv.1, ?_⟩)
              rw [filt_skip hri (by exact ht)]
              exact hinv.2
          · intro ys led₂ hinv2
            have hlen : vs.toArray.size = rows.length := by rw [List.size_toArray, hRl, List.length_map]
            rw [hlen, List.take_length] at hinv2
            obtain ⟨hup, hinv3⟩ := hinv2
            have hc1 := hup _ (List.mem_cons_self ..)
            have hc3 := hup _ (List.mem_cons_of_mem _ (List.mem_cons_of_mem _ (List.mem_cons_self ..)))
            have hin5 := hup _ (List.mem_cons_of_mem _ (List.mem_cons_of_mem _ (List.mem_cons_of_mem _ hin3)))
            have hin6 := hup _ (List.mem_cons_of_mem _ (List.mem_cons_of_mem _ (List.mem_cons_of_mem _ hin4)))
            clear NE9
            k_steps
            first | refine Halt.mk ?_ | skip
            rename News _ _ _ _ => N21
            have hro : kqdOk 8 (.list ((List.filter (isRow · (Str.ofString "level") ow x (Str.ofString "level")) rows).map rowDat)) = true := rows_ok fun r hr => by
              obtain ⟨hr1, hr2⟩ := List.mem_filter.mp hr
              refine ⟨hok r hr1, hLv r hr1 ?_⟩
              simp only [isRow, Bool.and_eq_true, decide_eq_true_eq] at hr2
              exact hr2.1.1
            refine (dat_cmp N21 (da := .list ((List.filter (isRow · (Str.ofString "level") ow x (Str.ofString "level")) rows).map rowDat)) (db := .list []) (.list (vs := ys) (List.mem_cons_of_mem _ (List.mem_cons_self ..)) (hinv3.mono fun q hq => List.mem_cons_of_mem _ (List.mem_cons_of_mem _ hq))) (.list (vs := []) (List.mem_cons_self ..) .nil) hro (by rfl) (by ktr_units) ((List.filter (isRow · (Str.ofString "level") ow x (Str.ofString "level")) rows).isEmpty) (by simp [List.isEmpty_iff])).2 ?_
            rcases hL x ow hxab ho123 with ⟨hE, tkl, hvl⟩ | ⟨hE, hvl⟩
            all_goals
              rw [hE]
              k_steps
              refine Halt.mk ?_
              rename News _ _ _ _ => N22
              refine Spec.use (level_of_spec w t _ p n (TT.up (fun q hq => List.mem_cons_of_mem _ (List.mem_cons_of_mem _ (hup q (List.mem_cons_of_mem _ (List.mem_cons_of_mem _ (List.mem_cons_of_mem _ (upc q hq)))))))) ow tow x tx) (by assumption) (by assumption) (by assumption) N22 (fun q hq => hq) (by assumption) rfl (by ktr_room) (by ktr_units) ?_
              rintro v10 h10 tk10 news10 ⟨e10, e11⟩ F20 N23
              first | (rw [e10, hvl]; rw [e11] at N23) | (rw [e11, hvl]; rw [e10] at N23)
              dsimp only [Option.getD]
              k_steps
              refine TupE.mk (led' := (L' + 1 + 1 + 1, oE) :: (L' + 1 + 1, q2) :: (L' + 1, o1') :: nb) (by assumption) (news_sub (by assumption) (fun q hq => List.mem_cons_of_mem _ (List.mem_cons_of_mem _ (hup q ?_)))) (fun a ha => ?_) ⟨⟨rfl, rfl⟩, oE, rfl, ⟨_, dE⟩⟩
              · rw [hnc]
                simp only [List.mem_append, List.mem_cons] at hq ⊢
                rcases hq with h | h | h | h | h <;> simp [h]
              · obtain ⟨o, ho⟩ := ha
                simp only [List.mem_cons, Prod.mk.injEq] at ho
                rcases ho with ⟨h, _⟩ | ⟨h, _⟩ | ⟨h, _⟩ | h
                · exact ⟨r3, by simp [h]⟩
                · exact ⟨q2, by simp [h]⟩
                · exact ⟨o1', by simp [h]⟩
                · exact ⟨o, by simp [h]⟩
        · intro m₃ h9 tk9 led₃ hJ3 F7 N7
          obtain ⟨⟨e3, e4⟩, r3, rfl, ⟨y4, c6⟩⟩ := hJ3
          have F8 := fr_name (fr_name F7 e3) (x := Str.ofString "held") (v := .ref H) (by show (if _ then _ else _) = _; rw [if_neg (by decide)]; exact e4)
          clear F7
          k_steps
          refine TupE.mk (led' := (L' + 1 + 1 + 1, r3) :: (L' + 1 + 1, q2) :: (L' + 1, o1') :: news) F8 (news_sub N7 (fun q hq => ?_)) (fun a ha => ?_) ⟨⟨rfl, rfl⟩, o1', q2, r3, rfl, ⟨_, d1'⟩, ⟨_, c4⟩, ⟨_, c6⟩⟩
          · rw [hnb]
            simp only [List.mem_append, List.mem_cons] at hq ⊢
            rcases hq with h | h | h | h | h <;> simp [h]
          · obtain ⟨o, ho⟩ := ha
            simp only [List.mem_cons, Prod.mk.injEq] at ho
            rcases ho with ⟨h, _⟩ | ⟨h, _⟩ | ⟨h, _⟩ | h
            · exact ⟨p3, by simp [h]⟩
            · exact ⟨p2, by simp [h]⟩
            · exact ⟨p1, by simp [h]⟩
            · exact ⟨o, by simp [h]⟩
  · intro m₁ h1 tk1 led₁ hJ F5 N5
    obtain ⟨⟨e1, e2⟩, p1, p2, p3, rfl, _⟩ := hJ
    clear NT
    k_steps
    exact hret _ _ _ ((L' + 1 + 1 + 1, p3) :: (L' + 1 + 1, p2) :: (L' + 1, p1) :: news) ⟨fun q hq => List.mem_cons_of_mem _ (List.mem_cons_of_mem _ (List.mem_cons_of_mem _ hq)), rfl⟩ (by assumption) (by assumption)
open PySem PySem.W PyProof.Rows
set_option maxRecDepth 100000
set_option maxHeartbeats 4000000
section
variable {K : Type} [DecidableEq K]
theorem valueAt_stored {kv : List (K × Value)} {o o' : K} {v : Value} : valueAt (stored kv o v) o' = if o' = o then some v else valueAt kv o' := by
  unfold stored
  by_cases h : kv.any (fun q => q.1 = o) = true
  · rw [if_pos h]
    unfold valueAt
    induction kv with
    | nil => simp at h
    | cons q r ih =>
      by_cases hq : q.1 = o
      · by_cases ho : o' = o
        · subst ho; simp [hq]
        · have h1 : ¬ q.1 = o' := fun e => ho (e.symm.trans hq)
          simp only [List.map_cons, hq, if_true, if_neg ho]
          rw [List.find?_cons_of_neg (by simpa using fun e => ho e.symm), List.find?_cons_of_neg (by simpa using h1)]
          by_cases hr : r.any (fun q => q.1 = o) = true
          · rw [ih hr, if_neg ho]
          · have : r.map (fun kv => if kv.1 = o then (kv.1, v) else kv) = r := by
              conv => rhs; rw [← List.map_id r]
              refine List.map_congr_left fun x hx => ?_
              have : ¬ x.1 = o := fun e => hr (List.any_eq_true.mpr ⟨x, hx, by simpa using e⟩)
              simp [this]
            rw [this]
      · have hr : r.any (fun q => q.1 = o) = true := by simpa [hq] using h
        simp only [List.map_cons, if_neg hq]
        by_cases hq' : q.1 = o'
        · have : ¬ o' = o := fun e => hq (hq'.trans e)
          simp [hq', this]
        · rw [List.find?_cons_of_neg (by simpa using hq'), List.find?_cons_of_neg (by simpa using hq')]
          exact ih hr
  · rw [if_neg h]
    have hn : ∀ x ∈ kv, ¬ x.1 = o := fun x hx e => h (List.any_eq_true.mpr ⟨x, hx, by simpa using e⟩)
    unfold valueAt
    rw [List.find?_append]
    by_cases ho : o' = o
    · subst ho
      rw [List.find?_eq_none.mpr (by intro x hx; simpa using hn x hx)]
      simp
    · have h1 : ¬ o = o' := fun e => ho e.symm
      simp [ho, h1]
theorem nodup_stored {kv : List (K × Value)} (h : (kv.map (·.1)).Nodup) (o : K) (v : Value) : ((stored kv o v).map (·.1)).Nodup := by
  unfold stored
  by_cases ha : kv.any (fun q => q.1 = o) = true
  · rw [if_pos ha, List.map_map]
    have : (Prod.fst ∘ fun kv : K × Value => if kv.1 = o then (kv.1, v) else kv) = fun kv : K × Value => kv.1 := by
      funext q
      by_cases hq : q.1 = o <;> simp [hq]
    rw [this]
    exact h
  · rw [if_neg ha, List.map_append]
    refine List.nodup_append.mpr ⟨h, by simp, fun a hm b hb e => ?_⟩
    obtain ⟨x, hx, rfl⟩ := List.mem_map.mp hm
    simp only [List.map_cons, List.map_nil, List.mem_singleton] at hb
    exact ha (List.any_eq_true.mpr ⟨x, hx, by simpa using e.trans hb⟩)
theorem valueAt_without {kv : List (K × Value)} {o o' : K} : valueAt (without kv o) o' = if o' = o then none else valueAt kv o' := by
  unfold without valueAt
  by_cases ho : o' = o
  · subst ho
    rw [if_pos rfl, List.find?_eq_none.mpr]
    · rfl
    · intro x hx
      have := (List.mem_filter.mp hx).2
      simpa using this
  · rw [if_neg ho]
    congr 1
    induction kv with
    | nil => rfl
    | cons q r ih =>
      by_cases hq : q.1 = o
      · rw [List.filter_cons_of_neg (by simpa using hq), ih, List.find?_cons_of_neg (by simpa using fun e : q.1 = o' => ho (e.symm.trans hq))]
      · rw [List.filter_cons_of_pos (by simpa using hq)]
        by_cases hq' : q.1 = o'
        · simp [hq']
        · rw [List.find?_cons_of_neg (by simpa using hq'), List.find?_cons_of_neg (by simpa using hq'), ih]
end
abbrev sSlot : Str := Str.ofString "slot"
abbrev sMark : Str := Str.ofString "mark"
abbrev sLevel : Str := Str.ofString "level"
abbrev sA : Str := Str.ofString "a"
abbrev sB : Str := Str.ofString "b"
abbrev sW : Str := Str.ofString "write"
abbrev sC : Str := Str.ofString "checkpoint"
def datOf : Value → Dat
  | .int m _ => .int m
  | .bool b => .bool b
  | _ => .none
def fnd3 (rows : List Row) (wd : Str) (o : Int) (x y : Str) : Option Dat := (rows.find? (isRow · wd o x y)).map (·.val)
/-- a table's dict and the rows that tell of it -/
def Valid (k : Key) (wd x y : Str) : Prop :=
  (x = sA ∨ x = sB) ∧ ((k = .s [x, y] ∧ wd = sSlot ∧ (y = sW ∨ y = sC)) ∨ (k = .m x ∧ wd = sMark ∧ y = sMark) ∨ (k = .l x ∧ wd = sLevel ∧ y = sLevel))
def ValOk (wd : Str) (d : Dat) : Prop := (wd = sSlot ∧ ∃ b, d = .bool b) ∨ (wd = sMark ∧ ∃ i, d = .int i) ∨ (wd = sLevel ∧ d = .int 1)
structure Agree (view : Key → KV) (rows : List Row) : Prop where
  nd : (rows.map fun r => (r.word, r.o, r.nm, r.sl)).Nodup
  own : ∀ r ∈ rows, r.o = 1 ∨ r.o = 2 ∨ r.o = 3
  wf : ∀ r ∈ rows, (∃ k, Valid k r.word r.nm r.sl) ∧ ValOk r.word r.val
  vnd : ∀ k, ((view k).map (·.1)).Nodup
  eq : ∀ k wd x y, Valid k wd x y → ∀ o, (valueAt (view k) o).map datOf = fnd3 rows wd o x y
theorem isRow_iff {r : Row} {wd : Str} {o : Int} {x y : Str} : isRow r wd o x y = true ↔ r.word = wd ∧ r.o = o ∧ r.nm = x ∧ r.sl = y := by
  simp [isRow, keyIs, and_assoc]
theorem valid_inj {k k' : Key} {wd wd' x x' y y' : Str} (h : Valid k wd x y) (h' : Valid k' wd' x' y') : k = k' ↔ wd = wd' ∧ x = x' ∧ y = y' := by
  obtain ⟨_, h⟩ := h
  obtain ⟨_, h'⟩ := h'
  have e1 : sSlot ≠ sMark := by decide
  have e2 : sSlot ≠ sLevel := by decide
  have e3 : sMark ≠ sLevel := by decide
  rcases h with ⟨rfl, rfl, _⟩ | ⟨rfl, rfl, rfl⟩ | ⟨rfl, rfl, rfl⟩ <;> rcases h' with ⟨rfl, rfl, _⟩ | ⟨rfl, rfl, rfl⟩ | ⟨rfl, rfl, rfl⟩ <;> simp [e1, e2, e3, e1.symm, e2.symm, e3.symm]
theorem find_filter {rows : List Row} {f g : Row → Bool} (h : ∀ r ∈ rows, g r = true → f r = true) : (rows.filter f).find? g = rows.find? g := by
  induction rows with
  | nil => rfl
  | cons r rs ih =>
    have ih' := ih fun r' hr' => h r' (List.mem_cons_of_mem _ hr')
    by_cases hf : f r = true
    · rw [List.filter_cons_of_pos hf]
      by_cases hg : g r = true
      · simp [hg]
      · rw [List.find?_cons_of_neg hg, List.find?_cons_of_neg hg, ih']
    · rw [List.filter_cons_of_neg hf, ih', List.find?_cons_of_neg]
      exact fun hg => hf (h r (List.mem_cons_self ..) hg)
theorem find_none {rows : List Row} {f g : Row → Bool} (h : ∀ r ∈ rows, f r = true → g r = false) : (rows.filter f).find? g = none := by
  rw [List.find?_eq_none]
  intro r hr
  obtain ⟨h1, h2⟩ := List.mem_filter.mp hr
  simp [h r h1 h2]
open PySem PySem.W PyProof.Rows
set_option maxRecDepth 100000
set_option maxHeartbeats 4000000
def one? (wd : Str) (o : Int) (x y : Str) : Dat → List Row
  | .none => []
  | d => [⟨wd, o, x, y, d⟩]
theorem putRows_eq (rows : List Row) (wd : Str) (o : Int) (x y : Str) (d : Dat) : putRows rows wd o x y d = rows.filter (fun r => !isRow r wd o x y) ++ one? wd o x y d := by
  unfold putRows one?
  cases d <;> rfl
theorem fnd3_same (rows : List Row) (wd : Str) (o : Int) (x y : Str) (d : Dat) : fnd3 (putRows rows wd o x y d) wd o x y = (match d with | .none => none | d => some d) := by
  unfold fnd3
  rw [putRows_eq, List.find?_append, find_none (fun r _ h => by simpa using h)]
  cases d <;> simp [one?, isRow, keyIs]
theorem fnd3_other (rows : List Row) {wd wd' : Str} {o o' : Int} {x x' y y' : Str} (d : Dat) (h : ¬ (wd = wd' ∧ o = o' ∧ x = x' ∧ y = y')) : fnd3 (putRows rows wd o x y d) wd' o' x' y' = fnd3 rows wd' o' x' y' := by
  unfold fnd3
  have h1 : ∀ r : Row, isRow r wd' o' x' y' = true → isRow r wd o x y = false := fun r hr => by
    rw [Bool.eq_false_iff]
    intro h2
    obtain ⟨a1, a2, a3, a4⟩ := isRow_iff.mp hr
    obtain ⟨b1, b2, b3, b4⟩ := isRow_iff.mp h2
    exact h ⟨b1.symm.trans a1, b2.symm.trans a2, b3.symm.trans a3, b4.symm.trans a4⟩
  rw [putRows_eq, List.find?_append, find_filter (fun r _ hr => by simp [h1 r hr])]
  have h2 : (one? wd o x y d).find? (isRow · wd' o' x' y') = none := by
    rw [List.find?_eq_none]
    intro r hr hr'
    have h3 := h1 r hr'
    cases d <;> simp [one?] at hr <;> (subst hr; simp [isRow, keyIs] at h3)
  rw [h2]
  simp
theorem mem_put {rows : List Row} {wd : Str} {o : Int} {x y : Str} {d : Dat} {r : Row} (h : r ∈ putRows rows wd o x y d) : r ∈ rows ∨ (r = ⟨wd, o, x, y, d⟩ ∧ d ≠ .none) := by
  rw [putRows_eq] at h
  rcases List.mem_append.mp h with h | h
  · exact .inl (List.mem_filter.mp h).1
  · right
    cases d <;> simp [one?] at h <;> exact ⟨h, by simp⟩
theorem nd_put {rows : List Row} {wd : Str} {o : Int} {x y : Str} {d : Dat} (h : (rows.map fun r => (r.word, r.o, r.nm, r.sl)).Nodup) : ((putRows rows wd o x y d).map fun r => (r.word, r.o, r.nm, r.sl)).Nodup := by
  rw [putRows_eq, List.map_append]
  refine List.nodup_append.mpr ⟨(List.filter_sublist.map _).nodup h, ?_, ?_⟩
  · cases d <;> simp [one?]
  · intro a ha b hb e
    obtain ⟨r, hr, rfl⟩ := List.mem_map.mp ha
    obtain ⟨r', hr', rfl⟩ := List.mem_map.mp hb
    have h1 : r' = ⟨wd, o, x, y, d⟩ := by cases d <;> simp [one?] at hr' <;> exact hr'
    subst h1
    have h2 := (List.mem_filter.mp hr).2
    simp only [Prod.mk.injEq] at e
    have h3 : isRow r wd o x y = true := isRow_iff.mpr e
    simp [h3] at h2
section
variable {view : Key → KV} {rows : List Row} {k : Key} {wd x y : Str} {o : Int}
theorem valOk_ne {d : Dat} (h : ValOk wd d) : d ≠ .none := by
  rcases h with ⟨_, b, rfl⟩ | ⟨_, i, rfl⟩ | ⟨_, rfl⟩ <;> simp
theorem agree_put (A : Agree view rows) (V : Valid k wd x y) (ho : o = 1 ∨ o = 2 ∨ o = 3) {v : Value} (hv : ValOk wd (datOf v)) : Agree (vset view k (stored (view k) o v)) (putRows rows wd o x y (datOf v)) where
  nd := nd_put A.nd
  own := fun r hr => by
    rcases mem_put hr with h | ⟨rfl, _⟩
    · exact A.own r h
    · exact ho
  wf := fun r hr => by
    rcases mem_put hr with h | ⟨rfl, _⟩
    · exact A.wf r h
    · exact ⟨⟨k, V⟩, hv⟩
  vnd := fun k' => by
    unfold vset
    split
    · exact nodup_stored (A.vnd k) o v
    · exact A.vnd k'
  eq := fun k' wd' x' y' V' o' => by
    unfold vset
    by_cases hk : k' = k
    · subst hk
      obtain ⟨rfl, rfl, rfl⟩ := (valid_inj V V').mp rfl
      rw [if_pos rfl, valueAt_stored]
      by_cases ho' : o' = o
      · subst ho'
        rw [if_pos rfl, fnd3_same]
        have := valOk_ne hv
        cases hd : datOf v <;> simp_all
      · rw [if_neg ho', fnd3_other _ _ (fun h => ho' h.2.1.symm)]
        exact A.eq _ _ _ _ V o'
    · rw [if_neg hk, fnd3_other _ _ (fun h => hk ((valid_inj V' V).mpr ⟨h.1.symm, h.2.2.1.symm, h.2.2.2.symm⟩))]
      exact A.eq _ _ _ _ V' o'
theorem agree_del (A : Agree view rows) (V : Valid k wd x y) (o : Int) : Agree (vset view k (without (view k) o)) (putRows rows wd o x y .none) where
  nd := nd_put A.nd
  own := fun r hr => by
    rcases mem_put hr with h | ⟨_, h⟩
    · exact A.own r h
    · exact absurd rfl h
  wf := fun r hr => by
    rcases mem_put hr with h | ⟨_, h⟩
    · exact A.wf r h
    · exact absurd rfl h
  vnd := fun k' => by
    unfold vset
    split
    · exact nodup_without (A.vnd k) o
    · exact A.vnd k'
  eq := fun k' wd' x' y' V' o' => by
    unfold vset
    by_cases hk : k' = k
    · subst hk
      obtain ⟨rfl, rfl, rfl⟩ := (valid_inj V V').mp rfl
      rw [if_pos rfl, valueAt_without]
      by_cases ho' : o' = o
      · subst ho'
        rw [if_pos rfl, fnd3_same]
        rfl
      · rw [if_neg ho', fnd3_other _ _ (fun h => ho' h.2.1.symm)]
        exact A.eq _ _ _ _ V o'
    · rw [if_neg hk, fnd3_other _ _ (fun h => hk ((valid_inj V' V).mpr ⟨h.1.symm, h.2.2.1.symm, h.2.2.2.symm⟩))]
      exact A.eq _ _ _ _ V' o'
theorem agree_drop (A : Agree view rows) (o : Int) {f : Row → Bool} (hf : ∀ r, f r = true ↔ r.o ≠ o) : Agree (fun k => without (view k) o) (rows.filter f) where
  nd := (List.filter_sublist.map _).nodup A.nd
  own := fun r hr => A.own r (List.mem_filter.mp hr).1
  wf := fun r hr => A.wf r (List.mem_filter.mp hr).1
  vnd := fun k' => nodup_without (A.vnd k') o
  eq := fun k' wd' x' y' V' o' => by
    rw [valueAt_without]
    unfold fnd3
    by_cases ho' : o' = o
    · subst ho'
      rw [if_pos rfl, find_none (fun r _ h => ?_)]
      · rfl
      · rw [Bool.eq_false_iff]
        intro h2
        exact (hf r).mp h (isRow_iff.mp h2).2.1
    · rw [if_neg ho', find_filter (fun r _ h => (hf r).mpr fun e => ho' ((isRow_iff.mp h).2.1.symm.trans e))]
      exact A.eq _ _ _ _ V' o'
theorem agree_nil (h : ∀ k, view k = []) : Agree view [] where
  nd := by simp
  own := fun r hr => by simp at hr
  wf := fun r hr => by simp at hr
  vnd := fun k => by rw [h k]; simp
  eq := fun k' wd' x' y' V' o' => by rw [h k']; rfl
end
open PySem PySem.W PyProof.Rows
set_option maxRecDepth 100000
set_option maxHeartbeats 4000000
theorem fnd3_mem {rows : List Row} {wd : Str} {o : Int} {x y : Str} {d : Dat} (h : fnd3 rows wd o x y = some d) : (⟨wd, o, x, y, d⟩ : Row) ∈ rows := by
  unfold fnd3 at h
  obtain ⟨r, hr, rfl⟩ := Option.map_eq_some_iff.mp h
  have h1 := List.mem_of_find?_eq_some hr
  have h2 := List.find?_some hr
  obtain ⟨a1, a2, a3, a4⟩ := isRow_iff.mp h2
  obtain ⟨w', o', x', y', d'⟩ := r
  dsimp only at a1 a2 a3 a4 ⊢
  subst a1 a2 a3 a4
  exact h1
theorem fnd3_of {rows : List Row} (nd : (rows.map fun r => (r.word, r.o, r.nm, r.sl)).Nodup) {r : Row} (h : r ∈ rows) : fnd3 rows r.word r.o r.nm r.sl = some r.val := by
  unfold fnd3
  induction rows with
  | nil => simp at h
  | cons q rs ih =>
    simp only [List.map_cons, List.nodup_cons] at nd
    by_cases hq : isRow q r.word r.o r.nm r.sl = true
    · rw [List.find?_cons_of_pos (p := fun x => isRow x r.word r.o r.nm r.sl) hq]
      rcases List.mem_cons.mp h with rfl | h'
      · rfl
      · exfalso
        obtain ⟨a1, a2, a3, a4⟩ := isRow_iff.mp hq
        exact nd.1 (List.mem_map.mpr ⟨r, h', by simp [a1, a2, a3, a4]⟩)
    · rw [List.find?_cons_of_neg (p := fun x => isRow x r.word r.o r.nm r.sl) hq]
      rcases List.mem_cons.mp h with rfl | h'
      · exact absurd (isRow_iff.mpr ⟨rfl, rfl, rfl, rfl⟩) hq
      · exact ih nd.2 h'
theorem key_some {kv : KV} {o : Int} : o ∈ kv.map (·.1) ↔ ∃ v, valueAt kv o = some v := by
  constructor
  · intro h
    cases hv : valueAt kv o with
    | some v => exact ⟨v, rfl⟩
    | none =>
      exfalso
      unfold valueAt at hv
      rw [Option.map_eq_none_iff, List.find?_eq_none] at hv
      obtain ⟨q, hq, rfl⟩ := List.mem_map.mp h
      exact hv q hq (by simp)
  · rintro ⟨v, hv⟩
    unfold valueAt at hv
    obtain ⟨q, hq, _⟩ := Option.map_eq_some_iff.mp hv
    have h2 := List.find?_some hq
    exact List.mem_map.mpr ⟨q, List.mem_of_find?_eq_some hq, by simpa using h2⟩
theorem at_mem {kv : KV} (hn : (kv.map (·.1)).Nodup) {q : Int × Value} (h : q ∈ kv) : valueAt kv q.1 = some q.2 := by
  obtain ⟨i, hi, e⟩ := List.getElem_of_mem h
  exact valueAt_of_get hn (i := i) (by rw [List.getElem?_eq_getElem hi, e])
section
variable {view : Key → KV} {rows : List Row} {k : Key} {wd x y : Str} {o : Int}
theorem word_of (A : Agree view rows) (V : Valid k wd x y) {r : Row} (hr : r ∈ rows) (hk : keyIs r x y = true) : r.word = wd := by
  obtain ⟨k', V'⟩ := (A.wf r hr).1
  have hk' : r.nm = x ∧ r.sl = y := by simpa [keyIs] using hk
  rw [hk'.1, hk'.2] at V'
  obtain ⟨_, h⟩ := V
  obtain ⟨_, h'⟩ := V'
  have e1 : sW ≠ sMark := by decide
  have e2 : sC ≠ sMark := by decide
  have e3 : sW ≠ sLevel := by decide
  have e4 : sC ≠ sLevel := by decide
  have e5 : sMark ≠ sLevel := by decide
  rcases h with ⟨_, h1, h2⟩ | ⟨_, h1, h2⟩ | ⟨_, h1, h2⟩ <;> rcases h' with ⟨_, g1, g2⟩ | ⟨_, g1, g2⟩ | ⟨_, g1, g2⟩
  · rw [h1, g1]
  · rcases h2 with h2 | h2 <;> rw [h2] at g2 <;> first | exact absurd g2 e1 | exact absurd g2 e2
  · rcases h2 with h2 | h2 <;> rw [h2] at g2 <;> first | exact absurd g2 e3 | exact absurd g2 e4
  · rcases g2 with g2 | g2 <;> rw [h2] at g2 <;> first | exact absurd g2.symm e1 | exact absurd g2.symm e2
  · rw [h1, g1]
  · rw [h2] at g2; exact absurd g2 e5
  · rcases g2 with g2 | g2 <;> rw [h2] at g2 <;> first | exact absurd g2.symm e3 | exact absurd g2.symm e4
  · rw [h2] at g2; exact absurd g2.symm e5
  · rw [h1, g1]
theorem row_iff (A : Agree view rows) (V : Valid k wd x y) {d : Dat} : (⟨wd, o, x, y, d⟩ : Row) ∈ rows ↔ ∃ v, valueAt (view k) o = some v ∧ datOf v = d := by
  have h := A.eq _ _ _ _ V o
  constructor
  · intro hr
    have := fnd3_of A.nd hr
    dsimp only at this
    rw [this] at h
    exact Option.map_eq_some_iff.mp h
  · rintro ⟨v, hv, rfl⟩
    rw [hv] at h
    exact fnd3_mem h.symm
theorem nodup_key (A : Agree view rows) (V : Valid k wd x y) : ((rows.filter (keyIs · x y)).map (·.o)).Nodup := by
  have nd := A.nd
  have wo : ∀ r ∈ rows, keyIs r x y = true → r.word = wd := fun r hr h => word_of A V hr h
  clear A
  induction rows with
  | nil => simp
  | cons r rs ih =>
    simp only [List.map_cons, List.nodup_cons] at nd
    have ih' := ih nd.2 fun r' hr' => wo r' (List.mem_cons_of_mem _ hr')
    by_cases hk : keyIs r x y = true
    · rw [List.filter_cons_of_pos (p := (keyIs · x y)) hk, List.map_cons, List.nodup_cons]
      refine ⟨fun hm => nd.1 ?_, ih'⟩
      obtain ⟨r', hr', e⟩ := List.mem_map.mp hm
      obtain ⟨h1, h2⟩ := List.mem_filter.mp hr'
      have a : r.nm = x ∧ r.sl = y := by simpa [keyIs] using hk
      have b : r'.nm = x ∧ r'.sl = y := by simpa [keyIs] using h2
      exact List.mem_map.mpr ⟨r', h1, by rw [wo r' (List.mem_cons_of_mem _ h1) h2, wo r (List.mem_cons_self ..) hk, e, a.1, a.2, b.1, b.2]⟩
    · rw [List.filter_cons_of_neg (p := (keyIs · x y)) hk]
      exact ih'
theorem keys_perm (A : Agree view rows) (V : Valid k wd x y) : ((view k).map (·.1)).Perm ((rows.filter (keyIs · x y)).map (·.o)) := by
  refine (List.perm_ext_iff_of_nodup (A.vnd k) (nodup_key A V)).mpr fun o => ?_
  rw [key_some]
  constructor
  · rintro ⟨v, hv⟩
    have := (row_iff A V (o := o) (d := datOf v)).mpr ⟨v, hv, rfl⟩
    exact List.mem_map.mpr ⟨_, List.mem_filter.mpr ⟨this, by simp [keyIs]⟩, rfl⟩
  · intro h
    obtain ⟨r, hr, rfl⟩ := List.mem_map.mp h
    obtain ⟨h1, h2⟩ := List.mem_filter.mp hr
    have a : r.nm = x ∧ r.sl = y := by simpa [keyIs] using h2
    have w := word_of A V h1 h2
    have : (⟨wd, r.o, x, y, r.val⟩ : Row) ∈ rows := by rw [← w, ← a.1, ← a.2]; exact h1
    obtain ⟨v, hv, _⟩ := (row_iff A V).mp this
    exact ⟨v, hv⟩
theorem view_own (A : Agree view rows) (V : Valid k wd x y) {q : Int × Value} (h : q ∈ view k) : (q.1 = 1 ∨ q.1 = 2 ∨ q.1 = 3) ∧ ValOk wd (datOf q.2) := by
  have hr := (row_iff A V (o := q.1) (d := datOf q.2)).mpr ⟨q.2, at_mem (A.vnd k) h, rfl⟩
  exact ⟨A.own _ hr, (A.wf _ hr).2⟩
theorem view_len (A : Agree view rows) (V : Valid k wd x y) : (view k).length ≤ 3 := by
  have := len3 (A.vnd k) (fun o ho => by
    obtain ⟨q, hq, rfl⟩ := List.mem_map.mp ho
    exact (view_own A V hq).1)
  simpa using this
theorem view_bool (A : Agree view rows) (V : Valid k sSlot x y) {q : Int × Value} (h : q ∈ view k) : ∃ b, q.2 = .bool b := by
  obtain ⟨_, hv⟩ := view_own A V h
  rcases hv with ⟨_, b, hb⟩ | ⟨e, _⟩ | ⟨e, _⟩
  · refine ⟨b, ?_⟩
    cases hq : q.2 <;> rw [hq] at hb <;> simp [datOf] at hb
    rw [hb]
  · exact absurd e (by decide)
  · exact absurd e (by decide)
theorem view_int (A : Agree view rows) (V : Valid k sMark x y) {q : Int × Value} (h : q ∈ view k) : ∃ m u, q.2 = .int m u := by
  obtain ⟨_, hv⟩ := view_own A V h
  rcases hv with ⟨e, _⟩ | ⟨_, i, hb⟩ | ⟨e, _⟩
  · exact absurd e (by decide)
  · cases hq : q.2 <;> rw [hq] at hb <;> simp [datOf] at hb
    exact ⟨_, _, rfl⟩
  · exact absurd e (by decide)
theorem view_lev (A : Agree view rows) (V : Valid k sLevel x y) {q : Int × Value} (h : q ∈ view k) : ∃ u, q.2 = .int 1 u := by
  obtain ⟨_, hv⟩ := view_own A V h
  rcases hv with ⟨e, _⟩ | ⟨e, _⟩ | ⟨_, hb⟩
  · exact absurd e (by decide)
  · exact absurd e (by decide)
  · cases hq : q.2 <;> rw [hq] at hb <;> simp [datOf] at hb
    rw [hb]
    exact ⟨_, rfl⟩
end
open PySem PySem.W PyProof.Rows
set_option maxRecDepth 100000
set_option maxHeartbeats 4000000
section
variable {view : Key → KV} {rows : List Row}
theorem valid_s {x y : Str} (hx : x = sA ∨ x = sB) (hy : y = sW ∨ y = sC) : Valid (.s [x, y]) sSlot x y := ⟨hx, .inl ⟨rfl, rfl, hy⟩⟩
theorem valid_m {x : Str} (hx : x = sA ∨ x = sB) : Valid (.m x) sMark x sMark := ⟨hx, .inr (.inl ⟨rfl, rfl, rfl⟩)⟩
theorem valid_l {x : Str} (hx : x = sA ∨ x = sB) : Valid (.l x) sLevel x sLevel := ⟨hx, .inr (.inr ⟨rfl, rfl, rfl⟩)⟩
theorem agree_hS (A : Agree view rows) : ∀ x y, (x = sA ∨ x = sB) → (y = sW ∨ y = sC) → ((view (.s [x, y])).map (·.1)).Perm ((rows.filter (keyIs · x y)).map (·.o)) ∧ (view (.s [x, y])).length ≤ 3 :=
  fun x y hx hy => ⟨keys_perm A (valid_s hx hy), view_len A (valid_s hx hy)⟩
theorem mark_val (A : Agree view rows) {x : Str} (hx : x = sA ∨ x = sB) {r : Row} (hr : r ∈ rows) (hk : keyIs r x sMark = true) : ∃ i, r.val = .int i := by
  have hw := word_of A (valid_m hx) hr hk
  rcases (A.wf r hr).2 with ⟨e, _⟩ | ⟨_, h⟩ | ⟨e, _⟩
  · rw [hw] at e; exact absurd e (by decide)
  · exact h
  · rw [hw] at e; exact absurd e (by decide)
theorem nd_of_map {α β : Type} {f : α → β} : ∀ {l : List α}, (l.map f).Nodup → l.Nodup
  | [], _ => .nil
  | a :: l, h => by
    simp only [List.map_cons, List.nodup_cons] at h
    exact List.nodup_cons.mpr ⟨fun hm => h.1 (List.mem_map.mpr ⟨a, hm, rfl⟩), nd_of_map h.2⟩
theorem agree_hM (A : Agree view rows) : ∀ x, (x = sA ∨ x = sB) → (∀ q ∈ view (.m x), ∃ m u, q.2 = .int m u) ∧ (∀ q ∈ view (.m x), q.1 = 1 ∨ q.1 = 2 ∨ q.1 = 3) ∧ (pairsKV (view (.m x))).Perm ((rows.filter (keyIs · x sMark)).map fun r => (r.o, datInt r.val)) ∧ ∀ r ∈ rows, keyIs r x sMark = true → ∃ i, r.val = .int i := by
  intro x hx
  have V := valid_m hx
  refine ⟨fun q hq => view_int A V hq, fun q hq => (view_own A V hq).1, ?_, fun r hr hk => mark_val A hx hr hk⟩
  refine (List.perm_ext_iff_of_nodup ?_ ?_).mpr fun q => ?_
  · refine nd_of_map (f := Prod.fst) ?_
    unfold pairsKV
    rw [List.map_map]
    exact A.vnd _
  · refine nd_of_map (f := Prod.fst) ?_
    rw [List.map_map]
    exact nodup_key A V
  · obtain ⟨o, i⟩ := q
    constructor
    · intro h
      obtain ⟨q, hq, e⟩ := List.mem_map.mp h
      obtain ⟨m, u, hm⟩ := view_int A V hq
      simp only [Prod.mk.injEq, hm, intOf] at e
      obtain ⟨rfl, rfl⟩ := e
      have := (row_iff A V (o := q.1) (d := datOf q.2)).mpr ⟨q.2, at_mem (A.vnd _) hq, rfl⟩
      exact List.mem_map.mpr ⟨_, List.mem_filter.mpr ⟨this, by simp [keyIs]⟩, by simp [hm, datOf, datInt]⟩
    · intro h
      obtain ⟨r, hr, e⟩ := List.mem_map.mp h
      obtain ⟨h1, h2⟩ := List.mem_filter.mp hr
      obtain ⟨j, hj⟩ := mark_val A hx h1 h2
      have a : r.nm = x ∧ r.sl = sMark := by simpa [keyIs] using h2
      have w := word_of A V h1 h2
      have hrow : (⟨sMark, r.o, x, sMark, .int j⟩ : Row) ∈ rows := by
        obtain ⟨rw', ro, rx, ry, rv⟩ := r
        dsimp only at a w hj
        rw [← hj, ← a.1, ← a.2]
        rw [a.2, a.1, w] at h1
        simpa [a.1, a.2] using h1
      obtain ⟨v, hv, hd⟩ := (row_iff A V).mp hrow
      simp only [Prod.mk.injEq, hj, datInt] at e
      obtain ⟨rfl, rfl⟩ := e
      have hmem : (r.o, v) ∈ view (.m x) := by
        unfold valueAt at hv
        obtain ⟨q, hq, e⟩ := Option.map_eq_some_iff.mp hv
        have h3 := List.find?_some hq
        have h4 : q.1 = r.o := by simpa using h3
        have := List.mem_of_find?_eq_some hq
        rw [← h4, ← e]
        exact this
      refine List.mem_map.mpr ⟨_, hmem, ?_⟩
      cases v <;> simp [datOf] at hd
      simp [intOf, hd]
theorem agree_hL (A : Agree view rows) : ∀ x o, (x = sA ∨ x = sB) → (o = 1 ∨ o = 2 ∨ o = 3) → (((rows.filter (isRow · sLevel o x sLevel)).isEmpty = false ∧ ∃ tk, valueAt (view (.l x)) o = some (.int 1 tk)) ∨ ((rows.filter (isRow · sLevel o x sLevel)).isEmpty = true ∧ valueAt (view (.l x)) o = none)) := by
  intro x o hx _
  have V := valid_l hx
  cases hv : valueAt (view (.l x)) o with
  | some v =>
    left
    have hrow := (row_iff A V (o := o) (d := datOf v)).mpr ⟨v, hv, rfl⟩
    refine ⟨?_, ?_⟩
    · rw [List.isEmpty_eq_false_iff_exists_mem]
      exact ⟨_, List.mem_filter.mpr ⟨hrow, by simp [isRow, keyIs]⟩⟩
    · have := (A.wf _ hrow).2
      rcases this with ⟨e, _⟩ | ⟨e, _⟩ | ⟨-, h⟩
      · exact absurd (show sLevel = sSlot from e) (by decide)
      · exact absurd (show sLevel = sMark from e) (by decide)
      · cases v <;> simp [datOf] at h
        rename_i m t
        subst h
        exact ⟨t, rfl⟩
  | none =>
    right
    refine ⟨?_, rfl⟩
    rw [List.isEmpty_iff, List.filter_eq_nil_iff]
    intro r hr hi
    obtain ⟨a1, a2, a3, a4⟩ := isRow_iff.mp hi
    have : (⟨sLevel, o, x, sLevel, r.val⟩ : Row) ∈ rows := by
      obtain ⟨rw', ro, rx, ry, rv⟩ := r
      dsimp only at a1 a2 a3 a4 ⊢
      subst a1 a2 a3 a4
      exact hr
    obtain ⟨v, hv', _⟩ := (row_iff A V).mp this
    rw [hv] at hv'
    cases hv'
theorem agree_hLv (A : Agree view rows) : ∀ r ∈ rows, r.word = sLevel → r.val = .int 1 := by
  intro r hr hw
  rcases (A.wf r hr).2 with ⟨e, _⟩ | ⟨e, _⟩ | ⟨_, h⟩
  · rw [hw] at e; exact absurd e (by decide)
  · rw [hw] at e; exact absurd e (by decide)
  · exact h
theorem agree_ok (A : Agree view rows) : ∀ r ∈ rows, RowOk r := by
  intro r hr
  obtain ⟨k, hx, h⟩ := (A.wf r hr).1
  have okx : PyData.strOk r.nm = true := by rcases hx with e | e <;> rw [e] <;> decide +kernel
  rcases h with ⟨_, h1, h2⟩ | ⟨_, h1, h2⟩ | ⟨_, h1, h2⟩
  · exact ⟨by rw [h1]; decide +kernel, okx, by rcases h2 with e | e <;> rw [e] <;> decide +kernel⟩
  · exact ⟨by rw [h1]; decide +kernel, okx, by rw [h2]; decide +kernel⟩
  · exact ⟨by rw [h1]; decide +kernel, okx, by rw [h2]; decide +kernel⟩
end
open PySem PySem.W PyProof.Rows
set_option maxRecDepth 100000
set_option maxHeartbeats 4000000
section
variable {view : Key → KV} {rows : List Row} {x y : Str} {o : Int} {al : Bool}
theorem at_pair {kv : KV} {o : Int} {v : Value} (h : valueAt kv o = some v) : (o, v) ∈ kv := by
  unfold valueAt at h
  obtain ⟨q, hq, e⟩ := Option.map_eq_some_iff.mp h
  have h4 : q.1 = o := by simpa using List.find?_some hq
  rw [← h4, ← e]
  exact List.mem_of_find?_eq_some hq
theorem datOf_bool {v : Value} {b : Bool} (h : datOf v = .bool b) : v = .bool b := by
  cases v <;> simp [datOf] at h
  rw [h]
theorem row_eta {r : Row} {wd : Str} {o : Int} {x y : Str} (hw : r.word = wd) (ho : r.o = o) (hx : r.nm = x) (hy : r.sl = y) (h : r ∈ rows) : (⟨wd, o, x, y, r.val⟩ : Row) ∈ rows := by
  subst hw ho hx hy
  exact h
theorem slot_val (A : Agree view rows) (hx : x = sA ∨ x = sB) (hy : y = sW ∨ y = sC) : ∀ r ∈ rows, keyIs r x y = true → ∃ b, r.val = .bool b := by
  intro r hr hk
  have hw := word_of A (valid_s hx hy) hr hk
  rcases (A.wf r hr).2 with ⟨_, h⟩ | ⟨e, _⟩ | ⟨e, _⟩
  · exact h
  · rw [hw] at e; exact absurd e (by decide)
  · rw [hw] at e; exact absurd e (by decide)
theorem lets_iff (A : Agree view rows) (hx : x = sA ∨ x = sB) (hy : y = sW ∨ y = sC) :
    (rows.filter (lets o x y al)).isEmpty = false ↔ ∃ q ∈ view (.s [x, y]), q.1 ≠ o ∧ (al = true ∨ q.2 = .bool true) := by
  have V := valid_s hx hy
  rw [List.isEmpty_eq_false_iff_exists_mem]
  constructor
  · rintro ⟨r, hr⟩
    obtain ⟨h1, h2⟩ := List.mem_filter.mp hr
    simp only [lets, Bool.and_eq_true, Bool.not_eq_true', Bool.or_eq_true] at h2
    obtain ⟨h3, h4, h5⟩ := h2
    have hw := word_of A V h1 h4
    have a : r.nm = x ∧ r.sl = y := by simpa [keyIs] using h4
    have hrow := row_eta hw rfl a.1 a.2 h1
    obtain ⟨v, hv, hd⟩ := (row_iff A V).mp hrow
    refine ⟨(r.o, v), at_pair hv, fun e => ?_, ?_⟩
    · have : isRow r sSlot o x y = true := isRow_iff.mpr ⟨hw, e, a.1, a.2⟩
      rw [this] at h3; cases h3
    · rcases h5 with h5 | h5
      · exact .inl h5
      · right
        obtain ⟨b, hb⟩ := slot_val A hx hy r h1 h4
        rw [hb] at h5 hd
        have hbt : b = true := h5
        subst hbt
        exact datOf_bool hd
  · rintro ⟨q, hq, h1, h2⟩
    have hrow := (row_iff A V (o := q.1) (d := datOf q.2)).mpr ⟨q.2, at_mem (A.vnd _) hq, rfl⟩
    refine ⟨_, List.mem_filter.mpr ⟨hrow, ?_⟩⟩
    simp only [lets, Bool.and_eq_true, Bool.not_eq_true', Bool.or_eq_true]
    refine ⟨?_, by simp [keyIs], ?_⟩
    · rw [Bool.eq_false_iff]
      intro h
      exact h1 (isRow_iff.mp h).2.1
    · rcases h2 with h2 | h2
      · exact .inl h2
      · right; rw [h2]; rfl
theorem had_iff (A : Agree view rows) (hx : x = sA ∨ x = sB) (hy : y = sW ∨ y = sC) :
    (∃ r ∈ rows, isRow r sSlot o x y = true ∧ r.val = .bool true) ↔ valueAt (view (.s [x, y])) o = some (.bool true) := by
  have V := valid_s hx hy
  constructor
  · rintro ⟨r, hr, hi, hv⟩
    obtain ⟨a1, a2, a3, a4⟩ := isRow_iff.mp hi
    obtain ⟨v, h1, h2⟩ := (row_iff A V).mp (row_eta a1 a2 a3 a4 hr)
    rw [hv] at h2
    rw [h1, datOf_bool h2]
  · intro h
    exact ⟨_, (row_iff A V (o := o) (d := .bool true)).mpr ⟨_, h, rfl⟩, isRow_iff.mpr ⟨rfl, rfl, rfl, rfl⟩, rfl⟩
end
open PySem PySem.W PyProof.Rows
set_option maxRecDepth 100000
set_option maxHeartbeats 4000000
abbrev srcObj (x y : Int) (t u : Tok) (k : Nat) : Obj := PySem.W.listOf #[.int x t, .int y u] k
/-- the state between two deeds -/
structure DeedSt (w : World) (t a H : Addr) (n : Nat) (led : Led) (rest : Led) (vs : List Value) (c : Nat) (rows : List Row) (p : Parts) (x y : Int) (t1 t2 : Tok) (k : Nat) : Prop where
  led_eq : led = (a, srcObj x y t1 t2 k) :: rest
  sep : ∀ q ∈ rest, q.1 ≠ a
  x0 : 0 ≤ x
  y0 : 0 ≤ y
  y1 : y < 2147483647
  tab : Tab PySem.Challenge.rw_xm0751_01.row.prog w rest t p n
  held : (H, PySem.W.listOf vs.toArray c) ∈ rest
  rows_ : DatAll rest vs (rows.map rowDat)
  len : vs.length ≤ n
  agree : Agree p.view rows
def DeedPost (w : World) (t a : Addr) (n : Nat) (K : Led) (v : Value) (led : Led) : Prop :=
  ∃ H rest vs c rows p x y t1 t2 k, v = .ref H ∧ DeedSt w t a H n led rest vs c rows p x y t1 t2 k ∧ ∀ q ∈ K, Stay q.2 → q ∈ rest
theorem row_keep {led led' : Led} {v : Value} {r : Row} (h : DatIn led v (rowDat r)) (hv : ValOk r.word r.val) (hs : ∀ p ∈ led, p.2.cls = .type "tuple" → p ∈ led') : DatIn led' v (rowDat r) := by
  obtain ⟨a, ka, tw, to, t1, t2, vv, n1, n2, rfl, ha, hk, hvv⟩ := row_open h
  refine .tuple (hs _ ha rfl) (.cons (.str _ _) (.cons (.int _ _) (.cons (.tuple (hs _ hk rfl) (.cons (.str _ _) (.cons (.str _ _) .nil))) (.cons ?_ .nil))))
  rcases hv with ⟨_, b, hb⟩ | ⟨_, i, hb⟩ | ⟨_, hb⟩ <;> rw [hb] at hvv ⊢ <;> cases hvv
  · exact .bool _
  · exact .int _ _
  · exact .int _ _
theorem rows_keep {led led' : Led} (hs : ∀ p ∈ led, p.2.cls = .type "tuple" → p ∈ led') : ∀ {vs : List Value} {rows : List Row}, DatAll led vs (rows.map rowDat) → (∀ r ∈ rows, ValOk r.word r.val) → DatAll led' vs (rows.map rowDat)
  | _, [], h, _ => by cases h; exact .nil
  | _, r :: rs, h, hv => by
    cases h with
    | cons h1 h2 => exact .cons (row_keep h1 (hv r (List.mem_cons_self ..)) hs) (rows_keep hs h2 fun r' hr' => hv r' (List.mem_cons_of_mem _ hr'))
theorem list_ne {h₀ h : Heap} {L : Addr} {led : Led} (N : News h₀ L h led) {a H : Addr} {x y : Int} {t1 t2 : Tok} {k c : Nat} {vs : List Value} {rows : List Row} (ha : (a, srcObj x y t1 t2 k) ∈ led) (hH : (H, PySem.W.listOf vs.toArray c) ∈ led) (hR : DatAll led vs (rows.map rowDat)) : H ≠ a := by
  rintro rfl
  have e := news_fun N hH ha
  have e2 : vs.toArray = #[.int x t1, .int y t2] := by
    have := congrArg Obj.data e
    injection this
  have e3 : vs = [.int x t1, .int y t2] := by
    have := congrArg Array.toList e2
    simpa using this
  subst e3
  cases rows with
  | nil => cases hR
  | cons r rs =>
    cases hR with
    | cons h1 _ =>
      obtain ⟨a, ka, _, _, _, _, _, _, _, e, _⟩ := row_open h1
      cases e
theorem deed_end {w : World} {t a H : Addr} {n : Nat} {h₀ h : Heap} {L : Addr} {led : Led} {vs : List Value} {c : Nat} {rows : List Row} {p : Parts} {x y : Int} {t1 t2 : Tok} {k : Nat} (N : News h₀ L h led) (ha : (a, srcObj x y t1 t2 k) ∈ led) (x0 : 0 ≤ x) (y0 : 0 ≤ y) (y1 : y < 2147483647)
    (T : Tab PySem.Challenge.rw_xm0751_01.row.prog w led t p n) (hH : (H, PySem.W.listOf vs.toArray c) ∈ led) (hR : DatAll led vs (rows.map rowDat)) (hl : vs.length ≤ n) (A : Agree p.view rows) {K : Led} (hsep : ∀ q ∈ K, q.1 ≠ a) (hK : ∀ q ∈ K, Stay q.2 → q ∈ led) :
    DeedPost w t a n K (.ref H) ((a, srcObj x y t1 t2 k) :: led.filter fun q => decide (q.1 ≠ a)) ∧ News h₀ L h ((a, srcObj x y t1 t2 k) :: led.filter fun q => decide (q.1 ≠ a)) := by
  have off : ∀ q ∈ led, q.2.cls ≠ .type "list" → q ∈ led.filter fun q => decide (q.1 ≠ a) := fun q hq hc => by
    refine List.mem_filter.mpr ⟨hq, ?_⟩
    simp only [decide_eq_true_eq]
    intro e
    obtain ⟨b, o⟩ := q
    dsimp only at e hc
    subst e
    exact hc (by rw [news_fun N hq ha])
  refine ⟨⟨H, _, vs, c, rows, p, x, y, t1, t2, k, rfl, ⟨rfl, fun q hq => by simpa using (List.mem_filter.mp hq).2, x0, y0, y1, T.mono off (Nat.le_refl _), ?_, rows_keep (fun q hq hc => off q hq (by rw [hc]; decide)) hR fun r hr => (A.wf r hr).2, hl, A⟩, fun q hq hs => List.mem_filter.mpr ⟨hK q hq hs, by simpa using hsep q hq⟩⟩, fun q hq => ?_⟩
  · exact List.mem_filter.mpr ⟨hH, by simpa using list_ne N ha hH hR⟩
  · rcases List.mem_cons.mp hq with rfl | hq
    · exact N _ ha
    · exact N q (List.mem_filter.mp hq).1
theorem put_len {rows : List Row} {wd : Str} {o : Int} {x y : Str} {d : Dat} : (putRows rows wd o x y d).length ≤ rows.length + 1 := by
  rw [putRows_eq, List.length_append]
  have h1 := List.length_filter_le (fun r => !isRow r wd o x y) rows
  have h2 : (one? wd o x y d).length ≤ 1 := by cases d <;> simp [one?]
  omega
open PySem PySem.W PyProof.Rows
set_option maxRecDepth 100000
set_option maxHeartbeats 4000000
open LCg LCt
local macro_rules | `(tactic| walk_at "call ref") => `(tactic| (k_here; (first | (with_reducible show wpAny _ _ (call (Value.ref 202) _ _) _ _ _) | (with_reducible show wpAny _ _ (call (Value.ref 209) _ _) _ _ _) | (with_reducible show wpAny _ _ (call (Value.ref 216) _ _) _ _ _) | (with_reducible show wpAny _ _ (call (Value.ref 221) _ _) _ _ _) | (with_reducible show wpAny _ _ (call (Value.ref 226) _ _) _ _ _) | (with_reducible show wpAny _ _ (call (Value.ref 153) _ _) _ _ _) | (with_reducible show wpAny _ _ (call (Value.ref 167) _ _) _ _ _) | (with_reducible show wpAny _ _ (call (Value.ref 109) _ _) _ _ _) | (with_reducible show wpAny _ _ (call (Value.ref 138) _ _) _ _ _) | (with_reducible show wpAny _ _ (call (Value.ref 181) _ _) _ _ _)); refine Halt.out ?_))
local macro_rules | `(tactic| walk_at "compareOp In bool ref") => `(tactic| (k_here; refine Halt.out ?_))
theorem two_mem {a b : Str} {ta tb : Tok} {v : Value} (h : v ∈ [Value.str a ta, Value.str b tb]) : ∃ x tx, v = .str x tx ∧ (x = a ∨ x = b) := by
  rcases List.mem_cons.mp h with rfl | h
  · exact ⟨_, _, rfl, .inl rfl⟩
  · exact ⟨_, _, List.mem_singleton.mp h, .inr rfl⟩
theorem stored_self {kv : KV} {o : Int} {v : Value} (hn : (kv.map (·.1)).Nodup) (h : valueAt kv o = some v) : stored kv o v = kv := by
  unfold stored
  rw [if_pos (List.any_eq_true.mpr ⟨_, at_pair h, by simp⟩)]
  conv => rhs; rw [← List.map_id kv]
  refine List.map_congr_left fun q hq => ?_
  by_cases e : q.1 = o
  · have h2 := at_mem hn hq
    rw [e, h] at h2
    obtain ⟨q1, q2⟩ := q
    dsimp only at e h2
    cases h2
    simp [e]
  · simp [e]
theorem mem5 {a b c d e q : Addr × Obj} {l : Led} (h : q ∈ l) : q ∈ a :: b :: c :: d :: e :: l := List.mem_cons_of_mem _ (List.mem_cons_of_mem _ (List.mem_cons_of_mem _ (List.mem_cons_of_mem _ (List.mem_cons_of_mem _ h))))
def tb : Value → Bool
  | .bool b => b == true
  | _ => false
theorem in_bools {prog : Program} {w : World} {A : Around} {E : Value → Shared → Prop} {s : Shared} {l : Addr} {vs : List Value} {Q : Value → Shared → Prop} (hl : s.heap.IsList l vs.toArray) (hv : ∀ v ∈ vs, ∃ b, v = .bool b) (h : Q (.bool (vs.any tb)) s) :
    wpAny (model prog w) A (compareOp .In (.bool true) (.ref l)) Q E s :=
  SeqAt.in_listAt tb hl (fun y hy => by obtain ⟨b, rfl⟩ := hv y (by simpa using hy); exact SeqAt.EqAt.bool_bool b true) (by rw [← Array.any_toList]; exact h)
theorem any_tb {led : Led} : ∀ {ys : List Value} {rs : List Row}, DatAll led ys (rs.map (·.val)) → (∀ r ∈ rs, ∃ b, r.val = .bool b) → (∀ v ∈ ys, ∃ b, v = .bool b) ∧ (ys.any tb = true ↔ ∃ r ∈ rs, r.val = .bool true)
  | _, [], h, _ => by cases h; simp
  | _, r :: rs, h, hv => by
    cases h with
    | cons h1 h2 =>
      obtain ⟨i1, i2⟩ := any_tb h2 fun r' hr' => hv r' (List.mem_cons_of_mem _ hr')
      obtain ⟨b, hb⟩ := hv r (List.mem_cons_self ..)
      replace h1 : DatIn led _ r.val := h1
      rw [hb] at h1
      cases h1
      refine ⟨List.forall_mem_cons.mpr ⟨⟨_, rfl⟩, i1⟩, ?_⟩
      rw [List.any_cons, Bool.or_eq_true, i2]
      simp [tb, hb]
theorem mem3 {a b c q : Addr × Obj} {l : Led} (h : q ∈ l) : q ∈ a :: b :: c :: l := List.mem_cons_of_mem _ (List.mem_cons_of_mem _ (List.mem_cons_of_mem _ h))
theorem deed_spec (w : World) (t a H : Addr) (n : Nat) (led news : Led) (vs : List Value) (c : Nat) (rows : List Row) (p : Parts) (x0 y0 : Int) (t1 t2 : Tok) (c0 : Nat) (S : DeedSt w t a H n led news vs c rows p x0 y0 t1 t2 c0) (hn : n ≤ 900) :
    SpecS 60 w 236 [.ref a, .ref t, .ref H] led (DeedPost w t a (n + 1) news) := by
  obtain ⟨rfl, hsep, hx0, hy0, hy1, TT, hH, hR, hsz, AG⟩ := S
  have hok := agree_ok AG
  unfold SpecS
  k_fill
  intro mean mg mb dp un gd cn cs ca ccd cl outer A₀ base h₀ L m s Q E B F X N T XB TB D hk hd hu hret
  refine wpAny_call ?_
  k_dflt (refine' code_defTC ?k1 ?k2 ?k3 ?k4 ?k5 ?XB ?TB ?D ?kA ?kF ?kK ?k6 ?k7 ?k8 ?k9 ?kB ?kD ?_ ?c2 ?c3 ?c4; (case kA => exact rfl); (case kF => exact rfl); (case kK => first | assumption | exact rfl); (case k2 => k_asm); (case k1 => k_asm); (case XB => assumption); (case TB => assumption); (case D => assumption); (case k3 => k_asm); (case k4 => k_asm); (case k5 => k_asm); (case k6 => k_is); (case k7 => k_is); (case k8 => ktr_room); (case k9 => first | exact BindsTo.of_eq rfl | exact binds_K (by k_in) rfl (by k_is) rfl rfl rfl); (case kB => exact rfl); (case kD => decide +kernel); (case c2 => exact rfl); (case c3 => exact rfl); (case c4 => exact rfl); k_whole; intro g' L' h' tk' cells' FG' F' N' Y' B' X' T' D' l1; k_cells Y'; (try simp only [List.cons_append, List.nil_append] at N'); (try dsimp only); (try k_lift B'); (try k_fold))
  k_steps
  refine Halt.mk ?_
  rename_i oB oA dB dA
  have haL : @LT.lt Nat _ a L' := l1 _ (List.mem_cons_self ..)
  have hin1 := TT.inst
  have hin2 := TT.attrs
  have off1 : ∀ q ∈ news, q.1 ≠ L' + 1 := fun q hq => Nat.ne_of_lt (Nat.lt_succ_of_lt (l1 q (List.mem_cons_of_mem _ hq)))
  have off2 : ∀ q ∈ news, q.1 ≠ L' + 1 + 1 := fun q hq => Nat.ne_of_lt (Nat.lt_succ_of_lt (Nat.lt_succ_of_lt (l1 q (List.mem_cons_of_mem _ hq))))
  have hsR : ∀ (ob oa : Obj), ∀ q ∈ (L' + 1 + 1, ob) :: (L' + 1, oa) :: news, q.1 ≠ a := by
    intro ob oa q hq
    rcases List.mem_cons.mp hq with rfl | hq
    · exact Nat.ne_of_gt (Nat.lt_succ_of_lt (Nat.lt_succ_of_lt haL))
    rcases List.mem_cons.mp hq with rfl | hq
    · exact Nat.ne_of_gt (Nat.lt_succ_of_lt haL)
    · exact hsep q hq
  rename News _ _ _ _ => N1
  refine Spec.use (take_spec w a x0 y0 t1 t2 c0 ((L' + 1 + 1, oB) :: (L' + 1, oA) :: news) (hsR _ _) 9 _ (by decide) (by decide) hx0 hy0 hy1) (by assumption) (by assumption) (by assumption) N1 (List.forall_mem_cons.mpr ⟨by k_mem, List.forall_mem_cons.mpr ⟨by k_mem, List.forall_mem_cons.mpr ⟨by k_mem, fun q hq => by repeat (first | exact hq | exact List.mem_append_right _ hq | refine List.mem_cons_of_mem _ ?_)⟩⟩⟩) (by assumption) rfl (by ktr_room) (by ktr_units) ?_
  rintro z1 h1 tk1 news1 ⟨way, td1, x1, y1, u1, v1, c1, e1, lo1, hi1, hxa1, hxb1, hya1, hyb1, f1⟩ F1 M1
  rw [e1]
  rw [f1] at M1
  clear N1
  k_steps
  refine Halt.mk ?_
  rename News _ _ _ _ => N3
  refine Spec.use (take_spec w a x1 y1 u1 v1 c1 ((L' + 1 + 1, oB) :: (L' + 1, oA) :: news) (hsR _ _) 3 _ (by decide) (by decide) hxa1 hya1 hyb1) (by assumption) (by assumption) (by assumption) N3 (List.forall_mem_cons.mpr ⟨by k_mem, List.forall_mem_cons.mpr ⟨by k_mem, List.forall_mem_cons.mpr ⟨by k_mem, fun q hq => by repeat (first | exact hq | exact List.mem_append_right _ hq | refine List.mem_cons_of_mem _ ?_)⟩⟩⟩) (by assumption) rfl (by ktr_room) (by ktr_units) ?_
  rintro z2 h2 tk2 news2 ⟨dow, td2, x2, y2, u2, v2, c2, e2, lo2, hi2, hxa2, hxb2, hya2, hyb2, f2⟩ F2 M2
  rw [e2]
  rw [f2] at M2
  clear N3
  k_steps
  refine Halt.mk ?_
  rename News _ _ _ _ => N5
  rename_i  l3 _ _ ll3
  refine Spec.use (one_spec w a l3 x2 y2 u2 v2 c2 0 [.str (Str.ofString "a") _, .str (Str.ofString "b") _] ((L' + 1 + 1, oB) :: (L' + 1, oA) :: news) (hsR _ _) (Nat.ne_of_gt ll3.1) (Nat.succ_pos _) (by show 2 < 10; decide) hxa2 hya2 hyb2) (by assumption) (by assumption) (by assumption) N5 (fun q hq => hq) (by assumption) rfl (by ktr_room) (by ktr_units) ?_
  rintro z3 h3 tk3 news3 ⟨x3, y3, u3, v3, c3, e3, hxa3, hxb3, hya3, hyb3, f3⟩ F3 M3
  rw [f3] at M3
  obtain ⟨nm, tnm, rfl, hnm⟩ := two_mem e3
  have P3 := news_sub (news := (a, PySem.W.listOf #[.int x3 u3, .int y3 v3] c3) :: (L' + 1 + 1, oB) :: (L' + 1, oA) :: news) M3 (List.forall_mem_cons.mpr ⟨by k_mem, List.forall_mem_cons.mpr ⟨by k_mem, List.forall_mem_cons.mpr ⟨by k_mem, fun q hq => by repeat (first | exact hq | exact List.mem_append_right _ hq | refine List.mem_cons_of_mem _ ?_)⟩⟩⟩)
  clear N5 M3
  k_steps
  refine Halt.mk ?_
  rename News _ _ _ _ => N5
  rename_i o5 d5 h5 l4 _ _ ll4
  refine Spec.use (one_spec w a l4 x3 y3 u3 v3 c3 0 [.str (Str.ofString "write") _, .str (Str.ofString "checkpoint") _] ((L' + 1 + 1, oB) :: (L' + 1, o5) :: news) (hsR _ _) (Nat.ne_of_gt ll4.2.1) (Nat.succ_pos _) (by show 2 < 10; decide) hxa3 hya3 hyb3) (by assumption) (by assumption) (by assumption) N5 (List.forall_mem_cons.mpr ⟨List.mem_cons_self .., fun q hq => List.mem_cons_of_mem _ (List.mem_cons_of_mem _ hq)⟩) (by assumption) rfl (by ktr_room) (by ktr_units) ?_
  rintro z4 h4 tk4 news4 ⟨x4, y4, u4, v4, c4, e4, hxa4, hxb4, hya4, hyb4, f4⟩ F4 M4
  rw [f4] at M4
  obtain ⟨sl, tsl, rfl, hsl⟩ := two_mem e4
  have P4 := news_sub (news := (a, PySem.W.listOf #[.int x4 u4, .int y4 v4] c4) :: (L' + 1 + 1, oB) :: (L' + 1, o5) :: news) M4 (List.forall_mem_cons.mpr ⟨by k_mem, List.forall_mem_cons.mpr ⟨by k_mem, List.forall_mem_cons.mpr ⟨by k_mem, fun q hq => by repeat (first | exact hq | exact List.mem_append_right _ hq | refine List.mem_cons_of_mem _ ?_)⟩⟩⟩)
  clear N5 M4
  k_steps
  refine Halt.mk ?_
  rename News _ _ _ _ => N6
  refine Spec.use (take_spec w a x4 y4 u4 v4 c4 ((L' + 1 + 1, oB) :: (L' + 1, o5) :: news) (hsR _ _) 3 _ (by decide) (by decide) hxa4 hya4 hyb4) (by assumption) (by assumption) (by assumption) N6 (List.forall_mem_cons.mpr ⟨by k_mem, List.forall_mem_cons.mpr ⟨by k_mem, List.forall_mem_cons.mpr ⟨by k_mem, fun q hq => by repeat (first | exact hq | exact List.mem_append_right _ hq | refine List.mem_cons_of_mem _ ?_)⟩⟩⟩) (by assumption) rfl (by ktr_room) (by ktr_units) ?_
  rintro z5 h5 tk5 news5 ⟨dal, td5, x5, y5, u5, v5, c5, e5, lo5, hi5, hxa5, hxb5, hya5, hyb5, f5⟩ F5 M5
  rw [e5]
  rw [f5] at M5
  clear N6
  k_steps
  all_goals refine Halt.mk ?_
  all_goals rename News _ _ _ _ => N7
  all_goals
    have okx : PyData.strOk nm = true := by rcases hnm with rfl | rfl <;> decide +kernel
    have oky : PyData.strOk sl = true := by rcases hsl with rfl | rfl <;> decide +kernel
    have ho3 : 1 + dow = 1 ∨ 1 + dow = 2 ∨ 1 + dow = 3 := by omega
  · refine Spec.use (is_let_spec w _ H vs c rows (mem5 hH) (hR.mono fun q hq => mem5 hq) (Nat.le_trans hsz (by omega)) (1 + dow) _ _ nm sl tnm tsl 0 (List.mem_cons_self ..) (dal == 0) hok okx oky (slot_val AG hnm hsl)) (by assumption) (by assumption) (by assumption) N7 (fun q hq => hq) (by assumption) rfl (by ktr_room) (by ktr_units) ?_
    rintro v8 h8 tk8 news8 ⟨up8, e8⟩ F8 N8
    obtain ⟨il, hil⟩ : ∃ il, il = (List.filter (lets (1 + dow) nm sl (dal == 0)) rows).isEmpty := ⟨_, rfl⟩
    rw [e8, ← hil]
    clear e8
    clear N7
    have cl8 := up8 _ (List.mem_cons_of_mem _ (List.mem_cons_of_mem _ (List.mem_cons_of_mem _ (List.mem_cons_self ..))))
    have cm8 := up8 _ (List.mem_cons_of_mem _ (List.mem_cons_of_mem _ (List.mem_cons_of_mem _ (List.mem_cons_of_mem _ (List.mem_cons_self ..)))))
    k_steps
    refine Halt.mk ?_
    rename News _ _ _ _ => N8
    refine SpecS.use (law_hold_spec w t _ p n (TT.up (fun q hq => up8 _ (mem5 hq))) (by omega) (1 + dow) _ nm sl tnm tsl (dal == 0) (fun q hq => view_bool AG (valid_s hnm hsl) hq)) (by assumption) (by assumption) (by assumption) N8 (fun q hq => hq) (by assumption) (by assumption) (by assumption) (by assumption) rfl (by ktr_room) (by ktr_units) ?_
    rintro v9 h9 tk9 news9 g9 ⟨kp9, p9, T9, alt9⟩ TU9 F9 N9 B9 X9 TP9 D9
    have hH9 := kp9 _ (up8 _ (mem5 hH)) (.inl list_nd)
    have hR9 := rows_keep (fun q hq hc => kp9 q (up8 _ (mem5 hq)) (.inl (by rw [hc]; exact tup_nd))) hR (fun r hr => (AG.wf r hr).2)
    have key9 := kp9 _ (up8 _ (List.mem_cons_self ..)) (.inl tup_nd)
    have src9 := kp9 _ (up8 _ (List.mem_cons_of_mem _ (List.mem_cons_of_mem _ (List.mem_cons_self ..)))) (.inl list_nd)
    have cl9 := kp9 _ cl8 (.inr ⟨_, by assumption⟩)
    have cm9 := kp9 _ cm8 (.inr ⟨_, by assumption⟩)
    have K9 : ∀ q ∈ news, Stay q.2 → q ∈ news9 := fun q hq hs => kp9 _ (up8 _ (mem5 hq)) hs
    clear N8 cl8 cm8 up8
    rcases alt9 with ⟨hbusy, rfl, ev⟩ | ⟨hfree, rfl, bb, hbb, ev⟩
    · have hil' : il = false := hil.trans ((lets_iff AG hnm hsl).mpr hbusy)
      clear hil
      subst hil'
      k_steps
      refine Halt.mk ?_
      have hRl := datall_len hR9
      refine LCt.CompSrcT.ledger (by rfl) (by k_asm) (by k_asm) hH9 (by rw [List.size_toArray, sizeLine_eq, hRl, List.length_map]; have h2 := datall_len hR; rw [List.length_map] at h2; omega) ?_
      intro g10
      refine rest_ind (fun i ys led₁ => (∀ q ∈ news9, q ∈ led₁) ∧ DatAll led₁ ys (((rows.take i).filter (isRow · sSlot (1 + dow) nm sl)).map (·.val))) ?_ ?_ _ 0 [] _ (Nat.zero_add _) ⟨fun q hq => hq, .nil⟩
      · intro i ys led₁ v I oI C oC D m₂ h tk E' G hi hinv hG0 hG1 hv hC hx F5 N5 off ne
        obtain ⟨dr, hdr, hdv⟩ := datall_get hR9 (i := i) (by simpa using hv)
        rw [List.getElem?_map] at hdr
        obtain ⟨r, hri, rfl⟩ := Option.map_eq_some_iff.mp hdr
        obtain ⟨ra, rk, t1, t2, t3, t4, rv, n1, n2, rfl, hra, hrk, hrv⟩ := row_open hdv
        obtain ⟨ok1, ok2, ok3⟩ := hok r (List.mem_of_getElem? hri)
        have hra1 := hinv.1 _ hra
        have hrk1 := hinv.1 _ hrk
        have hk1 := hinv.1 _ key9
        have hc1 := hinv.1 _ cl9
        have hc2 := hinv.1 _ cm9
        k_steps
        all_goals rename_i ht
        all_goals first
          | (refine CompEnd.intro (by assumption) (by assumption) led₁ (fun p hp => by repeat (first | exact hp | exact List.mem_append_right _ hp | refine List.mem_cons_of_mem _ ?_)) off (.inr ⟨_, hinv.1 _ hH9, rfl, _, rfl⟩) (hG1 _ led₁ ⟨hinv.1, ?_⟩); rw [filt_take hri (show isRow r sSlot (1 + dow) nm sl = true from ht), List.map_append]; exact datall_snoc hinv.2 (dat_mono hinv.1 hrv))
          | (refine CompEnd.intro (by assumption) (by assumption) led₁ (fun p hp => by repeat (first | exact hp | exact List.mem_append_right _ hp | refine List.mem_cons_of_mem _ ?_)) off (.inr ⟨_, hinv.1 _ hH9, rfl, _, rfl⟩) (hG0 led₁ ⟨hinv.1, ?_⟩); rw [filt_skip hri (show isRow r sSlot (1 + dow) nm sl = false from ht)]; exact hinv.2)
      · intro ys led₂ hinv2
        have hlen : vs.toArray.size = rows.length := by rw [List.size_toArray, hRl, List.length_map]
        rw [hlen, List.take_length] at hinv2
        obtain ⟨hup, hinv3⟩ := hinv2
        have cl11 := hup _ cl9
        have cm11 := hup _ cm9
        have H11 := hup _ hH9
        have key11 := hup _ key9
        clear cl9 cm9
        k_steps
        rename News _ _ _ _ => N10
        obtain ⟨hp, hN⟩ := deed_end N10 (List.mem_cons_of_mem _ (hup _ src9)) hxa5 hya5 hyb5 (T9.up (fun q hq => List.mem_cons_of_mem _ (hup q hq))) (List.mem_cons_of_mem _ H11) (hR9.mono fun q hq => List.mem_cons_of_mem _ (hup q hq)) (Nat.le_succ_of_le hsz) (by rw [ev]; exact AG) hsep (fun q hq hs => List.mem_cons_of_mem _ (hup _ (K9 q hq hs)))
        exact hret _ _ _ _ _ hp (by assumption) (by assumption) hN (by assumption) (by assumption) (by assumption) (by assumption)
    · have hil' : il = true := by
        rw [hil]
        cases e : (List.filter (lets (1 + dow) nm sl (dal == 0)) rows).isEmpty with
        | true => rfl
        | false => exact absurd ((lets_iff AG hnm hsl).mp e) hfree
      clear hil
      subst hil'
      k_steps
      refine Halt.mk ?_
      have hRl := datall_len hR9
      refine LCt.CompSrcT.ledger (by rfl) (by k_asm) (by k_asm) hH9 (by rw [List.size_toArray, sizeLine_eq, hRl, List.length_map]; have h2 := datall_len hR; rw [List.length_map] at h2; omega) ?_
      intro g10
      refine rest_ind (fun i ys led₁ => (∀ q ∈ news9, q ∈ led₁) ∧ DatAll led₁ ys (((rows.take i).filter (isRow · sSlot (1 + dow) nm sl)).map (·.val))) ?_ ?_ _ 0 [] _ (Nat.zero_add _) ⟨fun q hq => hq, .nil⟩
      · intro i ys led₁ v I oI C oC D m₂ h tk E' G hi hinv hG0 hG1 hv hC hx F5 N5 off ne
        obtain ⟨dr, hdr, hdv⟩ := datall_get hR9 (i := i) (by simpa using hv)
        rw [List.getElem?_map] at hdr
        obtain ⟨r, hri, rfl⟩ := Option.map_eq_some_iff.mp hdr
        obtain ⟨ra, rk, t1, t2, t3, t4, rv, n1, n2, rfl, hra, hrk, hrv⟩ := row_open hdv
        obtain ⟨ok1, ok2, ok3⟩ := hok r (List.mem_of_getElem? hri)
        have hra1 := hinv.1 _ hra
        have hrk1 := hinv.1 _ hrk
        have hk1 := hinv.1 _ key9
        have hc1 := hinv.1 _ cl9
        have hc2 := hinv.1 _ cm9
        k_steps
        all_goals rename_i ht
        all_goals first
          | (refine CompEnd.intro (by assumption) (by assumption) led₁ (fun p hp => by repeat (first | exact hp | exact List.mem_append_right _ hp | refine List.mem_cons_of_mem _ ?_)) off (.inr ⟨_, hinv.1 _ hH9, rfl, _, rfl⟩) (hG1 _ led₁ ⟨hinv.1, ?_⟩); rw [filt_take hri (show isRow r sSlot (1 + dow) nm sl = true from ht), List.map_append]; exact datall_snoc hinv.2 (dat_mono hinv.1 hrv))
          | (refine CompEnd.intro (by assumption) (by assumption) led₁ (fun p hp => by repeat (first | exact hp | exact List.mem_append_right _ hp | refine List.mem_cons_of_mem _ ?_)) off (.inr ⟨_, hinv.1 _ hH9, rfl, _, rfl⟩) (hG0 led₁ ⟨hinv.1, ?_⟩); rw [filt_skip hri (show isRow r sSlot (1 + dow) nm sl = false from ht)]; exact hinv.2)
      · intro ys led₂ hinv2
        have hlen : vs.toArray.size = rows.length := by rw [List.size_toArray, hRl, List.length_map]
        rw [hlen, List.take_length] at hinv2
        obtain ⟨hup, hinv3⟩ := hinv2
        have cl11 := hup _ cl9
        have cm11 := hup _ cm9
        have H11 := hup _ hH9
        have key11 := hup _ key9
        clear cl9 cm9
        k_steps
        · rename_i h0
          have h0' : (dal == 0) = true := by simp [h0]
          have hb12 : (dal == 0) = bb := by rw [h0', hbb.mpr (.inl h0')]
          refine Halt.mk ?_
          rename News _ _ _ _ => N11
          refine Spec.use (put_spec w _ H vs c rows (List.mem_cons_of_mem _ H11) (hR9.mono fun q hq => List.mem_cons_of_mem _ (hup q hq)) (Nat.le_trans hsz (by omega)) sSlot _ (1 + dow) _ _ nm sl tnm tsl 0 (List.mem_cons_of_mem _ key11) (.bool (dal == 0)) (.bool (dal == 0)) (.inr (.inl ⟨_, rfl, rfl⟩)) hok (by decide +kernel) okx oky) (by assumption) (by assumption) (by assumption) N11 (fun q hq => hq) (by assumption) rfl (by ktr_room) (by ktr_units) ?_
          rintro v12 h12 tk12 news12 ⟨H12, vs12, c12, e12, hH12, up12', hR12⟩ F12 N12
          rw [e12]
          have up12 : ∀ q ∈ news9, q ∈ news12 := fun q hq => up12' q (List.mem_cons_of_mem _ (hup q hq))
          k_steps
          rename News _ _ _ _ => N13
          have hlen9 : vs12.length ≤ n + 1 := by have h1 := datall_len hR12; have h2 := datall_len hR; rw [List.length_map] at h1 h2; have h3 := put_len (rows := rows) (wd := sSlot) (o := 1 + dow) (x := nm) (y := sl) (d := .bool (dal == 0)); omega
          obtain ⟨hp, hN⟩ := deed_end N13 (up12 _ src9) hxa5 hya5 hyb5 (T9.up up12) hH12 hR12 hlen9 (by rw [ev, ← hb12]; exact agree_put AG (valid_s hnm hsl) ho3 (v := .bool (dal == 0)) (.inl ⟨rfl, _, rfl⟩)) hsep (fun q hq hs => up12 _ (K9 q hq hs))
          exact hret _ _ _ _ _ hp (by assumption) (by assumption) hN (by assumption) (by assumption) (by assumption) (by assumption)
        · rename_i h0
          have h0' : (dal == 0) = false := by simp [h0]
          have hvb : ∀ r ∈ rows.filter (isRow · sSlot (1 + dow) nm sl), ∃ b, r.val = .bool b := fun r hr => by
            obtain ⟨q1, q2⟩ := List.mem_filter.mp hr
            obtain ⟨_, _, q3, q4⟩ := isRow_iff.mp q2
            exact slot_val AG hnm hsl r q1 (by simp [keyIs, q3, q4])
          obtain ⟨hall, hany⟩ := any_tb hinv3 hvb
          have hb12 : ys.any tb = bb := by
            rw [Bool.eq_iff_iff, hany, hbb, h0', ← had_iff AG hnm hsl]
            simp [List.mem_filter, and_assoc]
          refine Halt.mk ?_
          refine in_bools ⟨_, News.get (by assumption) (List.mem_cons_self ..), rfl, _, rfl⟩ hall ?_
          k_steps
          refine Halt.mk ?_
          rename News _ _ _ _ => N11
          refine Spec.use (put_spec w _ H vs c rows (List.mem_cons_of_mem _ H11) (hR9.mono fun q hq => List.mem_cons_of_mem _ (hup q hq)) (Nat.le_trans hsz (by omega)) sSlot _ (1 + dow) _ _ nm sl tnm tsl 0 (List.mem_cons_of_mem _ key11) (.bool (ys.any tb)) (.bool (ys.any tb)) (.inr (.inl ⟨_, rfl, rfl⟩)) hok (by decide +kernel) okx oky) (by assumption) (by assumption) (by assumption) N11 (fun q hq => hq) (by assumption) rfl (by ktr_room) (by ktr_units) ?_
          rintro v12 h12 tk12 news12 ⟨H12, vs12, c12, e12, hH12, up12', hR12⟩ F12 N12
          rw [e12]
          have up12 : ∀ q ∈ news9, q ∈ news12 := fun q hq => up12' q (List.mem_cons_of_mem _ (hup q hq))
          k_steps
          rename News _ _ _ _ => N13
          have hlen9 : vs12.length ≤ n + 1 := by have h1 := datall_len hR12; have h2 := datall_len hR; rw [List.length_map] at h1 h2; have h3 := put_len (rows := rows) (wd := sSlot) (o := 1 + dow) (x := nm) (y := sl) (d := .bool (ys.any tb)); omega
          obtain ⟨hp, hN⟩ := deed_end N13 (up12 _ src9) hxa5 hya5 hyb5 (T9.up up12) hH12 hR12 hlen9 (by rw [ev, ← hb12]; exact agree_put AG (valid_s hnm hsl) ho3 (v := .bool (ys.any tb)) (.inl ⟨rfl, _, rfl⟩)) hsep (fun q hq hs => up12 _ (K9 q hq hs))
          exact hret _ _ _ _ _ hp (by assumption) (by assumption) hN (by assumption) (by assumption) (by assumption) (by assumption)
  · refine Spec.use (free_spec w t _ p n (TT.up (fun q hq => mem5 hq)) (by omega) (1 + dow) _ nm sl tnm tsl) (by assumption) (by assumption) (by assumption) N7 (fun q hq => hq) (by assumption) rfl (by ktr_room) (by ktr_units) ?_
    rintro v8 h8 tk8 news8 ⟨e8, kp8, p8, T8, ev8⟩ F8 N8
    subst e8
    have hH8 := kp8 _ (mem5 hH) (.inl list_nd)
    have hR8 := rows_keep (fun q hq hc => kp8 q (mem5 hq) (.inl (by rw [hc]; exact tup_nd))) hR (fun r hr => (AG.wf r hr).2)
    have key8 := kp8 _ (List.mem_cons_self ..) (.inl tup_nd)
    have src8 := kp8 _ (List.mem_cons_of_mem _ (List.mem_cons_of_mem _ (List.mem_cons_self ..))) (.inl list_nd)
    have cl8 := kp8 _ (List.mem_cons_of_mem _ (List.mem_cons_of_mem _ (List.mem_cons_of_mem _ (List.mem_cons_self ..)))) (.inr ⟨_, by assumption⟩)
    have cm8 := kp8 _ (List.mem_cons_of_mem _ (List.mem_cons_of_mem _ (List.mem_cons_of_mem _ (List.mem_cons_of_mem _ (List.mem_cons_self ..))))) (.inr ⟨_, by assumption⟩)
    k_steps
    refine Halt.mk ?_
    refine Spec.use (put_spec w news8 H vs c rows hH8 hR8 (Nat.le_trans hsz (by omega)) sSlot _ (1 + dow) _ _ nm sl tnm tsl 0 key8 .none .none (.inl ⟨rfl, rfl⟩) hok (by decide +kernel) okx oky) (by assumption) (by assumption) (by assumption) N8 (fun q hq => hq) (by assumption) rfl (by ktr_room) (by ktr_units) ?_
    rintro v9 h9 tk9 news9 ⟨H9, vs9, c9, e9, hH9, up9, hR9⟩ F9 N9
    rw [e9]
    k_steps
    rename News _ _ _ _ => N10
    have hlen9 : vs9.length ≤ n + 1 := by have h1 := datall_len hR9; have h2 := datall_len hR; rw [List.length_map] at h1 h2; have h3 := put_len (rows := rows) (wd := sSlot) (o := 1 + dow) (x := nm) (y := sl) (d := .none); omega
    obtain ⟨hp, hN⟩ := deed_end N10 (up9 _ src8) hxa5 hya5 hyb5 ((T8.up up9).mono (fun _ h _ => h) (Nat.le_succ n)) hH9 hR9 hlen9 (by rw [ev8]; exact agree_del AG (valid_s hnm hsl) _) hsep (fun q hq hs => up9 _ (kp8 _ (mem5 hq) hs))
    exact hret _ _ _ _ _ hp KtsTurn.refl (by assumption) hN (by assumption) (by assumption) (by assumption) (by assumption)
  · rename_i l6 _ _ ll6
    refine Spec.use (one_spec w a l6 x5 y5 u5 v5 c5 0 [.none, .int 0 _, .int 4 _, .int 7 _] ((L' + 1 + 1, _) :: (L' + 1, o5) :: news) (hsR _ _) (Nat.ne_of_gt ll6.2.2.1) (Nat.succ_pos _) (by show 4 < 10; decide) hxa5 hya5 hyb5) (by assumption) (by assumption) (by assumption) N7 (List.forall_mem_cons.mpr ⟨List.mem_cons_self .., List.forall_mem_cons.mpr ⟨List.mem_cons_of_mem _ (List.mem_cons_of_mem _ (List.mem_cons_of_mem _ (List.mem_cons_self ..))), fun q hq => List.mem_cons_of_mem _ (List.mem_cons_of_mem _ (List.mem_cons_of_mem _ (List.mem_cons_of_mem _ hq)))⟩⟩) (by assumption) rfl (by ktr_room) (by ktr_units) ?_
    rintro z6 h6 tk6 news6 ⟨x6, y6, u6, v6, c6, e6, hxa6, hxb6, hya6, hyb6, f6⟩ F6 M6
    rw [f6] at M6
    have e6' : z6 = .none ∨ ∃ i ti, z6 = .int i ti := by
      simp only [List.mem_cons, List.not_mem_nil, or_false] at e6
      rcases e6 with h | h | h | h
      · exact .inl h
      · exact .inr ⟨_, _, h⟩
      · exact .inr ⟨_, _, h⟩
      · exact .inr ⟨_, _, h⟩
    have P6 := news_sub (news := (a, srcObj x6 y6 u6 v6 c6) :: (L' + 1 + 1, _) :: (L' + 1, o5) :: news) M6 (List.forall_mem_cons.mpr ⟨List.mem_cons_self .., fun q hq => List.mem_cons_of_mem _ (List.mem_cons_of_mem _ hq)⟩)
    clear N7 M6
    rcases e6' with rfl | ⟨im, tm, rfl⟩
    · k_steps
      refine Halt.mk ?_
      rename News _ _ _ _ => N8
      refine Spec.use (mark_none_spec w t _ p n (TT.up (fun q hq => mem3 hq)) (by omega) (1 + dow) _ nm tnm) (by assumption) (by assumption) (by assumption) N8 (fun q hq => hq) (by assumption) rfl (by ktr_room) (by ktr_units) ?_
      rintro v8 h8 tk8 news8 ⟨e8, kp8, p8, T8, ev8⟩ F8 N8
      subst e8
      have hH8 := kp8 _ (mem3 hH) (.inl list_nd)
      have hR8 := rows_keep (fun q hq hc => kp8 q (mem3 hq) (.inl (by rw [hc]; exact tup_nd))) hR (fun r hr => (AG.wf r hr).2)
      have src8 := kp8 _ (List.mem_cons_self ..) (.inl list_nd)
      have cl8 := kp8 _ (List.mem_cons_of_mem _ (List.mem_cons_self ..)) (.inr ⟨_, by assumption⟩)
      have cm8 := kp8 _ (List.mem_cons_of_mem _ (List.mem_cons_of_mem _ (List.mem_cons_self ..))) (.inr ⟨_, by assumption⟩)
      k_steps
      refine Halt.mk ?_
      rename News _ _ _ _ => N8b
      refine Spec.use (put_spec w _ H vs c rows (List.mem_cons_of_mem _ hH8) (hR8.mono fun q hq => List.mem_cons_of_mem _ hq) (Nat.le_trans hsz (by omega)) sMark _ (1 + dow) _ _ nm sMark tnm _ 0 (List.mem_cons_self ..) .none .none (.inl ⟨rfl, rfl⟩) hok (by decide +kernel) okx (by decide +kernel)) (by assumption) (by assumption) (by assumption) N8b (fun q hq => hq) (by assumption) rfl (by ktr_room) (by ktr_units) ?_
      rintro v9 h9 tk9 news9 ⟨H9, vs9, c9, e9, hH9, up9', hR9⟩ F9 N9
      rw [e9]
      have up9 : ∀ q ∈ news8, q ∈ news9 := fun q hq => up9' q (List.mem_cons_of_mem _ hq)
      k_steps
      rename News _ _ _ _ => N10
      have hlen9 : vs9.length ≤ n + 1 := by have h1 := datall_len hR9; have h2 := datall_len hR; rw [List.length_map] at h1 h2; have h3 := put_len (rows := rows) (wd := sMark) (o := 1 + dow) (x := nm) (y := sMark) (d := .none); omega
      obtain ⟨hp, hN⟩ := deed_end N10 (up9 _ src8) hxa6 hya6 hyb6 (T8.up up9) hH9 hR9 hlen9 (by rw [ev8]; exact agree_del AG (valid_m hnm) _) hsep (fun q hq hs => up9 _ (kp8 _ (mem3 hq) hs))
      exact hret _ _ _ _ _ hp KtsTurn.refl (by assumption) hN (by assumption) (by assumption) (by assumption) (by assumption)
    · k_steps
      refine Halt.mk ?_
      rename News _ _ _ _ => N8
      refine Spec.use (mark_int_spec w t _ p n (TT.up (fun q hq => mem3 hq)) (by omega) (1 + dow) _ nm tnm im tm) (by assumption) (by assumption) (by assumption) N8 (fun q hq => hq) (by assumption) rfl (by ktr_room) (by ktr_units) ?_
      rintro v8 h8 tk8 news8 ⟨e8, kp8, p8, T8, ev8⟩ F8 N8
      subst e8
      have hH8 := kp8 _ (mem3 hH) (.inl list_nd)
      have hR8 := rows_keep (fun q hq hc => kp8 q (mem3 hq) (.inl (by rw [hc]; exact tup_nd))) hR (fun r hr => (AG.wf r hr).2)
      have src8 := kp8 _ (List.mem_cons_self ..) (.inl list_nd)
      have cl8 := kp8 _ (List.mem_cons_of_mem _ (List.mem_cons_self ..)) (.inr ⟨_, by assumption⟩)
      have cm8 := kp8 _ (List.mem_cons_of_mem _ (List.mem_cons_of_mem _ (List.mem_cons_self ..))) (.inr ⟨_, by assumption⟩)
      k_steps
      refine Halt.mk ?_
      rename News _ _ _ _ => N8b
      refine Spec.use (put_spec w _ H vs c rows (List.mem_cons_of_mem _ hH8) (hR8.mono fun q hq => List.mem_cons_of_mem _ hq) (Nat.le_trans hsz (by omega)) sMark _ (1 + dow) _ _ nm sMark tnm _ 0 (List.mem_cons_self ..) (.int im tm) (.int im) (.inr (.inr ⟨_, _, rfl, rfl⟩)) hok (by decide +kernel) okx (by decide +kernel)) (by assumption) (by assumption) (by assumption) N8b (fun q hq => hq) (by assumption) rfl (by ktr_room) (by ktr_units) ?_
      rintro v9 h9 tk9 news9 ⟨H9, vs9, c9, e9, hH9, up9', hR9⟩ F9 N9
      rw [e9]
      have up9 : ∀ q ∈ news8, q ∈ news9 := fun q hq => up9' q (List.mem_cons_of_mem _ hq)
      k_steps
      rename News _ _ _ _ => N10
      have hlen9 : vs9.length ≤ n + 1 := by have h1 := datall_len hR9; have h2 := datall_len hR; rw [List.length_map] at h1 h2; have h3 := put_len (rows := rows) (wd := sMark) (o := 1 + dow) (x := nm) (y := sMark) (d := (.int im)); omega
      obtain ⟨hp, hN⟩ := deed_end N10 (up9 _ src8) hxa6 hya6 hyb6 (T8.up up9) hH9 hR9 hlen9 (by rw [ev8]; exact agree_put AG (valid_m hnm) ho3 (v := .int im tm) (.inr (.inl ⟨rfl, _, rfl⟩))) hsep (fun q hq hs => up9 _ (kp8 _ (mem3 hq) hs))
      exact hret _ _ _ _ _ hp KtsTurn.refl (by assumption) hN (by assumption) (by assumption) (by assumption) (by assumption)
  · refine Spec.use (lock_spec w t _ p n (TT.up (fun q hq => mem5 hq)) (by omega) (1 + dow) _ nm tnm _ (fun q hq => view_lev AG (valid_l hnm) hq)) (by assumption) (by assumption) (by assumption) N7 (fun q hq => hq) (by assumption) rfl (by ktr_room) (by ktr_units) ?_
    rintro v8 h8 tk8 news8 ⟨e8, kp8, p8, kv8, T8, ev8, kvh8⟩ F8 N8
    subst e8
    have hH8 := kp8 _ (mem5 hH) (.inl list_nd)
    have hR8 := rows_keep (fun q hq hc => kp8 q (mem5 hq) (.inl (by rw [hc]; exact tup_nd))) hR (fun r hr => (AG.wf r hr).2)
    have src8 := kp8 _ (List.mem_cons_of_mem _ (List.mem_cons_of_mem _ (List.mem_cons_self ..))) (.inl list_nd)
    have cl8 := kp8 _ (List.mem_cons_of_mem _ (List.mem_cons_of_mem _ (List.mem_cons_of_mem _ (List.mem_cons_self ..)))) (.inr ⟨_, by assumption⟩)
    have cm8 := kp8 _ (List.mem_cons_of_mem _ (List.mem_cons_of_mem _ (List.mem_cons_of_mem _ (List.mem_cons_of_mem _ (List.mem_cons_self ..))))) (.inr ⟨_, by assumption⟩)
    k_steps
    refine Halt.mk ?_
    rename News _ _ _ _ => N8b
    refine Spec.use (put_spec w _ H vs c rows (List.mem_cons_of_mem _ hH8) (hR8.mono fun q hq => List.mem_cons_of_mem _ hq) (Nat.le_trans hsz (by omega)) sLevel _ (1 + dow) _ _ nm sLevel tnm _ 0 (List.mem_cons_self ..) (.int 1 _) (.int 1) (.inr (.inr ⟨_, _, rfl, rfl⟩)) hok (by decide +kernel) okx (by decide +kernel)) (by assumption) (by assumption) (by assumption) N8b (fun q hq => hq) (by assumption) rfl (by ktr_room) (by ktr_units) ?_
    rintro v9 h9 tk9 news9 ⟨H9, vs9, c9, e9, hH9, up9', hR9⟩ F9 N9
    rw [e9]
    have up9 : ∀ q ∈ news8, q ∈ news9 := fun q hq => up9' q (List.mem_cons_of_mem _ hq)
    k_steps
    rename News _ _ _ _ => N10
    have hlen9 : vs9.length ≤ n + 1 := by have h1 := datall_len hR9; have h2 := datall_len hR; rw [List.length_map] at h1 h2; have h3 := put_len (rows := rows) (wd := sLevel) (o := 1 + dow) (x := nm) (y := sLevel) (d := .int 1); omega
    have ag8 : Agree p8.view (putRows rows sLevel (1 + dow) nm sLevel (.int 1)) := by
      rw [ev8]
      rcases kvh8 with ⟨⟨u, hu⟩, rfl⟩ | ⟨hno, tl', rfl⟩
      · obtain ⟨tk', htk⟩ := view_lev AG (valid_l hnm) (at_pair hu)
        dsimp only at htk
        subst htk
        have := agree_put AG (valid_l hnm) ho3 (v := .int 1 tk') (.inr (.inr ⟨rfl, rfl⟩))
        rw [stored_self (AG.vnd _) hu] at this
        exact this
      · exact agree_put AG (valid_l hnm) ho3 (v := .int 1 tl') (.inr (.inr ⟨rfl, rfl⟩))
    obtain ⟨hp, hN⟩ := deed_end N10 (up9 _ src8) hxa5 hya5 hyb5 (T8.up up9) hH9 hR9 hlen9 ag8 hsep (fun q hq hs => up9 _ (kp8 _ (mem5 hq) hs))
    exact hret _ _ _ _ _ hp KtsTurn.refl (by assumption) hN (by assumption) (by assumption) (by assumption) (by assumption)
  · refine Spec.use (unlock_spec w t _ p n (TT.up (fun q hq => mem5 hq)) (by omega) (1 + dow) _ nm tnm _ (fun q hq => view_lev AG (valid_l hnm) hq)) (by assumption) (by assumption) (by assumption) N7 (fun q hq => hq) (by assumption) rfl (by ktr_room) (by ktr_units) ?_
    rintro v8 h8 tk8 news8 ⟨e8, kp8, p8, T8, ev8⟩ F8 N8
    subst e8
    have hH8 := kp8 _ (mem5 hH) (.inl list_nd)
    have hR8 := rows_keep (fun q hq hc => kp8 q (mem5 hq) (.inl (by rw [hc]; exact tup_nd))) hR (fun r hr => (AG.wf r hr).2)
    have src8 := kp8 _ (List.mem_cons_of_mem _ (List.mem_cons_of_mem _ (List.mem_cons_self ..))) (.inl list_nd)
    have cl8 := kp8 _ (List.mem_cons_of_mem _ (List.mem_cons_of_mem _ (List.mem_cons_of_mem _ (List.mem_cons_self ..)))) (.inr ⟨_, by assumption⟩)
    have cm8 := kp8 _ (List.mem_cons_of_mem _ (List.mem_cons_of_mem _ (List.mem_cons_of_mem _ (List.mem_cons_of_mem _ (List.mem_cons_self ..))))) (.inr ⟨_, by assumption⟩)
    k_steps
    refine Halt.mk ?_
    rename News _ _ _ _ => N8b
    refine Spec.use (put_spec w _ H vs c rows (List.mem_cons_of_mem _ hH8) (hR8.mono fun q hq => List.mem_cons_of_mem _ hq) (Nat.le_trans hsz (by omega)) sLevel _ (1 + dow) _ _ nm sLevel tnm _ 0 (List.mem_cons_self ..) .none .none (.inl ⟨rfl, rfl⟩) hok (by decide +kernel) okx (by decide +kernel)) (by assumption) (by assumption) (by assumption) N8b (fun q hq => hq) (by assumption) rfl (by ktr_room) (by ktr_units) ?_
    rintro v9 h9 tk9 news9 ⟨H9, vs9, c9, e9, hH9, up9', hR9⟩ F9 N9
    rw [e9]
    have up9 : ∀ q ∈ news8, q ∈ news9 := fun q hq => up9' q (List.mem_cons_of_mem _ hq)
    k_steps
    rename News _ _ _ _ => N10
    have hlen9 : vs9.length ≤ n + 1 := by have h1 := datall_len hR9; have h2 := datall_len hR; rw [List.length_map] at h1 h2; have h3 := put_len (rows := rows) (wd := sLevel) (o := 1 + dow) (x := nm) (y := sLevel) (d := .none); omega
    obtain ⟨hp, hN⟩ := deed_end N10 (up9 _ src8) hxa5 hya5 hyb5 (T8.up up9) hH9 hR9 hlen9 (by rw [ev8]; exact agree_del AG (valid_l hnm) _) hsep (fun q hq hs => up9 _ (kp8 _ (mem5 hq) hs))
    exact hret _ _ _ _ _ hp KtsTurn.refl (by assumption) hN (by assumption) (by assumption) (by assumption) (by assumption)
  · refine Spec.use (drop_spec w t _ p n (TT.up (fun q hq => mem5 hq)) (by omega) (1 + dow) _) (by assumption) (by assumption) (by assumption) N7 (fun q hq => hq) (by assumption) rfl (by ktr_room) (by ktr_units) ?_
    rintro v8 h8 tk8 news8 ⟨e8, kp8, p8, T8, ev8⟩ F8 N8
    subst e8
    have hH8 := kp8 _ (mem5 hH) (.inl list_nd)
    have hR8 := rows_keep (fun q hq hc => kp8 q (mem5 hq) (.inl (by rw [hc]; exact tup_nd))) hR (fun r hr => (AG.wf r hr).2)
    have src8 := kp8 _ (List.mem_cons_of_mem _ (List.mem_cons_of_mem _ (List.mem_cons_self ..))) (.inl list_nd)
    have cl8 := kp8 _ (List.mem_cons_of_mem _ (List.mem_cons_of_mem _ (List.mem_cons_of_mem _ (List.mem_cons_self ..)))) (.inr ⟨_, by assumption⟩)
    have cm8 := kp8 _ (List.mem_cons_of_mem _ (List.mem_cons_of_mem _ (List.mem_cons_of_mem _ (List.mem_cons_of_mem _ (List.mem_cons_self ..))))) (.inr ⟨_, by assumption⟩)
    k_steps
    refine Halt.mk ?_
    have hRl := datall_len hR
    refine LCt.CompSrcT.ledger (by rfl) (by k_asm) (by k_asm) hH8 (by rw [List.size_toArray, sizeLine_eq]; omega) ?_
    intro g9
    refine rest_ind (fun i ys led₁ => (∀ q ∈ news8, q ∈ led₁) ∧ DatAll led₁ ys (((rows.take i).filter (fun r => decide (r.o ≠ 1 + dow))).map rowDat)) ?_ ?_ _ 0 [] _ (Nat.zero_add _) ⟨fun q hq => hq, .nil⟩
    · intro i ys led₁ v I oI C oC D m₂ h tk E' G hi hinv hG0 hG1 hv hC hx F5 N5 off ne
      obtain ⟨dr, hdr, hdv⟩ := datall_get hR8 (i := i) (by simpa using hv)
      rw [List.getElem?_map] at hdr
      obtain ⟨r, hri, rfl⟩ := Option.map_eq_some_iff.mp hdr
      obtain ⟨ra, rk, t1, t2, t3, t4, rv, n1, n2, rfl, hra, hrk, hrv⟩ := row_open hdv
      have hra1 := hinv.1 _ hra
      have cl9 := hinv.1 _ cl8
      have cm9 := hinv.1 _ cm8
      k_steps
      all_goals rename_i ht
      all_goals first
        | (refine CompEnd.intro (by assumption) (by assumption) led₁ (fun p hp => by repeat (first | exact hp | exact List.mem_append_right _ hp | refine List.mem_cons_of_mem _ ?_)) off (.inr ⟨_, hinv.1 _ hH8, rfl, _, rfl⟩) (hG1 _ led₁ ⟨hinv.1, ?_⟩); rw [filt_take hri (by simpa using ht), List.map_append]; exact datall_snoc hinv.2 (dat_mono hinv.1 hdv))
        | (refine CompEnd.intro (by assumption) (by assumption) led₁ (fun p hp => by repeat (first | exact hp | exact List.mem_append_right _ hp | refine List.mem_cons_of_mem _ ?_)) off (.inr ⟨_, hinv.1 _ hH8, rfl, _, rfl⟩) (hG0 led₁ ⟨hinv.1, ?_⟩); rw [filt_skip hri (by simpa using ht)]; exact hinv.2)
    · intro ys led₂ hinv2
      have hlen : vs.toArray.size = rows.length := by rw [List.size_toArray, hRl, List.length_map]
      rw [hlen, List.take_length] at hinv2
      obtain ⟨hup, hinv3⟩ := hinv2
      k_steps
      rename News _ _ _ _ => N10
      have hlen9 : ys.length ≤ n + 1 := by have h1 := datall_len hinv3; have h2 := List.length_filter_le (fun r : Row => decide (r.o ≠ 1 + dow)) rows; rw [List.length_map] at h1 hRl; omega
      obtain ⟨hp, hN⟩ := deed_end N10 (List.mem_cons_of_mem _ (hup _ src8)) hxa5 hya5 hyb5 ((T8.up (fun q hq => List.mem_cons_of_mem _ (hup q hq))).mono (fun _ h _ => h) (Nat.le_succ n)) (c := ys.length) (List.mem_cons_self ..) (hinv3.mono fun q hq => List.mem_cons_of_mem _ hq) hlen9 (by rw [ev8]; exact agree_drop AG _ (fun r => by simp)) hsep (fun q hq hs => List.mem_cons_of_mem _ (hup _ (kp8 _ (mem5 hq) hs)))
      exact hret _ _ _ _ _ hp KtsTurn.refl (by assumption) hN (by assumption) (by assumption) (by assumption) (by assumption)
open PySem PySem.W PyProof.Rows
set_option maxRecDepth 100000
set_option maxHeartbeats 4000000
theorem pairs_nil {prog : Program} {w : World} {K : Type} [DecidableEq K] {knd : PySem.KeyKind prog w K} {es : List DictEntry} (h : Pairs knd es []) : es = [] := by
  cases es with
  | nil => rfl
  | cons e es => cases h
theorem tab_new {prog : Program} {w : World} {news : Led} {t dx dl ds dm : Addr} {t1 t2 t3 : Tok} {o1 o2 o3 : Obj} (hi : (t, instObj 184 dx) ∈ news) (ha : (dx, tabDict w.params t1 t2 t3 dl ds dm) ∈ news)
    (h1 : (dl, o1) ∈ news) (e1 : o1.IsDictOf (PySem.strKind prog w) []) (h2 : (ds, o2) ∈ news) (e2 : o2.IsDictOf (PySem.strKind prog w) []) (h3 : (dm, o3) ∈ news) (e3 : o3.IsDictOf (PySem.strKind prog w) [])
    (n1 : dl ≠ ds) (n2 : dl ≠ dm) (n3 : ds ≠ dm) (m1 : dx ≠ dl) (m2 : dx ≠ ds) (m3 : dx ≠ dm) (s1 : (dl == sysModules) = false) (s2 : (ds == sysModules) = false) (s3 : (dm == sysModules) = false) :
    ∃ p, Tab prog w news t p 0 ∧ ∀ k, p.view k = [] := by
  obtain ⟨es, ep, hx, hd, hk, hp, _⟩ := e2
  refine ⟨⟨dx, dl, ds, dm, t1, t2, t3, [], [], [], fun _ => []⟩, ⟨hi, ha, ⟨o1, h1, e1⟩, ⟨⟨o2, es, ep, h2, hx, hd, by rw [pairs_nil hp]; rfl, List.nodup_nil⟩, (fun _ h => by cases h)⟩, ⟨o3, h3, e3⟩, (fun _ h => by cases h), ?_, ?_, ?_, Nat.le_refl _, Nat.le_refl _, Nat.le_refl _, (fun _ h => by cases h)⟩, fun k => ?_⟩
  · simp [Parts.dicts, Parts.inner, n1, n2, n3]
  · simp [Parts.dicts, Parts.inner, m1, m2, m3]
  · intro a h
    simp only [Parts.dicts, Parts.inner, List.map_nil, List.append_nil, List.mem_cons, List.not_mem_nil, or_false] at h
    rcases h with rfl | rfl | rfl <;> assumption
  · cases k <;> rfl
theorem tab_made {prog : Program} {w : World} {h₀ h : Heap} {L : Addr} {rest : Led} {t dx dl ds dm : Addr} {t1 t2 t3 : Tok} {o1 o2 o3 : Obj} (N : News h₀ L h ((dm, o3) :: (ds, o2) :: (dl, o1) :: (t, instObj 184 dx) :: (dx, tabDict w.params t1 t2 t3 dl ds dm) :: rest))
    (e1 : o1.IsDictOf (PySem.strKind prog w) []) (e2 : o2.IsDictOf (PySem.strKind prog w) []) (e3 : o3.IsDictOf (PySem.strKind prog w) [])
    (n1 : @LT.lt Nat _ dl ds) (n2 : @LT.lt Nat _ dl dm) (n3 : @LT.lt Nat _ ds dm) (m1 : @LT.lt Nat _ dx dl) (m2 : @LT.lt Nat _ dx ds) (m3 : @LT.lt Nat _ dx dm) (s1 : (dl == sysModules) = false) (s2 : (ds == sysModules) = false) (s3 : (dm == sysModules) = false) :
    ∃ p, Tab prog w ((dm, o3) :: (ds, o2) :: (dl, o1) :: (t, instObj 184 dx) :: (dx, tabDict w.params t1 t2 t3 dl ds dm) :: rest) t p 0 ∧ ∀ k, p.view k = [] :=
  tab_new (List.mem_cons_of_mem _ (List.mem_cons_of_mem _ (List.mem_cons_of_mem _ (List.mem_cons_self ..)))) (List.mem_cons_of_mem _ (List.mem_cons_of_mem _ (List.mem_cons_of_mem _ (List.mem_cons_of_mem _ (List.mem_cons_self ..))))) (List.mem_cons_of_mem _ (List.mem_cons_of_mem _ (List.mem_cons_self ..))) e1 (List.mem_cons_of_mem _ (List.mem_cons_self ..)) e2 (List.mem_cons_self ..) e3 (Nat.ne_of_lt n1) (Nat.ne_of_lt n2) (Nat.ne_of_lt n3) (Nat.ne_of_lt m1) (Nat.ne_of_lt m2) (Nat.ne_of_lt m3) s1 s2 s3
open PySem PySem.W PyProof.Rows
set_option maxRecDepth 100000
set_option maxHeartbeats 4000000
section
variable {prog : Program} {w : World} {A : Around} {E : Value → Shared → Prop} {s : Shared} {h₀ : Heap} {env : Env} {body : List Stmt} {Q : Flow → Shared → Prop} {m₀ : Str → Option Value} {led : Led}
def RanE (h₀ : Heap) (L : Addr) (I : Addr) (oI : Obj) (J' : (Str → Option Value) → Led → Prop) (s : Shared) (f : Flow) (s₂ : Shared) : Prop :=
  f = .next ∧ ∃ h' tk' m' led', s₂ = { s with heap := h', toks := tk' } ∧ Fr h₀ L h' m' ∧ News h₀ L h' ((I, oI) :: led') ∧ (∀ q ∈ led', q.1 ≠ I) ∧ J' m' led'
theorem RanE.mk {h₀ h' : Heap} {L I : Addr} {oI : Obj} {m' : Str → Option Value} {led' : Led} {J' : (Str → Option Value) → Led → Prop} {s : Shared} {tk' : Nat} (F : Fr h₀ L h' m') (N : News h₀ L h' ((I, oI) :: led')) (ha : ∀ q ∈ led', q.1 ≠ I) (hJ : J' m' led') :
    RanE h₀ L I oI J' s .next { s with heap := h', toks := tk' } := ⟨rfl, h', tk', m', led', rfl, F, N, ha, hJ⟩
/-- over a range -/
theorem loop_range {r : Addr} {a b : Int} {t u v : Tok} {n : Nat} {led0 : Led} {x : Str} {px : Pos} (J : Nat → (Str → Option Value) → Led → Prop) (hh : A.handled = none) (F : Fr h₀ env.locals s.heap m₀) (N : News h₀ env.locals s.heap led)
    (hr : IsRange s.heap r a b 1 t u v) (hsmall : Builtin.Range.small a b 1 = true) (hn : Builtin.Range.rangeSize a b 1 = ((n : Nat) : Int)) (hsub : ∀ q ∈ led0, q ∈ led) (h0 : J 0 m₀ led0)
    (turn : ∀ i tk₀ m₁ h tk I oI led₁, i < n → J i m₁ led₁ → oI.cls = .type "range_iterator" → (∀ q ∈ led₁, q.1 ≠ I) → Fr h₀ env.locals h m₁ → News h₀ env.locals h ((I, oI) :: led₁) →
      wpAny (model prog w) A (assign (.Name x px) env (.int (a + (i : Int)) tk₀)) (fun _ s₃ => wpAny (model prog w) A (execs body env) (RanE h₀ env.locals I oI (J (i + 1)) s) E s₃) E { s with heap := h, toks := tk })
    (done : ∀ m₁ h tk led', J n m₁ led' → Fr h₀ env.locals h m₁ → News h₀ env.locals h led' → Q .next { s with heap := h, toks := tk }) :
    wpAny (model prog w) A (pyIter (.ref r)) (fun it s₂ => TurnsAt prog w A h₀ env (.Name x px) body Q E it s₂) E s := by
  refine wpAny_pyIter_range hr hsmall ?_
  have W := KTurns.ofWalks (target := .Name x px) (LCg.range_walks (prog := prog) (w := w) (A := A) (I := s.heap.objs.size) hh a n) fun i v s Q E st q => by
    unfold letOwnedTupleGo
    exact wpAny_pure q
  refine ⟨_, _, _, n, _, _, _, m₀, led0, J, rfl, W, ?_, ?_, ?_, by show IsRangeIter _ _ _ _ _; rw [hn]; simpa using Heap.get?_push_size _ rfl, F.push _, (fun p hp => ⟨Heap.get?_push_of_some _ (N p (hsub p hp)).1, (N p (hsub p hp)).2⟩), h0, ?_, ?_⟩
  · intro hI
    exact absurd F.ns.lt ((List.mem_singleton.mp hI) ▸ Nat.lt_irrefl _)
  · intro b hb
    rw [List.mem_singleton.mp hb]
    exact next_is_new F
  · intro q hq hI
    exact absurd (Heap.lt_size (N q (hsub q hq)).1) ((List.mem_singleton.mp hI) ▸ Nat.lt_irrefl _)
  · rintro i v m₁ news₁ h₁ tk₁ own hin ⟨tv, rfl⟩ hJ hoff hfp hown hcov hst F₁ N₁
    obtain ⟨oI, hst, hcI⟩ : ∃ o, h₁.get? s.heap.objs.size = some o ∧ o.cls = .type "range_iterator" := ⟨_, hst, rfl⟩
    have hI : (s.heap.objs.size, oI) ∈ own := hcov s.heap.objs.size (List.mem_singleton.mpr rfl) (next_is_new F) _ hst
    have hon : ∀ p ∈ own, p = (s.heap.objs.size, oI) := fun p hp => by
      have e1 := List.mem_singleton.mp (hfp p hp)
      have e2 := hown p hp
      obtain ⟨p1, p2⟩ := p
      dsimp only at e1 e2
      subst e1
      rw [Prod.mk.injEq]
      exact ⟨rfl, (Option.some.inj (hst.symm.trans e2)).symm⟩
    refine wpAny_mono (turn i tv m₁ h₁ tk₁ _ oI news₁ hin hJ hcI (fun q hq e => hoff q hq (List.mem_singleton.mpr e)) F₁ (fun p hp => ?_)) (fun _ s₃ q => wpAny_mono q (fun f s₂ q => ?_) fun _ _ e => e) fun _ _ e => e
    · rcases List.mem_cons.mp hp with rfl | hp
      · exact N₁ _ (List.mem_append_left _ hI)
      · exact N₁ _ (List.mem_append_right _ hp)
    · obtain ⟨rfl, h', tk, m', led', e, F', N', ha, hG⟩ := q
      refine ⟨rfl, h', tk, m', led', e, F', fun p hp => ?_, fun q hq e => ha q hq (List.mem_singleton.mp e), hG⟩
      rcases List.mem_append.mp hp with hp | hp
      · rw [hon p hp]
        exact N' _ (List.mem_cons_self ..)
      · exact N' _ (List.mem_cons_of_mem _ hp)
  · intro h' tk m' news' F' N' _ hJ
    exact done m' h' tk news' hJ F' N'
end
section
variable {prog : Program} {w : World} {t : Addr} {news news' : Led} {p : Parts} {n : Nat}
theorem Tab.monoR (T : Tab prog w news t p n) (hs : ∀ q ∈ news, q.2.cls ≠ .type "range_iterator" → q ∈ news') : Tab prog w news' t p n where
  inst := hs _ T.inst (fun e => nomatch e)
  attrs := hs _ T.attrs (by intro e; injection e with e; exact absurd e (by decide))
  lo := let ⟨o, h1, h2⟩ := T.lo; ⟨o, hs _ h1 (by dsimp only; rw [IsDictOf_cls h2]; decide), h2⟩
  so := ⟨let ⟨o, es, ep, h1, h2, r⟩ := T.so.1; ⟨o, es, ep, hs _ h1 (by dsimp only; rw [h2.1]; decide), h2, r⟩, fun x hx => key_weaken (fun q h1 h2 => hs q h1 (by rw [h2]; decide)) (T.so.2 x hx)⟩
  mo := let ⟨o, h1, h2⟩ := T.mo; ⟨o, hs _ h1 (by dsimp only; rw [IsDictOf_cls h2]; decide), h2⟩
  inn := fun a ha => let ⟨o, h1, h2⟩ := T.inn a ha; ⟨o, hs _ h1 (by dsimp only; rw [IsDictOf_cls h2]; decide), h2⟩
  nd := T.nd
  ndx := T.ndx
  sys := T.sys
  ll := T.ll
  sl := T.sl
  ml := T.ml
  cl := T.cl
end
theorem pool_use {w : World} {l : Addr} {vs : List Value} {ns : List Int} {k : Int} {tk0 : Tok} {news : Led}
    {mean : ExcName → Option Value} {mg mb : Str → Option Value} {dp un : Nat} {gd : Option (List Code)} {cn : Str} {cs : Scope} {a : Addr} {ccd : Value} {cl : List (Str × Addr)} {outer : List Env} {A₀ : Around} {base h₀ : Heap} {L : Addr} {m : Str → Option Value} {s : Shared} {Q E : Value → Shared → Prop}
    (hI : IntsAre vs ns) (hlen : ns.length ≤ 63) (hk0 : 0 ≤ k) (hk1 : k < 64) (B : Below A₀ base outer h₀) (F : Fr h₀ L s.heap m) (X : (hd.heap_1 w.params).In h₀) (N : News h₀ L s.heap news) (T : Top Mine.view (looseW Mine.view [Str.ofString "LockTable"]) mean mg mb h₀) (hL : h₀.IsList l vs.toArray) (hk : cs.kind = .function)
    (hd' : dp + 2 < recursionLimit) (hu : un + 20 < cLine)
    (ret : ∀ D x y t1 t2 c h' tk', 0 ≤ x → 0 ≤ y → y < 2147483647 → (∀ p ∈ news, p.1 ≠ D) → Fr h₀ L h' m → News h₀ L h' ((D, PySem.W.listOf #[.int x t1, .int y t2] c) :: news) → Q (.ref D) { s with heap := h', toks := tk' }) :
    wpAny (model PySem.Challenge.rw_xm0751_01.row.prog w) (ktrTop dp un gd cn cs L a ccd cl outer) (call (.ref 195) [.ref l, .int k tk0]) Q E s :=
  pool_spec w l vs ns hI hlen k tk0 hk0 hk1 news _ _ _ _ _ _ _ _ _ _ _ _ _ _ _ _ _ _ _ _ B F X N T hL hk hd' hu ret
theorem fr_as {h₀ h : Heap} {L : Addr} {m : Str → Option Value} {x : Str} {v : Value} (F : Fr h₀ L h m) (e : m x = some v) : Fr h₀ L h (fun y => if y = x then some v else m y) := by
  have : m = fun y => if y = x then some v else m y := by
    funext y
    by_cases q : y = x
    · rw [if_pos q, q, e]
    · rw [if_neg q]
  rw [← this]
  exact F
theorem fr_as4 {h₀ h : Heap} {L : Addr} {m : Str → Option Value} {x1 x2 x3 x4 : Str} {v1 v2 v3 v4 : Value} (F : Fr h₀ L h m) (e1 : m x1 = some v1) (e2 : m x2 = some v2) (e3 : m x3 = some v3) (e4 : m x4 = some v4) :
    Fr h₀ L h (fun y => if y = x1 then some v1 else if y = x2 then some v2 else if y = x3 then some v3 else if y = x4 then some v4 else m y) := by
  have : m = fun y => if y = x1 then some v1 else if y = x2 then some v2 else if y = x3 then some v3 else if y = x4 then some v4 else m y := by
    funext y
    by_cases q1 : y = x1
    · rw [if_pos q1, q1, e1]
    rw [if_neg q1]
    by_cases q2 : y = x2
    · rw [if_pos q2, q2, e2]
    rw [if_neg q2]
    by_cases q3 : y = x3
    · rw [if_pos q3, q3, e3]
    rw [if_neg q3]
    by_cases q4 : y = x4
    · rw [if_pos q4, q4, e4]
    rw [if_neg q4]
  rw [← this]
  exact F
theorem deedst_drop {w : World} {t a H : Addr} {n : Nat} {led rest : Led} {vs : List Value} {c : Nat} {rows : List Row} {p : Parts} {x y : Int} {t1 t2 : Tok} {k : Nat} {h₀ h : Heap} {L I : Addr} {oI : Obj} (S : DeedSt w t a H n led rest vs c rows p x y t1 t2 k) (N : News h₀ L h led) (hI : (I, oI) ∈ rest) (hc : oI.cls = .type "range_iterator") :
    DeedSt w t a H n ((a, srcObj x y t1 t2 k) :: rest.filter fun q => decide (q.1 ≠ I)) (rest.filter fun q => decide (q.1 ≠ I)) vs c rows p x y t1 t2 k ∧ (∀ q ∈ (a, srcObj x y t1 t2 k) :: rest.filter fun q => decide (q.1 ≠ I), q.1 ≠ I) ∧ ∀ q ∈ (I, oI) :: ((a, srcObj x y t1 t2 k) :: rest.filter fun q => decide (q.1 ≠ I)), q ∈ led := by
  obtain ⟨rfl, hsep, hx0, hy0, hy1, TT, hH, hR, hsz, AG⟩ := S
  have off : ∀ q ∈ rest, q.2.cls ≠ .type "range_iterator" → q ∈ rest.filter fun q => decide (q.1 ≠ I) := fun q hq hne => by
    refine List.mem_filter.mpr ⟨hq, ?_⟩
    simp only [decide_eq_true_eq]
    intro e
    obtain ⟨b, o⟩ := q
    dsimp only at e hne
    subst e
    exact hne (by rw [news_fun N (List.mem_cons_of_mem _ hq) (List.mem_cons_of_mem _ hI)]; exact hc)
  refine ⟨⟨rfl, fun q hq => hsep q (List.mem_filter.mp hq).1, hx0, hy0, hy1, TT.monoR off, off _ hH (by intro e; injection e with e; exact absurd e (by decide)), rows_keep (fun q hq hcl => off q hq (by rw [hcl]; decide)) hR fun r hr => (AG.wf r hr).2, hsz, AG⟩, fun q hq => ?_, fun q hq => ?_⟩
  · rcases List.mem_cons.mp hq with rfl | hq
    · exact fun e => hsep _ hI e.symm
    · simpa using (List.mem_filter.mp hq).2
  · rcases List.mem_cons.mp hq with rfl | hq
    · exact List.mem_cons_of_mem _ hI
    · rcases List.mem_cons.mp hq with rfl | hq
      · exact List.mem_cons_self ..
      · exact List.mem_cons_of_mem _ (List.mem_filter.mp hq).1
theorem deedst_add {w : World} {t a H : Addr} {n : Nat} {led rest : Led} {vs : List Value} {c : Nat} {rows : List Row} {p : Parts} {x y : Int} {t1 t2 : Tok} {k : Nat} {q : Addr × Obj} (S : DeedSt w t a H n led rest vs c rows p x y t1 t2 k) (hq : q.1 ≠ a) :
    DeedSt w t a H n ((a, srcObj x y t1 t2 k) :: q :: rest) (q :: rest) vs c rows p x y t1 t2 k := by
  obtain ⟨rfl, hsep, hx0, hy0, hy1, TT, hH, hR, hsz, AG⟩ := S
  exact ⟨rfl, List.forall_mem_cons.mpr ⟨hq, hsep⟩, hx0, hy0, hy1, TT.up fun q hq => List.mem_cons_of_mem _ hq, List.mem_cons_of_mem _ hH, hR.mono fun q hq => List.mem_cons_of_mem _ hq, hsz, AG⟩
theorem deed_start {w : World} {h₀ h : Heap} {L : Addr} {rest : Led} {l T t dx dl ds dm D : Addr} {t1 t2 t3 u1 u2 : Tok} {c : Nat} {x y : Int} {oT o1 o2 o3 : Obj}
    (N : News h₀ L h ((T, oT) :: (l, PySem.W.listOf #[] 0) :: (dm, o3) :: (ds, o2) :: (dl, o1) :: (t, instObj 184 dx) :: (dx, tabDict w.params t1 t2 t3 dl ds dm) :: (D, srcObj x y u1 u2 c) :: rest))
    (e1 : o1.IsDictOf (PySem.strKind PySem.Challenge.rw_xm0751_01.row.prog w) []) (e2 : o2.IsDictOf (PySem.strKind PySem.Challenge.rw_xm0751_01.row.prog w) []) (e3 : o3.IsDictOf (PySem.strKind PySem.Challenge.rw_xm0751_01.row.prog w) [])
    (n1 : @LT.lt Nat _ dl ds) (n2 : @LT.lt Nat _ dl dm) (n3 : @LT.lt Nat _ ds dm) (m1 : @LT.lt Nat _ dx dl) (m2 : @LT.lt Nat _ dx ds) (m3 : @LT.lt Nat _ dx dm) (hl : @LT.lt Nat _ D l) (s1 : (dl == sysModules) = false) (s2 : (ds == sysModules) = false) (s3 : (dm == sysModules) = false)
    (hr : ∀ q ∈ rest, q.1 ≠ D) (hx : 0 ≤ x) (hy : 0 ≤ y) (hy1 : y < 2147483647) :
    ∃ led0 rest0 p, DeedSt w t D l 0 led0 rest0 [] 0 [] p x y u1 u2 c ∧ (∀ q ∈ rest, q ∈ rest0) ∧ ∀ q ∈ led0, q ∈ (T, oT) :: (l, PySem.W.listOf #[] 0) :: (dm, o3) :: (ds, o2) :: (dl, o1) :: (t, instObj 184 dx) :: (dx, tabDict w.params t1 t2 t3 dl ds dm) :: (D, srcObj x y u1 u2 c) :: rest := by
  have dict_ne : ∀ {b : Addr} {o : Obj}, (b, o) ∈ (T, oT) :: (l, PySem.W.listOf #[] 0) :: (dm, o3) :: (ds, o2) :: (dl, o1) :: (t, instObj 184 dx) :: (dx, tabDict w.params t1 t2 t3 dl ds dm) :: (D, srcObj x y u1 u2 c) :: rest → o.cls ≠ .type "list" → b ≠ D := by
    rintro b o hb hc rfl
    rw [news_fun N hb ((List.mem_cons_of_mem _ (List.mem_cons_of_mem _ (List.mem_cons_of_mem _ (List.mem_cons_of_mem _ (List.mem_cons_of_mem _ (List.mem_cons_of_mem _ (List.mem_cons_of_mem _ (List.mem_cons_self ..)))))))))] at hc
    exact hc rfl
  obtain ⟨p, TT, hv⟩ := tab_new (news := (l, PySem.W.listOf #[] 0) :: (dm, o3) :: (ds, o2) :: (dl, o1) :: (t, instObj 184 dx) :: (dx, tabDict w.params t1 t2 t3 dl ds dm) :: rest) (List.mem_cons_of_mem _ (List.mem_cons_of_mem _ (List.mem_cons_of_mem _ (List.mem_cons_of_mem _ (List.mem_cons_self ..))))) (List.mem_cons_of_mem _ (List.mem_cons_of_mem _ (List.mem_cons_of_mem _ (List.mem_cons_of_mem _ (List.mem_cons_of_mem _ (List.mem_cons_self ..)))))) (List.mem_cons_of_mem _ (List.mem_cons_of_mem _ (List.mem_cons_of_mem _ (List.mem_cons_self ..)))) e1 (List.mem_cons_of_mem _ (List.mem_cons_of_mem _ (List.mem_cons_self ..))) e2 (List.mem_cons_of_mem _ (List.mem_cons_self ..)) e3 (Nat.ne_of_lt n1) (Nat.ne_of_lt n2) (Nat.ne_of_lt n3) (Nat.ne_of_lt m1) (Nat.ne_of_lt m2) (Nat.ne_of_lt m3) s1 s2 s3
  refine ⟨_, (l, PySem.W.listOf #[] 0) :: (dm, o3) :: (ds, o2) :: (dl, o1) :: (t, instObj 184 dx) :: (dx, tabDict w.params t1 t2 t3 dl ds dm) :: rest, p, ⟨rfl, ?_, hx, hy, hy1, TT, (List.mem_cons_self ..), .nil, Nat.le_refl _, agree_nil hv⟩, fun q hq => List.mem_cons_of_mem _ (List.mem_cons_of_mem _ (List.mem_cons_of_mem _ (List.mem_cons_of_mem _ (List.mem_cons_of_mem _ (List.mem_cons_of_mem _ (hq)))))), fun q hq => ?_⟩
  · refine List.forall_mem_cons.mpr ⟨Nat.ne_of_gt hl, ?_⟩
    refine List.forall_mem_cons.mpr ⟨dict_ne (List.mem_cons_of_mem _ (List.mem_cons_of_mem _ (List.mem_cons_self ..))) (by rw [IsDictOf_cls e3]; decide), ?_⟩
    refine List.forall_mem_cons.mpr ⟨dict_ne (List.mem_cons_of_mem _ (List.mem_cons_of_mem _ (List.mem_cons_of_mem _ (List.mem_cons_self ..)))) (by rw [IsDictOf_cls e2]; decide), ?_⟩
    refine List.forall_mem_cons.mpr ⟨dict_ne (List.mem_cons_of_mem _ (List.mem_cons_of_mem _ (List.mem_cons_of_mem _ (List.mem_cons_of_mem _ (List.mem_cons_self ..))))) (by rw [IsDictOf_cls e1]; decide), ?_⟩
    refine List.forall_mem_cons.mpr ⟨dict_ne (List.mem_cons_of_mem _ (List.mem_cons_of_mem _ (List.mem_cons_of_mem _ (List.mem_cons_of_mem _ (List.mem_cons_of_mem _ (List.mem_cons_self ..)))))) (fun e => nomatch e), ?_⟩
    exact List.forall_mem_cons.mpr ⟨dict_ne (List.mem_cons_of_mem _ (List.mem_cons_of_mem _ (List.mem_cons_of_mem _ (List.mem_cons_of_mem _ (List.mem_cons_of_mem _ (List.mem_cons_of_mem _ (List.mem_cons_self ..))))))) (by intro e; injection e with e; exact absurd e (by decide)), hr⟩
  · rcases List.mem_cons.mp hq with rfl | hq
    · exact (List.mem_cons_of_mem _ (List.mem_cons_of_mem _ (List.mem_cons_of_mem _ (List.mem_cons_of_mem _ (List.mem_cons_of_mem _ (List.mem_cons_of_mem _ (List.mem_cons_of_mem _ (List.mem_cons_self ..))))))))
    · refine List.mem_cons_of_mem _ ?_
      rcases List.mem_cons.mp hq with rfl | hq
      · exact List.mem_cons_self ..
      refine List.mem_cons_of_mem _ ?_
      rcases List.mem_cons.mp hq with rfl | hq
      · exact List.mem_cons_self ..
      refine List.mem_cons_of_mem _ ?_
      rcases List.mem_cons.mp hq with rfl | hq
      · exact List.mem_cons_self ..
      refine List.mem_cons_of_mem _ ?_
      rcases List.mem_cons.mp hq with rfl | hq
      · exact List.mem_cons_self ..
      refine List.mem_cons_of_mem _ ?_
      rcases List.mem_cons.mp hq with rfl | hq
      · exact List.mem_cons_self ..
      refine List.mem_cons_of_mem _ ?_
      rcases List.mem_cons.mp hq with rfl | hq
      · exact List.mem_cons_self ..
      refine List.mem_cons_of_mem _ ?_
      exact List.mem_cons_of_mem _ hq
open PySem PySem.W PyProof.Rows
set_option maxRecDepth 100000
set_option maxHeartbeats 4000000
local macro_rules | `(tactic| walk_at "call ref") => `(tactic| (k_here; (first | (with_reducible show wpAny _ _ (call (Value.ref 216) _ _) _ _ _) | (with_reducible show wpAny _ _ (call (Value.ref 181) _ _) _ _ _) | (with_reducible show wpAny _ _ (call (Value.ref 160) _ _) _ _ _) | (with_reducible show wpAny _ _ (call (Value.ref 195) _ _) _ _ _) | (with_reducible show wpAny _ _ (call (Value.ref 236) _ _) _ _ _) | (with_reducible show wpAny _ _ (call (Value.ref 231) _ _) _ _ _)); refine Halt.out ?_))
local macro_rules | `(tactic| walk_at "exec For Name Call cons nil") => `(tactic| (k_here; (rename Fr _ _ _ _ => lF'); (with_unfolding_all refine' For_turns lF' ?_; k_whole)))
def LawI (w : World) (sl a t I : Addr) (oI : Obj) (i : Nat) (m : Str → Option Value) (led : Led) : Prop :=
  m (Str.ofString "script") = some (.ref sl) ∧ m (Str.ofString "source") = some (.ref a) ∧ m (Str.ofString "table") = some (.ref t) ∧
    ∃ H rest vs c rows p x y t1 t2 k, m (Str.ofString "held") = some (.ref H) ∧ DeedSt w t a H i led rest vs c rows p x y t1 t2 k ∧ (I, oI) ∈ rest
def LawJ (sl : Addr) (_ : Nat) (m : Str → Option Value) (led : Led) : Prop := m (Str.ofString "script") = some (.ref sl) ∧ led = []
theorem law_holds : PySem.Challenge.rw_xm0751_01.Holds := by
  refine hd ?_
  w_strict (
    k_go0
    (all_goals try k_fold)
    rename IntsAre _ _ => hIs
    rename Heap.IsList _ _ _ => hLs
    k_steps
    refine Halt.mk ?_
    rename_i d1 _ o1 lo1 hs1 _ _ _ l1 _ d2 _ o2 lo2 hs2 _ _ _ l2 _ d3 _ o3 lo3 hs3 _ _ _ l3 _ _ _ Gc kX _ F1 N1
    obtain ⟨p1, T1, v1⟩ := tab_made N1 hs1 hs2 hs3 l2.1 l3.2.1 l3.1 l1.2 l2.2.2 l3.2.2.2 lo1 lo2 lo3
    refine SpecS.use (law_hold_spec _ _ _ p1 0 T1 (by decide) 1 _ sA sW _ _ false (fun q hq => by rw [v1] at hq; cases hq)) (by assumption) (by assumption) (by assumption) N1 (fun q hq => hq) (by assumption) (by assumption) (by assumption) ktsDicts_nil rfl (by ktr_room) (by ktr_units) ?_
    rintro z2 h2 tk2 news2 g2 ⟨kp2, p2, T2, alt2⟩ TU2 F2 N2 B2 X2 TP2 D2
    have z2e : z2 = .bool true ∧ ∃ b, p2.view (.s [sA, sW]) = [(1, .bool b)] := by
      rcases alt2 with ⟨⟨q, hq, _⟩, _⟩ | ⟨_, h, b2, _, ev2⟩
      · rw [v1] at hq; cases hq
      · refine ⟨h, b2, ?_⟩
        rw [ev2, v1]
        unfold vset
        rw [if_pos rfl]
        rfl
    obtain ⟨rfl, b2, v2⟩ := z2e
    replace F2 := fr_nil TU2 F2
    replace N2 := news_nil TU2 N2
    clear B2 X2 TP2 D2 TU2 N1 alt2 kp2
    k_steps
    refine Halt.mk ?_
    refine SpecS.use (law_hold_spec _ _ _ p2 1 T2 (by decide) 2 _ sA sW _ _ true (fun q hq => by rw [v2] at hq; rw [List.mem_singleton.mp hq]; exact ⟨_, rfl⟩)) (by assumption) (by assumption) (by assumption) N2 (fun q hq => hq) (by assumption) (by assumption) (by assumption) ktsDicts_nil rfl (by ktr_room) (by ktr_units) ?_
    rintro z3 h3 tk3 news3 g3 ⟨kp3, p3, T3, alt3⟩ TU3 F3 N3 B3 X3 TP3 D3
    have z3e : z3 = .bool false ∧ p3.view (.s [sA, sW]) = [(1, .bool b2)] := by
      rcases alt3 with ⟨_, h, ev⟩ | ⟨h, _⟩
      · exact ⟨h, by rw [ev, v2]⟩
      · exact absurd ⟨_, by rw [v2]; exact List.mem_singleton.mpr rfl, (show (1 : Int) ≠ 2 by decide), .inl rfl⟩ h
    obtain ⟨rfl, v3⟩ := z3e
    replace F3 := fr_nil TU3 F3
    replace N3 := news_nil TU3 N3
    have hin3a := T3.inst
    have hin3b := T3.attrs
    clear B3 X3 TP3 D3 TU3 N2 alt3 kp3
    k_steps
    refine Halt.mk ?_
    refine Spec.use (drop_spec _ _ _ p3 2 T3 (by decide) 1 _) (by assumption) (by assumption) (by assumption) N3 (fun q hq => hq) (by assumption) rfl (by ktr_room) (by ktr_units) ?_
    rintro z4 h4 tk4 news4 ⟨rfl, kp4, p4, T4, ev4⟩ F4 N4
    have v4 : p4.view (.s [sA, sW]) = [] := by
      rw [ev4]
      dsimp only
      rw [v3]
      rfl
    clear N3 ev4 kp4 hin3a hin3b
    have hin4a := T4.inst
    have hin4b := T4.attrs
    k_steps
    refine Halt.mk ?_
    refine SpecS.use (law_hold_spec _ _ _ p4 2 T4 (by decide) 2 _ sA sW _ _ true (fun q hq => by rw [v4] at hq; cases hq)) (by assumption) (by assumption) (by assumption) N4 (fun q hq => hq) (by assumption) (by assumption) (by assumption) ktsDicts_nil rfl (by ktr_room) (by ktr_units) ?_
    rintro z5 h5 tk5 news5 g5 ⟨kp5, p5, T5, alt5⟩ TU5 F5 N5 B5 X5 TP5 D5
    have z5e : z5 = .bool true ∧ ∃ b, p5.view (.s [sA, sW]) = [(2, .bool b)] := by
      rcases alt5 with ⟨⟨q, hq, _⟩, _⟩ | ⟨_, h, b5, _, ev5⟩
      · rw [v4] at hq; cases hq
      · refine ⟨h, b5, ?_⟩
        rw [ev5, v4]
        unfold vset
        rw [if_pos rfl]
        rfl
    obtain ⟨rfl, b5, v5⟩ := z5e
    replace F5 := fr_nil TU5 F5
    replace N5 := news_nil TU5 N5
    have hin5a := T5.inst
    have hin5b := T5.attrs
    clear B5 X5 TP5 D5 TU5 N4 alt5 kp5
    k_steps
    refine Halt.mk ?_
    refine Spec.use (holders_spec _ _ _ p5 3 T5 (by decide) sA sW _ _) (by assumption) (by assumption) (by assumption) N5 (fun q hq => hq) (by assumption) rfl (by ktr_room) (by ktr_units) ?_
    rintro z6 h6 tk6 news6 ⟨D6, vs6, c6, rfl, rfl, hI6⟩ F6 N6
    rw [v5] at hI6
    cases hI6 with
    | cons _ _ hI7 =>
    cases hI7
    clear N5
    k_steps
    refine Halt.mk ?_
    rename News _ _ _ _ => N7
    refine (dat_cmp N7 (da := .list [.int 2]) (db := .list [.int 2]) (.list (vs := [.int 2 _]) (List.mem_cons_of_mem _ (List.mem_cons_self ..)) (.cons (.int _ _) .nil)) (.list (vs := [.int 2 _]) (List.mem_cons_self ..) (.cons (.int _ _) .nil)) (by rfl) (by rfl) (by ktr_units) true (by simp)).2 ?_
    k_steps
    refine Halt.mk ?_
    clear hin5a hin5b T5 v5 T4 v4 T3 v3 T2 v2 T1 v1
    refine loop_range (LawJ _) rfl (by assumption) (by assumption) (by assumption) (small_one (by decide) (by decide) (by repeat (first | omega | split)) (by repeat (first | omega | split))) (rangeSize_nat _ _) (led0 := []) (fun _ h => nomatch h) ⟨rfl, rfl⟩ ?_ ?_
    · rintro i tk₀ m₁ h tk I oI led₁ hi ⟨hscr, rfl⟩ hcI hoff F1 N1
      have hi64 : i < 64 := by
        revert hi
        repeat (first | omega | split)
      replace F1 := fr_as F1 hscr
      clear hscr
      k_steps
      refine Halt.mk ?_
      clear N1
      rename News _ _ _ _ => N1
      refine pool_use hIs (by omega) (by omega) (by omega) (by assumption) (by assumption) (by assumption) N1 (by assumption) hLs rfl (by ktr_room) (by ktr_units) ?_
      intro D x y u1 u2 c h2 tk2 hx hy hy1 hsepI F2 N2
      clear N1
      k_steps
      refine Halt.mk ?_
      rename News _ _ _ _ => N3
      obtain ⟨led0, rest0, p0, S0, hI0, hsub0⟩ := deed_start N3 (by assumption) (by assumption) (by assumption) (by omega) (by omega) (by omega) (by omega) (by omega) (by omega) (by omega) (by assumption) (by assumption) (by assumption) (fun q hq => hsepI q hq) hx hy hy1
      refine loop_range (LawI _ _ _ _ I oI) rfl (by assumption) N3 (by assumption) (small_one (by decide) (by decide) (by decide) (by decide)) (n := 9) (by decide) hsub0 ⟨rfl, rfl, rfl, _, _, _, _, _, _, _, _, _, _, _, rfl, S0, hI0 _ (List.mem_singleton.mpr rfl)⟩ ?_ ?_
      · rintro j tk₁ m₂ h tk I2 oI2 led₁ hj ⟨hscr, hsrc, htab, H, rest, vs, cv, rows, p, x1, y1, t1, t2, k1, hheld, S, hIr⟩ hcI2 hoff2 F5 N5
        have e5 := S.led_eq
        subst e5
        have hIne : I ≠ I2 := fun e => hoff2 _ (List.mem_cons_of_mem _ hIr) e
        have hDne : I2 ≠ D := fun e => hoff2 _ (List.mem_cons_self ..) e.symm
        have st2 : Stay oI2 := .inl (by rw [hcI2]; decide)
        have st1 : Stay oI := .inl (by rw [hcI]; decide)
        have S' := deedst_add (q := (I2, oI2)) S hDne
        replace F5 := fr_as4 F5 hsrc htab hheld hscr
        clear hscr hsrc htab hheld N3 hsub0 S0 hI0
        k_steps
        refine Halt.mk ?_
        clear N5
        rename News _ _ _ _ => N6
        refine SpecS.use (deed_spec _ _ _ _ j _ _ vs cv rows p x1 y1 t1 t2 k1 S' (by omega)) (by assumption) (by assumption) (by assumption) N6 (List.forall_mem_cons.mpr ⟨List.mem_cons_of_mem _ (List.mem_cons_self ..), List.forall_mem_cons.mpr ⟨List.mem_cons_self .., fun q hq => List.mem_cons_of_mem _ (List.mem_cons_of_mem _ hq)⟩⟩) (by assumption) (by assumption) (by assumption) ktsDicts_nil rfl (by ktr_room) (by ktr_units) ?_
        rintro z7 h7 tk7 news7 g7 ⟨H7, rest7, vs7, c7, rows7, p7, x7, y7, u7, v7, k7, rfl, S7, K7⟩ TU7 F7 N7 B7 X7 TP7 D7
        replace F7 := fr_nil TU7 F7
        replace N7 := news_nil TU7 N7
        have e7 := S7.led_eq
        subst e7
        clear B7 X7 TP7 D7 TU7 N6
        k_steps
        refine Halt.mk ?_
        rename News _ _ _ _ => N7
        refine Spec.use (right_spec _ _ _ p7 (j + 1) (S7.tab.up fun q hq => List.mem_cons_of_mem _ hq) (by omega) H7 vs7 c7 rows7 (List.mem_cons_of_mem _ S7.held) (S7.rows_.mono fun q hq => List.mem_cons_of_mem _ hq) (Nat.le_trans S7.len (by omega)) (agree_ok S7.agree) (agree_hS S7.agree) (agree_hM S7.agree) (agree_hL S7.agree) (agree_hLv S7.agree)) (by assumption) (by assumption) (by assumption) N7 (fun q hq => hq) (by assumption) rfl (by ktr_room) (by ktr_units) ?_
        rintro z8 h8 tk8 news8 ⟨up8, rfl⟩ F8 N8
        clear N7
        k_steps
        rename News _ _ _ _ => N9
        obtain ⟨S9, off9, sub9⟩ := deedst_drop S7 (news_sub N9 up8) (K7 _ (List.mem_cons_self ..) st2) hcI2
        exact RanE.mk (by assumption) (news_sub N9 (fun q hq => up8 q (sub9 q hq))) off9 ⟨rfl, rfl, rfl, _, _, _, _, _, _, _, _, _, _, _, rfl, S9, List.mem_filter.mpr ⟨K7 _ (List.mem_cons_of_mem _ hIr) st1, by simpa using hIne⟩⟩
      · rintro m₂ h tk led₁ ⟨hscr, hsrc, htab, H, rest, vs, cv, rows, p, x1, y1, t1, t2, k1, hheld, S, hIr⟩ F5 N5
        have e5 := S.led_eq
        subst e5
        clear N3 hsub0 S0 hI0
        k_steps
        rename News _ _ _ _ => N9
        exact RanE.mk (by assumption) (news_sub N9 (fun q hq => by rw [List.mem_singleton.mp hq]; exact List.mem_cons_of_mem _ hIr)) (led' := []) (fun _ h => absurd h List.not_mem_nil) ⟨hscr, rfl⟩
    · intro m₁ h tk led' hJ F1 N1
      k_steps)
end
end Mine

set_option maxRecDepth 100000 in
set_option maxHeartbeats 8000000 in
theorem PySem.Challenge.cw_xm0751_01_holds : PySem.Challenge.rw_xm0751_01.Holds := by
  exact Mine.law_holds
