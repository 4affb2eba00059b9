import PyProof.Rows.All
import Wide.All
import OpenK.AllK
import Wide.FinOn
import HandS.ForMost
import HandS.Exc
import HandS.TryOnly
import HandS.TryMany
import HandS.WordsExc
import HandS.Defaults
import HandS.MakeKwOnly
import HandS.IsInst
import HandS.Sort
import HandS.OwnEq
import HandS.NoneIn
import HandS.Conv
import HandS.Flow
import HandS.Wide
import HandS.Evl
import HandS.Style
import HandS.Head0
import HandS.Head1
import HandS.Head2
import HandS.HeadEnd
import HandS.HeadHook1
import HandS.HeadHook2
import KE.KStateDown
import PyProof.LongRange
import HandS.ExcOwn
import HandS.ExcInit
import HandS.TryMany
import HandS.ExcField
import KE.KExcInit
import KE.KExcIs
import PySem.Challenge.RW_keeprows_k02_settings_refused
set_option Elab.async false
set_option linter.all false
set_option maxRecDepth 100000
set_option maxHeartbeats 16000000
set_option pp.deepTerms false
set_option pp.deepTerms.threshold 2
namespace KR
open PySem PySem.Spec PyProof.Rows L2
/-! ### small rules -/
theorem iteB {c : Bool} {A B : Prop} (h1 : c = true → A) (h2 : c = false → B) : if c = true then A else B := by
  cases c with
  | true => exact h1 rfl
  | false => exact h2 rfl
theorem iteT_of {c : Bool} {A B : Prop} (h : c = true) (a : A) : if c = true then A else B := by subst h; exact iteT a
theorem iteF_of {c : Bool} {A B : Prop} (h : c = false) (b : B) : if c = true then A else B := by subst h; exact iteF b
@[irreducible] def rIsiI (K : PySem.W.Frag) : List V → Hp → VK → Prop := rIsi K
theorem call_isiI {X : Cx} : CallR X (.builtin "isinstance") (rIsiI X.K) := by unfold rIsiI; exact call_isi
theorem isi_int {K : PySem.W.Frag} {H : Hp} {i : Int} {Q : VK} (q : Q (.bl true) H) : rIsiI K [.int i, .ty "int"] H Q := by
  unfold rIsiI; exact ⟨_, _, _, _, true, rfl, .ty _, .base (.int i), kit_ty (by decide +kernel), q⟩
theorem isi_bool {K : PySem.W.Frag} {H : Hp} {i : Int} {Q : VK} (q : Q (.bl false) H) : rIsiI K [.int i, .ty "bool"] H Q := by
  unfold rIsiI; exact ⟨_, _, _, _, false, rfl, .ty _, .base (.int i), kit_ty (by decide +kernel), q⟩
theorem isi_list {K : PySem.W.Frag} {H : Hp} {a : Addr} {xs : List V} {Q : VK} (h : H a = some (.lst xs)) (q : Q (.bl true) H) : rIsiI K [.ref a, .ty "list"] H Q := by
  unfold rIsiI; exact ⟨_, _, _, _, true, rfl, .ty _, .base (.lst h), kit_ty (by decide +kernel), q⟩
theorem pe_le {X : Cx} {e : Expr} {t t' : TE} (h : PE X e t) (k : ∀ σ H Q, t' σ H Q → t σ H Q) : PE X e t' := ⟨fun pins s σ H Q I hw => h.run pins s σ H Q I (k σ H Q hw)⟩
theorem pe_powc {X : Cx} {a b c : Int} {i j : Nat} {p1 p2 pos : Pos} (h : 0 ≤ b ∧ b ≤ 1000000 ∧ a.natAbs < 2 ^ 64 ∧ a ^ b.toNat = c) :
    PE X (.BinOp (.Constant (.int a) i p1) .Pow (.Constant (.int b) j p2) pos) (tC (.int c)) :=
  pe_le (pe_op op_pow pe_int pe_int) fun σ H Q q => ⟨a, b, rfl, rfl, ⟨h.1, h.2.1, h.2.2.1⟩, (show Q (.int (a ^ b.toNat)) H by rw [h.2.2.2]; exact q)⟩
theorem pe_globi {X : Cx} {x : Str} {i : Int} {pos : Pos} (hm : ∃ t, X.mg x = some (.int i t)) (hg : Gl X x := by rfl) (hd : (x == ("__debug__" : Str)) = false := by decide) : PE X (.Name x pos) (tC (.int i)) := by
  obtain ⟨t, h⟩ := hm
  exact pe_glob hg h ⟨t, rfl⟩ hd
/-! ### side conditions of numbers -/
theorem log2_lt {n : Nat} {k : Nat} (h : n < 2 ^ k) (hk : 0 < k) : n.log2 < k := by
  by_cases hn : n = 0
  · subst hn; simpa using hk
  · exact (Nat.log2_lt hn).2 h
theorem cdw {i j : Int} (h0 : 0 < j) (h1 : j ≤ 1000000000000000000000000000000000000000000) : CDivW i j :=
  ⟨h0, log2_lt (Nat.lt_of_lt_of_le (Nat.lt_succ_of_le (show j.natAbs ≤ 1000000000000000000000000000000000000000000 by omega)) (by decide +kernel)) (by decide)⟩
theorem cdv {i j : Int} (h0 : 0 < j) (h1 : j < 1073741824) : CDiv i j := ⟨h0, h1⟩
theorem cml {i j : Int} (h0 : -18446744073709551616 < i) (h1 : i < 18446744073709551616) : CMul i j := .inl ⟨h0, h1⟩
theorem cmr {i j : Int} (h0 : -18446744073709551616 < j) (h1 : j < 18446744073709551616) : CMul i j := .inr ⟨h0, h1⟩
/-! ### heaps: what was tracked stands, but for one address -/
def SB (s : Addr) (H H' : Hp) : Prop := ∀ b o, b ≠ s → H b = some o → H' b = some o
theorem SB.refl {s : Addr} {H : Hp} : SB s H H := fun _ _ _ h => h
theorem SB.trans {s : Addr} {H H1 H2 : Hp} (a : SB s H H1) (b : SB s H1 H2) : SB s H H2 := fun c o n h => b c o n (a c o n h)
theorem _root_.L2.Same.sb {s : Addr} {H H' : Hp} (a : Same H H') : SB s H H' := fun c o _ h => a c o h
theorem SB.free {s : Addr} {H H' : Hp} (e : SB s H H') {l : Addr} (n : l ≠ s) (h : H' l = none) : H l = none := by
  cases q : H l with
  | none => rfl
  | some o => rw [e l o n q] at h; cases h
theorem SB.upd {s : Addr} {H : Hp} {o : HO} : SB s H (upd H s o) := fun b u n h => by rw [upd_ne n]; exact h
theorem same_new {H : Hp} {p : Addr} {o : HO} (h : H p = none) : Same H (upd H p o) := fun b u e => by rw [upd_ne (ne_of_none e h)]; exact e
theorem gen_new {H H' : Hp} {p : Addr} {o : HO} (n : H p = none) (e : upd H p o = H') : Same H H' ∧ H' p = some o := by
  subst e
  exact ⟨same_new n, upd_same⟩
/-- a new object, its heap a letter -/
theorem new_obj {H : Hp} {o : HO} {R : Addr → Hp → Prop} (h : ∀ p H', H p = none → Same H H' → H' p = some o → R p H') : ∀ p, H p = none → R p (upd H p o) :=
  fun p hp => h p _ hp (same_new hp) upd_same
theorem new_ref {H : Hp} {o : HO} {Q : VK} (h : ∀ p H', H p = none → Same H H' → H' p = some o → Q (.ref p) H') : ∀ p, H p = none → Q (.ref p) (upd H p o) :=
  fun p hp => h p _ hp (same_new hp) upd_same
theorem hp_same {H H' : Hp} {a : Addr} {o : HO} (s : Same H H') (h : H a = some o) : H' a = some o := s a o h
theorem hp_sb {s a : Addr} {H H' : Hp} {o : HO} (e : SB s H H') (n : a ≠ s) (h : H a = some o) : H' a = some o := e a o n h
end KR
namespace KR
open PySem PySem.Spec PyProof.Rows L2 MeetsSeq
/-! ### list + list where the left one may be of the written part -/
theorem add_any {l b : Addr} {items items2 : Array Value} {n n2 : Nat} {sl sl2 : Array (Option Value)} (hz : items.size + items2.size ≤ sizeLine) :
    Meets (Builtin.«list.__add__» ⟨[.ref l, .ref b], []⟩) (fun _ R s =>
      (s.heap.get? l = some ⟨.type "list", none, .seq items n, sl⟩ ∧ s.heap.get? b = some ⟨.type "list", none, .seq items2 n2, sl2⟩) ∧
      R (.ok (.ret (Value.ref s.heap.objs.size))) { s with heap := s.heap.push { cls := Value.type "list", data := Data.seq (items ++ items2) } }) :=
  .of_wp fun prog w A R s h => by
    obtain ⟨hp, g, d, tk, os⟩ := s
    obtain ⟨⟨e1, e2⟩, h⟩ := h
    have f1 := AutoSeq1.idx_int
    have f2 := AutoSeq1.sub_tuple_tuple
    have f3 := AutoSeq1.sub_list_list
    have f4 := AutoSeq1.sub_tuple_list
    have f5 := AutoSeq1.sub_list_tuple
    wp_walk using wpAny_loadPart' e1, wpAny_loadPart' e2
    exact ⟨_, rfl, h⟩
def rCatS (K : PySem.W.Frag) : R2 := fun x y H Q => ∃ l b xs zs, x = .ref l ∧ y = .ref b ∧ SqL K H l xs ∧ SqL K H b zs ∧ xs.length + zs.length ≤ 100000 ∧
  ∀ p H', H p = none → Same H H' → H' p = some (.lst (xs ++ zs)) → Q (.ref p) H'
theorem op_catS {X : Cx} : OpR X (binaryOp .Add) (rCatS X.K) := by
  intro pins s σ H x y v u Q I rx ry h
  obtain ⟨l, b, xs, zs, rfl, rfl, hl, hb, hz, q⟩ := h
  cases rx
  cases ry
  obtain ⟨its, r, ⟨o, n, e, ec, ed, es⟩, _⟩ := I.list hl
  obtain ⟨its2, r2, ⟨o2, n2, e2, ec2, ed2, es2⟩, _⟩ := I.list hb
  obtain ⟨c, d, dt, sl⟩ := o
  obtain ⟨c2, d2, dt2, sl2⟩ := o2
  dsimp only at ec ed es ec2 ed2 es2
  subst ec ed es ec2 ed2 es2
  have hlen : its.length + its2.length ≤ sizeLine := by
    rw [← r.length, ← r2.length]
    exact Nat.le_trans hz (by decide)
  refine concat_meets ⟨_, e, rfl⟩ ⟨_, e2, rfl⟩ noFill_list_add seq_list_add F.slot_list_add F.entry_list_add (F.args_list_add_2 _ _) (add_any (by rw [List.size_toArray, List.size_toArray]; exact hlen)) ⟨⟨e, e2⟩, ?_⟩
  have ea : its.toArray ++ its2.toArray = (its ++ its2).toArray := by simp
  rw [ea]
  have hn := I.fresh
  have J := I.lnew (t' := s.toks) (r.append r2) (by rw [List.length_append]; exact Nat.le_trans hz (by decide))
  exact ⟨.ref _, _, J, rfl, q _ _ hn (same_new hn) upd_same⟩
end KR
namespace KR
open PySem PySem.Spec PyProof.Rows L2
/-! ### frames -/
def SX (X : List Addr) (H H' : Hp) : Prop := ∀ b o, b ∉ X → H b = some o → H' b = some o
theorem SX.refl {X : List Addr} {H : Hp} : SX X H H := fun _ _ _ h => h
theorem SX.trans {X : List Addr} {H H1 H2 : Hp} (a : SX X H H1) (b : SX X H1 H2) : SX X H H2 := fun c o n h => b c o n (a c o n h)
theorem SX.mono {X Y : List Addr} {H H1 : Hp} (a : SX X H H1) (h : ∀ x ∈ X, x ∈ Y) : SX Y H H1 := fun c o n q => a c o (fun z => n (h c z)) q
theorem SB.sx {s : Addr} {X : List Addr} {H H1 : Hp} (a : SB s H H1) (h : s ∈ X) : SX X H H1 := fun c o n q => a c o (fun z => n (z ▸ h)) q
theorem _root_.L2.Same.sx {X : List Addr} {H H1 : Hp} (a : Same H H1) : SX X H H1 := fun c o _ q => a c o q
theorem SX.sb {s : Addr} {H H1 : Hp} (a : SX [s] H H1) : SB s H H1 := fun c o n q => a c o (by simpa using n) q
theorem SX.upd {X : List Addr} {H H' : Hp} {p : Addr} {o : HO} (a : SX X H H') (h : p ∈ X) : SX X H (upd H' p o) := fun c u n q => by
  have e : c ≠ p := fun z => n (by rw [z]; exact h)
  rw [upd_ne e]; exact a c u n q
theorem SX.mut {X : List Addr} {H H' : Hp} {p : Addr} {o : HO} (a : SX X H H') (h : H p = none) : SX X H (L2.upd H' p o) := fun c u n q => by
  rw [upd_ne (ne_of_none q h)]; exact a c u n q
theorem SB.mut {s : Addr} {H H' : Hp} {p : Addr} {o : HO} (a : SB s H H') (h : H p = none) : SB s H (L2.upd H' p o) := fun c u n q => by
  rw [upd_ne (ne_of_none q h)]; exact a c u n q
theorem _root_.L2.Same.mut {H H' : Hp} {p : Addr} {o : HO} (a : Same H H') (h : H p = none) : Same H (L2.upd H' p o) := fun c u q => by
  rw [upd_ne (ne_of_none q h)]; exact a c u q
theorem SX.drop {X : List Addr} {H H' : Hp} {p : Addr} (a : SX (p :: X) H H') (h : H p = none) : SX X H H' := fun c u n q => by
  refine a c u (fun z => ?_) q
  rcases List.mem_cons.mp z with e | e
  · rw [e, h] at q; cases q
  · exact n e
theorem szl {n : Nat} (h : n ≤ 100000) : n ≤ sizeLine := Nat.le_trans h (by decide)
theorem szlt {n : Nat} (h : n ≤ 100000) : n < sizeLine := Nat.lt_of_le_of_lt h (by decide)
theorem atI_int {xs : List V} {i : Int} {j : Nat} {v : V} (hi : i = (j : Int)) (h : xs[j]? = some v) : atI xs i = some v := by subst hi; exact atI_nat h
theorem at_of_lt {xs : List V} {i : Int} (h0 : 0 ≤ i) (h1 : i < xs.length) : ∃ v, v ∈ xs ∧ atI xs i = some v ∧ xs[i.toNat]? = some v := by
  have h : i.toNat < xs.length := by omega
  refine ⟨xs[i.toNat], List.getElem_mem h, ?_, List.getElem?_eq_getElem h⟩
  have e : i = (i.toNat : Int) := by omega
  exact atI_int (xs := xs) (v := xs[i.toNat]) e (List.getElem?_eq_getElem h)
theorem map_some {ns : List Int} {i : Nat} {v : V} (h : (ns.map V.int)[i]? = some v) : ∃ z, ns[i]? = some z ∧ v = .int z := by
  rw [List.getElem?_map] at h
  cases e : ns[i]? with
  | none => rw [e] at h; cases h
  | some z => rw [e] at h; exact ⟨z, rfl, (Option.some.inj h).symm⟩
theorem gen_st {H H' : Hp} {a : Addr} {o : HO} (e : upd H a o = H') : SB a H H' ∧ H' a = some o := by subst e; exact ⟨SB.upd, upd_same⟩
theorem lt1000 {n : Nat} (h : Nat.ble (n + 1) 1000 = true) : n < 1000 := Nat.le_of_ble_eq_true h
theorem kb_of {K : PySem.W.Frag} {x qual : Str} {params : Arguments} {body : List Stmt} {scope : Scope} {f : Addr} {fd : FuncData} {ps : List Str} (F : FunD K x qual params body scope [] [] f fd) (n : Nat) (ks : List Str)
    (g : {α : Type} → List α → List α → List α) (hrel : ∀ {vs zs : List V} {us ws : List Value}, Vals vs us → Vals zs ws → vs.length = n → zs.length = ks.length → Vals (g vs zs) (g us ws))
    (h : ∀ (kV doc pm : Value) (an : Option Addr) (cdv ct : Value) (us ws : List Value), us.length = n → ws.length = ks.length → bindArgs (PySem.W.fnOf x qual params body scope .none kV doc pm an cdv ct) ⟨us, ks.zip ws⟩ = pure (ps.zip (g us ws)))
    (hb : ∀ {vs zs : List V} {us ws : List Value}, Vals vs us → Vals zs ws → Vals (g vs zs) (g us ws)) :
    KBn K fd ps n ks (fun us ws => g us ws) (fun vs zs => g vs zs) := by
  obtain ⟨oc, od, dV, kV, doc, pm, an, cdv, ct, osl, rfl, lk, hcd, hD, hK⟩ := F.ex
  rcases hD with ⟨_, rfl⟩ | ⟨e, _⟩
  · exact ⟨fun s us ws _ l1 l2 => BindsTo.of_eq (h kV doc pm an cdv ct us ws l1 l2), fun r1 r2 => hb r1 r2⟩
  · exact absurd rfl e
/-- keywords in the parameters' order -/
theorem kb_app {K : PySem.W.Frag} {x qual : Str} {params : Arguments} {body : List Stmt} {scope : Scope} {f : Addr} {fd : FuncData} {ps : List Str} (F : FunD K x qual params body scope [] [] f fd) (n : Nat) (ks : List Str)
    (h : ∀ (kV doc pm : Value) (an : Option Addr) (cdv ct : Value) (us ws : List Value), us.length = n → ws.length = ks.length → bindArgs (PySem.W.fnOf x qual params body scope .none kV doc pm an cdv ct) ⟨us, ks.zip ws⟩ = pure (ps.zip (us ++ ws))) :
    KBn K fd ps n ks (fun us ws => us ++ ws) (fun vs zs => vs ++ zs) := kb_of F n ks (fun a b => a ++ b) (fun r1 r2 _ _ => r1.append r2) h fun r1 r2 => r1.append r2
theorem gen_mk {H H' : Hp} {x dx : Addr} {o u : HO} (n : H x = none) (nd : H dx = none) (e : upd (upd H dx u) x o = H') : Same H H' ∧ H' x = some o := by
  subst e
  exact ⟨fun b v h => by rw [upd_ne (ne_of_none h n), upd_ne (ne_of_none h nd)]; exact h, upd_same⟩
theorem same_sb_new {H H1 H2 : Hp} {x : Addr} (a : Same H H1) (b : SB x H1 H2) (n : H x = none) : Same H H2 := fun c o h => b c o (ne_of_none h n) (a c o h)
/-! ### the head's facts, and a further Bool -/
def obsB (n : Nat) (fa : List He.Fa) (fn : List He.DefD) (ex : PySem.W.Frag → Bool) (g : Addr → Option Obj) : He.AlD :=
  ((He.obsD fa fn (He.frG g (He.asD g n))).1 && ex (He.frG g (He.asD g n)), (He.obsD fa fn (He.frG g (He.asD g n))).2)
def hookB (n : Nat) (fa : List He.Fa) (fn : List He.DefD) (ex : PySem.W.Frag → Bool) : PySem.W.Hook where
  α := He.AlD
  obs := fun s => obsB n fa fn ex s.heap.get?
  val := fun _ => He.valD fn
  says := fun _ h => ∃ K : PySem.W.Frag, K.In h ∧ He.SaysD fa fn K ∧ ex K = true
  of := fun _ s e => by
    refine ⟨He.frG s.heap.get? (He.asD s.heap.get? n), He.frG_in, ?_⟩
    have e1 : ((He.obsD fa fn (He.frG s.heap.get? (He.asD s.heap.get? n))).1 && ex (He.frG s.heap.get? (He.asD s.heap.get? n))) = true := congrArg (fun z : He.AlD => z.1) e
    have e2 : (obsB n fa fn ex s.heap.get?).2 = (He.valD fn).2 := congrArg (fun z : He.AlD => z.2) e
    obtain ⟨h1, h2⟩ := He.ba e1
    exact ⟨Prod.ext h1 e2, h2⟩
  keeps := fun _ _ _ h k => by
    obtain ⟨K, hK, c⟩ := h
    exact ⟨K, PySem.W.Frag.In.keeps hK k, c⟩
theorem obsB_eq {n : Nat} {fa : List He.Fa} {fn : List He.DefD} {ex : PySem.W.Frag → Bool} {g : Addr → Option Obj} {s : Shared} (h : ∀ a, g a = s.heap.get? a) : obsB n fa fn ex g = (hookB n fa fn ex).obs s := by
  have e : g = s.heap.get? := funext h
  subst e
  rfl
/-- what isinstance wants of a class -/
structure IsC (K : PySem.W.Frag) (C : Addr) : Prop where
  cl : PySem.W.findIn K (.ref C) "__class__" = some (some (.builtin "object.__class__"))
  g : PySem.W.specialIn K (.builtin "object.__class__") "__get__" = some (some (.builtin "getset_descriptor.__get__"))
  t : PySem.W.takesIn K (.builtin "object.__class__") = some true
  m : PySem.W.mroIn K C (.type "object") = some true
def isCB (C : Str) (K : PySem.W.Frag) : Bool :=
  decide (PySem.W.findIn K (.ref (He.ga K C)) "__class__" = some (some (.builtin "object.__class__"))) && (decide (PySem.W.specialIn K (.builtin "object.__class__") "__get__" = some (some (.builtin "getset_descriptor.__get__"))) &&
    (decide (PySem.W.takesIn K (.builtin "object.__class__") = some true) && decide (PySem.W.mroIn K (He.ga K C) (.type "object") = some true)))
theorem isCB_ok {C : Str} {K : PySem.W.Frag} (h : isCB C K = true) : IsC K (He.ga K C) := by
  unfold isCB at h
  obtain ⟨h1, h⟩ := He.ba h
  obtain ⟨h2, h⟩ := He.ba h
  obtain ⟨h3, h4⟩ := He.ba h
  exact ⟨of_decide_eq_true h1, of_decide_eq_true h2, of_decide_eq_true h3, of_decide_eq_true h4⟩
def kitB1 (ty : String) (C : Str) (b : Bool) (K : PySem.W.Frag) : Bool := decide (PySem.W.kitOne K (.type ty) (.ref (He.ga K C)) = some b)
def kitB2 (C : Str) (ty : String) (b : Bool) (K : PySem.W.Frag) : Bool := decide (PySem.W.kitOne K (.ref (He.ga K C)) (.type ty) = some b)
def kitB3 (C D : Str) (b : Bool) (K : PySem.W.Frag) : Bool := decide (PySem.W.kitOne K (.ref (He.ga K C)) (.ref (He.ga K D)) = some b)
theorem isi_own {K : PySem.W.Frag} {H : Hp} {a C dx D : Addr} {fs : List (Str × V)} {b : Bool} {Q : VK} (h : H a = some (.ins C dx fs)) (c : Cls K C) (i : IsC K C) (k : PySem.W.kitOne K (.ref C) (.ref D) = some b) (q : Q (.bl b) H) :
    rIsiI K [.ref a, .ref D] H Q := by
  unfold rIsiI; exact ⟨_, _, _, _, b, rfl, .own _, .base (.ins h c i.cl i.g i.t i.m), k, q⟩
theorem none_all {l : List Str} {fs : List (Str × V)} (h : (l.all fun x => (List.lookup x fs).isNone) = true) : ∀ x ∈ l, List.lookup x fs = none := fun x hx => by
  have := List.all_eq_true.mp h x hx
  exact Option.isNone_iff_eq_none.mp this
/-! ### data without bools: == is equality -/
mutual
def nbD : PyData → Bool
  | .none => true
  | .int _ => true
  | .str x => PyData.strOk x
  | .list xs => nbA xs
  | .tuple xs => nbA xs
  | .bool _ => false
  | .dict _ => false
def nbA : List PyData → Bool
  | [] => true
  | x :: xs => nbD x && nbA xs
end
mutual
theorem nb_lay : ∀ d : PyData, nbD d = true → PyData.canLay0 d = true
  | .none, _ => rfl
  | .int _, _ => rfl
  | .str x, h => h
  | .list xs, h => nb_layA xs h
  | .tuple xs, h => nb_layA xs h
  | .bool _, h => by cases h
  | .dict _, h => by cases h
theorem nb_layA : ∀ ds : List PyData, nbA ds = true → PyData.canLayAll0 ds = true
  | [], _ => rfl
  | x :: xs, h => by
    obtain ⟨h1, h2⟩ := He.ba (show (nbD x && nbA xs) = true from h)
    show (PyData.canLay0 x && PyData.canLayAll0 xs) = true
    rw [nb_lay x h1, nb_layA xs h2]
    rfl
end
mutual
theorem eqv_nb : ∀ d e : PyData, nbD d = true → nbD e = true → (PyData.eqv d e = true ↔ d = e)
  | .none, e, _, he => by cases e <;> simp_all [PyData.eqv, nbD]
  | .int i, e, _, he => by cases e <;> simp_all [PyData.eqv, nbD]
  | .str x, e, _, he => by cases e <;> simp_all [PyData.eqv, nbD]
  | .list xs, e, hd, he => by
    cases e with
    | list ys =>
      have k := eqv_nbA xs ys hd he
      constructor
      · intro h
        exact congrArg PyData.list (k.mp (by simpa [PyData.eqv] using h))
      · intro h
        injection h with h
        simpa [PyData.eqv] using k.mpr h
    | _ => simp_all [PyData.eqv, nbD]
  | .tuple xs, e, hd, he => by
    cases e with
    | tuple ys =>
      have k := eqv_nbA xs ys hd he
      constructor
      · intro h
        exact congrArg PyData.tuple (k.mp (by simpa [PyData.eqv] using h))
      · intro h
        injection h with h
        simpa [PyData.eqv] using k.mpr h
    | _ => simp_all [PyData.eqv, nbD]
  | .bool _, _, hd, _ => by cases hd
  | .dict _, _, hd, _ => by cases hd
theorem eqv_nbA : ∀ ds es : List PyData, nbA ds = true → nbA es = true → (PyData.eqvAll ds es = true ↔ ds = es)
  | [], [], _, _ => by simp [PyData.eqvAll]
  | [], _ :: _, _, _ => by simp [PyData.eqvAll]
  | _ :: _, [], _, _ => by simp [PyData.eqvAll]
  | x :: xs, y :: ys, hd, he => by
    obtain ⟨h1, h2⟩ := He.ba (show (nbD x && nbA xs) = true from hd)
    obtain ⟨h3, h4⟩ := He.ba (show (nbD y && nbA ys) = true from he)
    have k1 := eqv_nb x y h1 h3
    have k2 := eqv_nbA xs ys h2 h4
    simp only [PyData.eqvAll, Bool.and_eq_true, List.cons.injEq, k1, k2]
end
/-- d, without bools, not deep -/
def NB (d : PyData) : Prop := nbD d = true ∧ PyData.depth d ≤ 64
@[irreducible] def rEqN (K : PySem.W.Frag) : R2 := fun x y H Q => ∃ d e, Dp K H x d ∧ Dp K H y e ∧ NB d ∧ NB e ∧ ∀ b, (b = true ↔ d = e) → Q (.bl b) H
@[irreducible] def rNeN (K : PySem.W.Frag) : R2 := fun x y H Q => ∃ d e, Dp K H x d ∧ Dp K H y e ∧ NB d ∧ NB e ∧ ∀ b, (b = true ↔ ¬ d = e) → Q (.bl b) H
theorem NB.sh {d : PyData} (h : NB d) : SeqAt.shaped d = true := by
  unfold SeqAt.shaped
  rw [nb_lay d h.1, decide_eq_true h.2]
  rfl
theorem op_eqN {X : Cx} (hu : X.A.units + 64 < cLine) : OpR X (compareOp .Eq) (rEqN X.K) := by
  intro pins s σ H x y v u Q I rx ry h
  unfold rEqN at h
  obtain ⟨d, e, hd, he, n1, n2, q⟩ := h
  exact op_eqD hu pins s σ H x y v u Q I rx ry ⟨d, e, hd, he, n1.sh, n2.sh, q _ (eqv_nb d e n1.1 n2.1)⟩
theorem op_neN {X : Cx} (hu : X.A.units + 64 < cLine) : OpR X (compareOp .NotEq) (rNeN X.K) := by
  intro pins s σ H x y v u Q I rx ry h
  unfold rNeN at h
  obtain ⟨d, e, hd, he, n1, n2, q⟩ := h
  refine op_neD hu pins s σ H x y v u Q I rx ry ⟨d, e, hd, he, n1.sh, n2.sh, q _ ?_⟩
  have k := eqv_nb d e n1.1 n2.1
  cases hb : PyData.eqv d e with
  | true => rw [hb] at k; simp [k.mp rfl]
  | false => rw [hb] at k; simp at k; simp [k]
theorem use_eqN {K : PySem.W.Frag} {H : Hp} {x y : V} {d e : PyData} {Q : VK} (hx : Dp K H x d) (hy : Dp K H y e) (n1 : NB d) (n2 : NB e) (q : ∀ b, (b = true ↔ d = e) → Q (.bl b) H) : rEqN K x y H Q := by unfold rEqN; exact ⟨d, e, hx, hy, n1, n2, q⟩
theorem use_neN {K : PySem.W.Frag} {H : Hp} {x y : V} {d e : PyData} {Q : VK} (hx : Dp K H x d) (hy : Dp K H y e) (n1 : NB d) (n2 : NB e) (q : ∀ b, (b = true ↔ ¬ d = e) → Q (.bl b) H) : rNeN K x y H Q := by unfold rNeN; exact ⟨d, e, hx, hy, n1, n2, q⟩
/-! lists of pyi as data -/
def pyi (xs : List Int) : List PyData := xs.map PyData.int
theorem dp_pyi {K : PySem.W.Frag} {H : Hp} : ∀ xs : List Int, DpAll K H (xs.map V.int) (pyi xs)
  | [] => .nil
  | x :: xs => .cons (.int x) (dp_pyi xs)
theorem nb_ints : ∀ xs : List Int, nbA (pyi xs) = true
  | [] => rfl
  | x :: xs => by
    show (nbD (.int x) && nbA (pyi xs)) = true
    rw [nb_ints xs]
    rfl
theorem dep_ints : ∀ xs : List Int, PyData.depthAll (pyi xs) = 0
  | [] => rfl
  | x :: xs => by
    show max (PyData.depth (.int x)) (PyData.depthAll (pyi xs)) = 0
    rw [dep_ints xs]
    rfl
theorem nb_list (xs : List Int) : NB (.list (pyi xs)) := ⟨nb_ints xs, by show PyData.depthAll (pyi xs) + 1 ≤ 64; rw [dep_ints]; decide⟩
theorem nb_tup (xs : List Int) : NB (.tuple (pyi xs)) := ⟨nb_ints xs, by show PyData.depthAll (pyi xs) + 1 ≤ 64; rw [dep_ints]; decide⟩
theorem ints_inj {xs ys : List Int} (h : pyi xs = pyi ys) : xs = ys := by
  have := congrArg (fun z : List PyData => z.map fun d => match d with | .int i => i | _ => 0) h
  simpa [pyi, List.map_map, Function.comp_def] using this
theorem list_ints {xs ys : List Int} : PyData.list (pyi xs) = PyData.list (pyi ys) ↔ xs = ys := ⟨fun h => ints_inj (by injection h), fun h => by rw [h]⟩
theorem tup_ints {xs ys : List Int} : PyData.tuple (pyi xs) = PyData.tuple (pyi ys) ↔ xs = ys := ⟨fun h => ints_inj (by injection h), fun h => by rw [h]⟩
/-! ### the rules, the written part named (a comprehension's block has the def's) -/
section
variable {X : Cx} {K : PySem.W.Frag}
theorem ix_listK (h : X.K = K := by rfl) : IxR X (rIxL K) := h ▸ ix_list
theorem ix_tupK (h : X.K = K := by rfl) : IxR X (rIxT K) := h ▸ ix_tup
def rLenN (K : PySem.W.Frag) : List V → Hp → VK → Prop := fun xs H Q => ∃ p ys, xs = [.ref p] ∧ (SqL K H p ys ∨ SqT K H p ys) ∧ Q (.int ys.length) H
theorem call_lenK (h : X.K = K := by rfl) : CallR X (.builtin "len") (rLenN K) := h ▸ call_len_seq
def rListN (K : PySem.W.Frag) : List V → Hp → VK → Prop := fun xs H Q => ∃ p ys, xs = [.ref p] ∧ (SqL K H p ys ∨ SqT K H p ys) ∧ ∀ l, H l = none → Q (.ref l) (upd H l (.lst ys))
theorem call_listK (h : X.K = K := by rfl) : CallR X (.type "list") (rListN K) := h ▸ call_list_of
def rTupN (K : PySem.W.Frag) : List V → Hp → VK → Prop := fun xs H Q => ∃ p ys, xs = [.ref p] ∧ ((SqL K H p ys ∧ ∀ l, H l = none → Q (.ref l) (upd H l (.tup ys))) ∨ (SqT K H p ys ∧ Q (.ref p) H))
theorem call_tupK (h : X.K = K := by rfl) : CallR X (.type "tuple") (rTupN K) := h ▸ call_tuple_of
theorem op_catSK (h : X.K = K := by rfl) : OpR X (binaryOp .Add) (rCatS K) := h ▸ op_catS
theorem op_inK (h : X.K = K := by rfl) : OpR X (compareOp .In) (rIn K false) := h ▸ op_in_seq
theorem op_notInK (h : X.K = K := by rfl) : OpR X (compareOp .NotIn) (rIn K true) := h ▸ op_notIn_seq
theorem op_eqNK (hu : X.A.units + 64 < cLine) (h : X.K = K := by rfl) : OpR X (compareOp .Eq) (rEqN K) := h ▸ op_eqN hu
theorem op_neNK (hu : X.A.units + 64 < cLine) (h : X.K = K := by rfl) : OpR X (compareOp .NotEq) (rNeN K) := h ▸ op_neN hu
theorem sl_listK (h : X.K = K := by rfl) : SlR X (rSlL K) := h ▸ sl_list
theorem sl_tupK (h : X.K = K := by rfl) : SlR X (rSlT K) := h ▸ sl_tup
theorem cr_sumK (hc : X.calm = true) (h : X.K = K := by rfl) : CallR X (.builtin "sum") (rSum K) := h ▸ cr_sum hc
theorem cr_maxK (hc : X.calm = true) (h : X.K = K := by rfl) : CallR X (.builtin "max") (rMax K) := h ▸ cr_max hc
theorem cr_minK (hc : X.calm = true) (h : X.K = K := by rfl) : CallR X (.builtin "min") (rMin K) := h ▸ cr_min hc
theorem call_isiK2 (h : X.K = K := by rfl) : CallR X (.builtin "isinstance") (rIsiI K) := h ▸ call_isiI
theorem pe_fldK {e : Expr} {ta : TE} {f : Str} {pos : Pos} (he : PE X e ta) (hb : attributeBase e f X.env (eval e X.env) = eval e X.env) (h : X.K = K := by rfl) : PE X (.Attribute e f pos) (tFld K ta f) := h ▸ pe_fld he hb
end
end KR
namespace KR
open PySem PySem.Spec PyProof.Rows L2
/-! ### ranges of any size, by ones -/
theorem turn_long {P : Program} {w : World} {K : PySem.W.Frag} {tg : Expr} (j : Addr) (lo : Int) (n : Nat) : Turn P w K tg (Itr lo n) [j] j (fun i h => IsLongIter h j (lo + (i : Nat) * 1) ((n : Int) - (i : Nat)) 1) where
  mem := List.mem_singleton.mpr rfl
  obj := fun i h q b hb => by
    rw [List.mem_singleton.mp hb]
    exact ⟨_, q, fun v z => by
      have y : Data.fields _ = Data.cell v := z
      cases y⟩
  keep := fun i h h' q k => k j (List.mem_singleton.mpr rfl) _ q
  item := by
    intro Y e1 e2 e3 hc i pins s σ H E I fp q g
    subst e1 e2 e3
    obtain ⟨a0, a1, a2, a3, a4, a5⟩ := fp j (List.mem_singleton.mpr rfl)
    refine (Walks.longrange (prog := Y.prog) (w := Y.w) (I.ok.hd hc) j lo 1 n).item i s _ _ g q fun v h' tk hv q' kk => ?_
    obtain ⟨t, rfl⟩ := hv
    have J : Inv Y pins σ H { s with heap := h', toks := tk } := I.turned (fun b o hb e => kk b o (by simpa using hb) e) a0 a1 a3 a4 a5
    exact ⟨_, rfl, go_of (s := { s with heap := h', toks := tk }) (n := "longrange_iterator") q' rfl rfl (by decide) ⟨.int (lo + i), H, J, ⟨t, by rw [Int.mul_one]⟩, ⟨rfl, rfl⟩, q', fun b hb => (fp b hb).1⟩⟩
  done := by
    intro Y e1 e2 e3 hc i pins s σ H E I fp q g
    subst e1 e2 e3
    obtain ⟨a0, a1, a2, a3, a4, a5⟩ := fp j (List.mem_singleton.mpr rfl)
    have hle : n ≤ i := g
    exact wpAny_pyNext_long_end (I.ok.hd hc) q (by omega) fun h' eb => ⟨rfl, I.turned (t' := s.toks) (fun b o hb e => eb b o hb e) a0 a1 a3 a4 a5⟩
  self := fun _ _ _ _ _ q h => wpAny_pyIter_longiter q h
section
variable {X : Cx} {tg : Expr}
theorem long_it {pins : List (Addr × Obj)} {σ : L2.St} {H : Hp} {s : Shared} {R : It → Hp → Prop} {E : Value → Shared → Prop} {lo hi : Int} {t u v : Tok} {tk : Nat} (I : Inv X pins σ H s) (hb : Builtin.Range.small lo hi 1 = false)
    (q : R (Itr lo (hi - lo).toNat) H) : wpAny (model X.prog X.w) X.A (pyIter (.ref s.heap.objs.size)) (PIE X pins σ tg R) E { s with heap := s.heap.push { cls := .type "range", data := .fields #[.int lo t, .int hi u, .int 1 v] }, toks := tk } := by
  refine wpAny_pyIter_longrange (IsRange.new ..) hb ?_
  have J := I.kept (h' := s.heap.push { cls := .type "range", data := .fields #[.int lo t, .int hi u, .int 1 v] }) (t' := tk) fun b o e => Heap.get?_push_of_some _ e
  refine ⟨_, [_], _, _, H, rfl, J.kept (t' := tk) fun b o e => Heap.get?_push_of_some _ e, turn_long _ lo (hi - lo).toNat, ?_, fun b hb => ?_, q⟩
  · have f1 : lo + ((0 : Nat) : Int) * 1 = lo := by simp
    have f2 : (((hi - lo).toNat : Nat) : Int) - ((0 : Nat) : Int) = Builtin.Range.rangeSize lo hi 1 := by
      rw [rangeSize_one]
      split <;> omega
    show IsLongIter _ _ (lo + ((0 : Nat) : Int) * 1) ((((hi - lo).toNat : Nat) : Int) - ((0 : Nat) : Int)) 1
    rw [f1, f2]
    exact Heap.get?_push_size _ rfl
  · rw [List.mem_singleton.mp hb]
    exact J.fpOk (Nat.le_refl _) (J.hok.fresh (Nat.le_refl _))
/-- small with the bounds that the library's rule wants, or any size -/
theorem any_it {pins : List (Addr × Obj)} {σ : L2.St} {H : Hp} {s : Shared} {R : It → Hp → Prop} {E : Value → Shared → Prop} {lo hi : Int} {t u v : Tok} {tk : Nat} (I : Inv X pins σ H s)
    (q : R (Itr lo (hi - lo).toNat) H) : wpAny (model X.prog X.w) X.A (pyIter (.ref s.heap.objs.size)) (PIE X pins σ tg R) E { s with heap := s.heap.push { cls := .type "range", data := .fields #[.int lo t, .int hi u, .int 1 v] }, toks := tk } := by
  cases hb : Builtin.Range.small lo hi 1 with
  | false => exact long_it I hb q
  | true =>
    refine wpAny_pyIter_range (IsRange.new ..) hb ?_
    have J := I.kept (h' := s.heap.push { cls := .type "range", data := .fields #[.int lo t, .int hi u, .int 1 v] }) (t' := tk) fun b o e => Heap.get?_push_of_some _ e
    refine ⟨_, [_], _, _, H, rfl, J.kept (t' := tk) fun b o e => Heap.get?_push_of_some _ e, turn_range _ lo (hi - lo).toNat, ?_, fun b hb => ?_, q⟩
    · have f1 : lo + ((0 : Nat) : Int) * 1 = lo := by simp
      have f2 : (((hi - lo).toNat : Nat) : Int) - ((0 : Nat) : Int) = Builtin.Range.rangeSize lo hi 1 := by
        rw [rangeSize_one]
        split <;> omega
      show IsRangeIter _ _ (lo + ((0 : Nat) : Int) * 1) ((((hi - lo).toNat : Nat) : Int) - ((0 : Nat) : Int)) 1
      rw [f1, f2]
      exact Heap.get?_push_size _ rfl
    · rw [List.mem_singleton.mp hb]
      exact J.fpOk (Nat.le_refl _) (J.hok.fresh (Nat.le_refl _))
def iRngB (ta : TA) : TI := fun σ H R => ta σ H fun vs H1 => ∃ i j : Int, vs = [.int i, .int j] ∧ R (Itr i (j - i).toNat) H1
theorem pi_rangeB {a b : Expr} {ta : TA} {p pos : Pos} (hg : Gl X "range") (hm : X.mg "range" = none) (ha : PA X [a, b] ta) (hs : starEach [a, b] X.env = [(false, eval a X.env), (false, eval b X.env)] := by rfl) (hs2 : starEach [b] X.env = [(false, eval b X.env)] := by rfl) :
    PI X tg (.Call (.Name "range" p) [a, b] [] pos) (iRngB ta) := by
  refine ⟨fun pins s σ H R I h => ?_⟩
  refine Call_ (ld_blt I hg hm boot_range (PyProof.Rows.callWith_type1 (thn (ha.run pos pins s σ H _ I h) fun us s1 z => ?_) (by rw [hs, hs2]) (by rw [hs2]; rfl)))
  obtain ⟨vs, H1, I1, r1, i, j, e, q⟩ := z
  subst e
  obtain ⟨u1, u2, e, ⟨t, e1⟩, ⟨t', e2⟩⟩ := vals2 r1
  subst e e1 e2
  exact call_range_2 (any_it I1 q)
end
end KR
namespace PySem.W
open PySem PySem.Calls PyProof.Rows Builtin
section
variable {prog : Program} {w : World} {A : Around} {E : Value → Shared → Prop} {s : Shared} {K : Frag} {x C L f : Addr} {h₀ : Heap} {m : Str → Option Value} {ox : Obj} {od : Option Obj} {b tb : Value}
/-- != of an instance whose class has its own __eq__ and object's __ne__ -/
theorem ne_own {Q : Value → Shared → Prop} (hu : A.units + 1 < cLine) (X : K.In s.heap) (I : InstAt s.heap x ox C od) (hb : Looks (model prog w) s.heap (typeOf b) tb) (hn : notFirst K C tb = true)
    (hs : findIn K (.ref C) "__eq__" = some (some (.ref f))) (hf : isFn K (.ref f) = true) (hne : findIn K (.ref C) "__ne__" = some (some (.builtin "object.__ne__"))) (hob : mroIn K C (.type "object") = some true)
    (h : wpAny (model prog w) A.in1 (call (.ref f) [.ref x, b]) (fun v s' => ∃ r, v = .bool r ∧ Q (.bool (!r)) s') E s) : wpAny (model prog w) A (richCompare .NotEq (.ref x) b) Q E s := by
  have S : Slot "object" "__ne__" "object.__ne__" := F.cmp_object.ne
  have body : wpAny (model prog w) A.in1 (Builtin.«object.__ne__» ⟨[.ref x, b], []⟩) (fun fin s' => match fin with | .done g => wants (fun v s' => ∃ r, v = .bool r ∧ Q v s') E (.ok g) s' | .again c' => c'.quiet = true ∧ codeAny (model prog w) A c' (wants (fun v s' => ∃ r, v = .bool r ∧ Q v s') E) s') (fun e s' => wants (fun v s' => ∃ r, v = .bool r ∧ Q v s') E (.error e) s') s := by
    unfold Builtin.«object.__ne__»
    have hu1 : A.in1.units < cLine := hu
    refine wpAny_bind (wpAny_pure ?_)
    refine wpAny_bind (wpAny_cRoomFor hu1 ?_)
    refine wpAny_bind (ifBound_K X I hs hf (wpAny_mono h (fun v s' hv => ?_) fun _ _ e => e))
    obtain ⟨r, rfl, q⟩ := hv
    dsimp only
    refine wpAny_bind (wpAny_truthy_bool ?_)
    exact wpAny_pure ⟨_, rfl, q⟩
  have one : wpAny (model prog w) A (tryCompare (.ref x) "__ne__" b) (fun r s' => ∃ v, r = some v ∧ Q v s') E s := by
    unfold tryCompare
    refine wpAny_bind ?_
    simp only [callSpecialIfBound?, bindSpecialIfBound?]
    refine wpAny_holding (wpAny_bind (wpAny_bind (wpAny_bind (I.type.here ((looks_findIn X hne).here ?_)))))
    simp only [S.bind]
    refine wpAny_bind (wpAny_askSetting (wpAny_ite ?_))
    have hcall : wpAny (model prog w) A (call (.builtin "object.__ne__") [.ref x, b]) (fun v s' => ∃ r, v = .bool r ∧ Q v s') E s := by
      refine wpAny_call (codeAny_call_builtin S.plain F.cmpEntry_ne (check_slot F.cmpKind_ne F.cmpSplit_ne (I.type.andThen (looks_mroIn X hob)) (F.cmpArgs_ne _ _) body))
    have fin : wpAny (model prog w) A (call (.builtin "object.__ne__") ([.ref x] ++ [b]) >>= fun v => pure (some v)) (fun (r : Option Value) s' => wpAny (model prog w) A (match r with | some .notImplemented | none => pure none | some v => pure (some v)) (fun r s' => ∃ v, r = some v ∧ Q v s') E s') E s := by
      refine wpAny_bind (wpAny_mono hcall (fun v s' h' => ?_) fun _ _ h' => h')
      obtain ⟨r, rfl, q⟩ := h'
      exact wpAny_pure (wpAny_pure ⟨_, rfl, q⟩)
    split
    · exact wpAny_bind (wpAny_pure (wpAny_pure fin))
    · exact wpAny_tryCatch (wpAny_bind (wpAny_pure (wpAny_pure fin)))
  have hu0 : A.units < cLine := Nat.lt_of_succ_lt hu
  unfold richCompare
  simp only [oneThing_ref]
  refine wpAny_holding (wpAny_bind (wpAny_cRoomFor hu0 ?_))
  refine wpAny_bind (I.type.here (wpAny_bind (hb.here ?_)))
  split
  · rename_i q
    have e : subIn K tb (.ref C) = some false := by
      rcases Bool.or_eq_true_iff.mp hn with e | e
      · rw [beq_iff_eq.mp e] at q; simp at q
      · exact beq_iff_eq.mp e
    refine wpAny_bind ((looks_subIn X e).here ?_)
    simp only [Bool.false_eq_true, if_false]
    refine wpAny_bind (wpAny_mono one (fun r s' z => ?_) fun _ _ e => e)
    obtain ⟨v, rfl, hq⟩ := z
    exact wpAny_pure hq
  · refine wpAny_bind (wpAny_pure ?_)
    simp only [Bool.false_eq_true, if_false]
    refine wpAny_bind (wpAny_mono one (fun r s' z => ?_) fun _ _ e => e)
    obtain ⟨v, rfl, hq⟩ := z
    exact wpAny_pure hq
end
end PySem.W
namespace KR
open PySem PySem.Spec PyProof.Rows L2
/-- what == by an own __eq__ wants of the class -/
structure EqC (K : PySem.W.Frag) (C : Addr) : Prop where
  nf : ∀ t ∈ (["int", "NoneType", "bool", "str", "list", "tuple", "dict"] : List String), PySem.W.notFirst K C (.type t) = true
  ne : PySem.W.findIn K (.ref C) "__ne__" = some (some (.builtin "object.__ne__"))
  ob : PySem.W.mroIn K C (.type "object") = some true
def eqCB (C : Str) (K : PySem.W.Frag) : Bool :=
  ((["int", "NoneType", "bool", "str", "list", "tuple", "dict"] : List String).all fun t => PySem.W.notFirst K (He.ga K C) (.type t)) &&
    (decide (PySem.W.findIn K (.ref (He.ga K C)) "__ne__" = some (some (.builtin "object.__ne__"))) && decide (PySem.W.mroIn K (He.ga K C) (.type "object") = some true))
theorem eqCB_ok {C : Str} {K : PySem.W.Frag} (h : eqCB C K = true) : EqC K (He.ga K C) := by
  unfold eqCB at h
  obtain ⟨h1, h⟩ := He.ba h
  obtain ⟨h2, h3⟩ := He.ba h
  exact ⟨fun t ht => List.all_eq_true.mp h1 t ht, of_decide_eq_true h2, of_decide_eq_true h3⟩
/-- the other side: a plain value, a list, a tuple or an instance of the same class -/
def OthV (K : PySem.W.Frag) (C : Addr) (H : Hp) : V → Prop
  | .int _ | .non | .bl _ | .str _ => True
  | .ref b => (∃ xs, SqL K H b xs) ∨ (∃ xs, SqT K H b xs) ∨ ∃ dx fs, H b = some (.ins C dx fs)
  | _ => False
theorem OthV.looks {X : Cx} {C : Addr} {pins : List (Addr × Obj)} {s : Shared} {σ : L2.St} {H : Hp} {y : V} {u : Value} (ec : EqC X.K C) (I : Inv X pins σ H s) (o : OthV X.K C H y) (r : RelV y u) :
    ∃ tb, PySem.W.Looks (model X.prog X.w) s.heap (typeOf u) tb ∧ PySem.W.notFirst X.K C tb = true := by
  cases y with
  | non => cases r; exact ⟨_, .now, ec.nf "NoneType" (by decide)⟩
  | bl i => cases r; exact ⟨_, .now, ec.nf "bool" (by decide)⟩
  | int i => obtain ⟨t, rfl⟩ := r; exact ⟨_, .now, ec.nf "int" (by decide)⟩
  | str i => obtain ⟨t, rfl⟩ := r; exact ⟨_, .now, ec.nf "str" (by decide)⟩
  | ref b =>
    cases r
    rcases o with ⟨xs, h⟩ | ⟨xs, h⟩ | ⟨dx, fs, h⟩
    · obtain ⟨its, _, ⟨o, n, ho, hc, _⟩, _⟩ := I.list h
      exact ⟨_, by rw [← hc]; exact (PySem.W.Looks.ld ho).andThen .now, ec.nf "list" (by decide)⟩
    · obtain ⟨its, _, ⟨o, ho, hc, _⟩, _⟩ := I.tuple h
      exact ⟨_, by rw [← hc]; exact (PySem.W.Looks.ld ho).andThen .now, ec.nf "tuple" (by decide)⟩
    · obtain ⟨m, J, _⟩ := ins_get I.hok h
      obtain ⟨od, J, _⟩ := J.look
      exact ⟨.ref C, J.type, by simp [PySem.W.notFirst]⟩
  | _ => exact absurd o (by intro z; exact z)
/-- x == y, x != y by the own __eq__ with the promise sp -/
@[irreducible] def rEqO (K : PySem.W.Frag) (C : Addr) (sp : Sp) (E : XK) : R2 := fun x y H Q => ∃ a dx fs, x = .ref a ∧ H a = some (.ins C dx fs) ∧ OthV K C H y ∧ sp [x, y] H (fun v H' => ∃ b, v = .bl b ∧ Q (.bl b) H') E
@[irreducible] def rNeO (K : PySem.W.Frag) (C : Addr) (sp : Sp) (E : XK) : R2 := fun x y H Q => ∃ a dx fs, x = .ref a ∧ H a = some (.ins C dx fs) ∧ OthV K C H y ∧ sp [x, y] H (fun v H' => ∃ b, v = .bl b ∧ Q (.bl (!b)) H') E
theorem use_eqO {K : PySem.W.Frag} {C : Addr} {sp : Sp} {E : XK} {a dx : Addr} {fs : List (Str × V)} {y : V} {H : Hp} {Q : VK} (h : H a = some (.ins C dx fs)) (o : OthV K C H y) (k : sp [.ref a, y] H (fun v H' => ∃ b, v = .bl b ∧ Q (.bl b) H') E) : rEqO K C sp E (.ref a) y H Q := by
  unfold rEqO; exact ⟨a, dx, fs, rfl, h, o, k⟩
theorem use_neO {K : PySem.W.Frag} {C : Addr} {sp : Sp} {E : XK} {a dx : Addr} {fs : List (Str × V)} {y : V} {H : Hp} {Q : VK} (h : H a = some (.ins C dx fs)) (o : OthV K C H y) (k : sp [.ref a, y] H (fun v H' => ∃ b, v = .bl b ∧ Q (.bl (!b)) H') E) : rNeO K C sp E (.ref a) y H Q := by
  unfold rNeO; exact ⟨a, dx, fs, rfl, h, o, k⟩
section
variable {X : Cx} {CX : CXT} {C f : Addr} {fd : FuncData} {ps : List Str} {sp : Sp} {E : XK} {k : Nat}
theorem run_own {A : Around} {pins : List (Addr × Obj)} {σ : L2.St} {H : Hp} {s : Shared} {Q : VK} {us : List Value} {vs : List V} (hA : A.frames = X.A.frames) (F : FnOk X.prog X.w X.K X.mg X.base CX k f fd ps sp) (hr : Room k A) (hb : Binds X.K fd ps []) (hx : Passes CX X E)
    (I : Inv X pins σ H s) (r : Vals vs us) (h : sp vs H Q E) : wpAny (model X.prog X.w) A (call (.ref f) us) (EP X pins σ Q) X.xe s := by
  have hl : us.length = ps.length := by rw [← r.length]; exact F.len _ _ _ _ h
  have e0 : Env0 X.prog X.w X.K X.mg X.base A X.stack s H := by
    have e := I.env0
    exact ⟨by rw [hA]; exact e.frames, e.mod, e.bs, e.bsz, e.funs, e.frf, e.hok, e.bare⟩
  refine wpAny_call (codeAny_mono (F.run A X.stack s H ⟨us, []⟩ us vs Q E hr e0 (by
    have := hb s us I.kIn (by simpa using hl)
    simpa using this) r h) fun r s' hq => ?_)
  cases r with
  | error e => exact hx pins σ H s e s' I hq
  | ok fl =>
    cases fl with
    | ret u => exact I.after hq
    | next => exact False.elim hq
    | brk => exact False.elim hq
    | cont => exact False.elim hq
theorem op_eqO (F : FnOk X.prog X.w X.K X.mg X.base CX k f fd ps sp) (hm : Meth X.K C "__eq__" f) (ec : EqC X.K C) (hr : Room k X.A) (hb : Binds X.K fd ps []) (hx : Passes CX X E) : OpR X (compareOp .Eq) (rEqO X.K C sp E) := by
  intro pins s σ H x y v u Q I rx ry hq
  unfold rEqO at hq
  obtain ⟨a, dx, fs, rfl, ha, o, q⟩ := hq
  cases rx
  obtain ⟨mA, J, _⟩ := ins_get I.hok ha
  obtain ⟨od, J, _⟩ := J.look
  obtain ⟨tb, hl, hn⟩ := o.looks ec I ry
  obtain ⟨m, hF⟩ := I.fr
  show wpAny (model X.prog X.w) X.A (richCompare .Eq (.ref a) u) (EP X pins σ Q) X.xe s
  refine PySem.W.cmp_K (op := .Eq) hr.units0 hF I.ok.mod.kin J hl hn hm.at_ hm.fn ?_
  refine wpAny_mono (run_own rfl F hr hb hx I (.cons (show RelV (.ref a) (.ref a) from rfl) (.cons ry .nil)) q) (fun r s' hq => ?_) fun _ _ e => e
  obtain ⟨w, H', I', rw', b, rfl, q⟩ := hq
  cases rw'
  exact ⟨.bl b, H', I', rfl, q⟩
theorem op_neO (F : FnOk X.prog X.w X.K X.mg X.base CX k f fd ps sp) (hm : Meth X.K C "__eq__" f) (ec : EqC X.K C) (hr : Room (k + 1) X.A) (hb : Binds X.K fd ps []) (hx : Passes CX X E) : OpR X (compareOp .NotEq) (rNeO X.K C sp E) := by
  intro pins s σ H x y v u Q I rx ry hq
  unfold rNeO at hq
  obtain ⟨a, dx, fs, rfl, ha, o, q⟩ := hq
  cases rx
  obtain ⟨mA, J, _⟩ := ins_get I.hok ha
  obtain ⟨od, J, _⟩ := J.look
  obtain ⟨tb, hl, hn⟩ := o.looks ec I ry
  show wpAny (model X.prog X.w) X.A (richCompare .NotEq (.ref a) u) (EP X pins σ Q) X.xe s
  refine PySem.W.ne_own hr.in1.units0 I.kIn J hl hn hm.at_ hm.fn ec.ne ec.ob ?_
  refine wpAny_mono (run_own rfl F hr.in1 hb hx I (.cons (show RelV (.ref a) (.ref a) from rfl) (.cons ry .nil)) q) (fun r s' hq => ?_) fun _ _ e => e
  obtain ⟨w, H', I', rw', b, rfl, q⟩ := hq
  cases rw'
  exact ⟨b, rfl, .bl (!b), H', I', rfl, q⟩
end
end KR
namespace KR
open PySem PySem.Spec PyProof.Rows L2 Builtin Builtin.ObjectAttr
/-! ### the head's facts, the module of statics among the written objects -/
def frC (g : Addr → Option Obj) (n : Nat) : PySem.W.Frag := He.frG g (cStatics :: He.asD g n)
def obsC (n : Nat) (fa : List He.Fa) (fn : List He.DefD) (ex : PySem.W.Frag → Bool) (g : Addr → Option Obj) : He.AlD := ((He.obsD fa fn (frC g n)).1 && ex (frC g n), (He.obsD fa fn (frC g n)).2)
def hookC (n : Nat) (fa : List He.Fa) (fn : List He.DefD) (ex : PySem.W.Frag → Bool) : PySem.W.Hook where
  α := He.AlD
  obs := fun s => obsC n fa fn ex s.heap.get?
  val := fun _ => He.valD fn
  says := fun _ h => ∃ K : PySem.W.Frag, K.In h ∧ He.SaysD fa fn K ∧ ex K = true
  of := fun _ s e => by
    refine ⟨frC s.heap.get? n, He.frG_in, ?_⟩
    obtain ⟨h1, h2⟩ := He.ba (show ((He.obsD fa fn (frC s.heap.get? n)).1 && ex (frC s.heap.get? n)) = true from congrArg (fun z : He.AlD => z.1) e)
    exact ⟨Prod.ext h1 (show (obsC n fa fn ex s.heap.get?).2 = (He.valD fn).2 from congrArg (fun z : He.AlD => z.2) e), h2⟩
  keeps := fun _ _ _ h k => let ⟨K, hK, c⟩ := h; ⟨K, PySem.W.Frag.In.keeps hK k, c⟩
theorem obsC_eq {n : Nat} {fa : List He.Fa} {fn : List He.DefD} {ex : PySem.W.Frag → Bool} {g : Addr → Option Obj} {s : Shared} (h : ∀ a, g a = s.heap.get? a) : obsC n fa fn ex g = (hookC n fa fn ex).obs s := by
  obtain rfl : g = s.heap.get? := funext h
  rfl
/-! ### own exceptions over LookupError, whose own begin calls the base's begin by the base's name and sets one field -/
abbrev leT : List Value := [.type "LookupError", .type "Exception", .type "BaseException", .type "object"]
/-- what the written part tells of such a class -/
structure LeC (K : PySem.W.Frag) (C : Addr) : Prop where
  ini : PySem.W.excInitIn K C leT "LookupError.__new__" = true
  ovr : PySem.W.excOver K C leT = true
  hd : PySem.W.hasDictIn K C = true
  sa : PySem.W.findIn K (.ref C) "__setattr__" = some (some (.builtin "object.__setattr__"))
  ga : PySem.W.findIn K (.ref C) "__getattribute__" = some (some (.builtin "BaseException.__getattribute__"))
  gg : PySem.W.findIn K (.ref C) "__getattr__" = some none
  exC : PySem.W.subIn K (.ref C) (.type "BaseException") = some true
  tyC : PySem.W.typeIn K (.ref C) = some (.type "type")
  kC : PySem.W.keepIn K (.ref C) = true
def leCB (C : Str) (K : PySem.W.Frag) : Bool :=
  PySem.W.excInitIn K (He.ga K C) leT "LookupError.__new__" && (PySem.W.excOver K (He.ga K C) leT && (PySem.W.hasDictIn K (He.ga K C) && (decide (PySem.W.findIn K (.ref (He.ga K C)) "__setattr__" = some (some (.builtin "object.__setattr__"))) &&
    (decide (PySem.W.findIn K (.ref (He.ga K C)) "__getattribute__" = some (some (.builtin "BaseException.__getattribute__"))) && (decide (PySem.W.findIn K (.ref (He.ga K C)) "__getattr__" = some none) &&
    (decide (PySem.W.subIn K (.ref (He.ga K C)) (.type "BaseException") = some true) && (decide (PySem.W.typeIn K (.ref (He.ga K C)) = some (.type "type")) && PySem.W.keepIn K (.ref (He.ga K C)))))))))
theorem leCB_ok {C : Str} {K : PySem.W.Frag} (h : leCB C K = true) : LeC K (He.ga K C) := by
  unfold leCB at h
  obtain ⟨h1, h⟩ := He.ba h
  obtain ⟨h2, h⟩ := He.ba h
  obtain ⟨h3, h⟩ := He.ba h
  obtain ⟨h4, h⟩ := He.ba h
  obtain ⟨h5, h⟩ := He.ba h
  obtain ⟨h6, h⟩ := He.ba h
  obtain ⟨h7, h⟩ := He.ba h
  obtain ⟨h8, h9⟩ := He.ba h
  exact ⟨h1, h2, h3, of_decide_eq_true h4, of_decide_eq_true h5, of_decide_eq_true h6, of_decide_eq_true h7, of_decide_eq_true h8, h9⟩
/-- the base, whose begin is LookupError's -/
structure LeB (K : PySem.W.Frag) (B : Addr) : Prop where
  sp : PySem.W.specialIn K (.ref B) "__getattribute__" = some (some (.builtin "type.__getattribute__"))
  rd : PySem.W.readsIn K B (.type "type") = true
  ini : PySem.W.findCls K (.ref B) (.type "type") "__init__" = some (.val (.builtin "LookupError.__init__"))
def leBB (B : Str) (K : PySem.W.Frag) : Bool :=
  decide (PySem.W.specialIn K (.ref (He.ga K B)) "__getattribute__" = some (some (.builtin "type.__getattribute__"))) && (PySem.W.readsIn K (He.ga K B) (.type "type") &&
    (match PySem.W.findCls K (.ref (He.ga K B)) (.type "type") "__init__" with | some (.val (.builtin i)) => decide (i = "LookupError.__init__") | _ => false))
theorem leBB_ok {B : Str} {K : PySem.W.Frag} (h : leBB B K = true) : LeB K (He.ga K B) := by
  unfold leBB at h
  obtain ⟨h1, h⟩ := He.ba h
  obtain ⟨h2, h3⟩ := He.ba h
  refine ⟨of_decide_eq_true h1, h2, ?_⟩
  split at h3
  · rename_i i e
    rw [e, of_decide_eq_true h3]
  · cases h3
def leIB (C : Str) (K : PySem.W.Frag) : Bool := decide (PySem.W.findIn K (.ref (He.ga K C)) "__init__" = some (some (.ref (He.fAd K (C, some "__init__")))))
def leTB (C : Str) (K : PySem.W.Frag) : Bool := decide (PySem.W.typeIn K (.ref (He.fAd K (C, some "__init__"))) = some (.type "function"))
def leXB (C D : Str) (b : Bool) (K : PySem.W.Frag) : Bool := decide (PySem.W.exmOne K (.ref (He.ga K C)) (.ref (He.ga K D)) = some b)
def leNB (C f : Str) (K : PySem.W.Frag) : Bool := decide (PySem.W.findIn K (.ref (He.ga K C)) f = some none)
section
variable {X : Cx} {pins : List (Addr × Obj)} {σ : L2.St} {H : Hp} {s : Shared} {a C dx : Addr} {f : Str} {y : V} {u : Value} {Q : Unit → Shared → Prop} {E : Value → Shared → Prop} {A : Around}
abbrev exq (C t : Addr) (d : Option Addr) : Obj := { cls := .ref C, dict := d, data := .fields #[.ref t, .none, .none, .none, .bool false, .none] }
/-- the store into an exception that has no dict -/
theorem le_osa {prog : Program} {w : World} {R : Result → Shared → Prop} {K : PySem.W.Frag} {hp : Heap} {g : Array GenState} {d : Drawn} {t : Nat} {os : OsState} {x t0 : Addr} {tk : Tok} {v : Value}
    (Y : K.In hp) (T : LeC K C) (hx : hp.get? x = some (exq C t0 none)) (no : PySem.W.findIn K (.ref C) f = some none)
    (hq : ∀ h' tk' dx, (∀ b o, b ≠ x → hp.get? b = some o → h'.get? b = some o) → hp.objs.size ≤ dx → dx ≠ x → h'.get? x = some (exq C t0 (some dx)) → h'.Ns1 dx (fun z => if z = f then some v else none) → R (.ok (.ret .none)) ⟨h', g, d, tk', os⟩) :
    codeAny (model prog w) A (.call (.builtin "object.__setattr__") ⟨[.ref x, .str f tk, v], []⟩) R ⟨hp, g, d, t, os⟩ := by
  have hxs : x ≠ hp.objs.size := Nat.ne_of_lt (Heap.lt_size hx)
  have tk0 : PySem.W.takerIn K C f = some none := by unfold PySem.W.takerIn; rw [no]; rfl
  refine PySem.W.osa_openX (od := none) PySem.F.store_LookupError Y ⟨hx, rfl, rfl, trivial⟩ T.ovr tk0 fun b => ?_
  obtain ⟨cd, hc, hd'⟩ := PySem.W.any_some T.hd
  have hcl : PySem.W.Looks (model prog w) hp (classData C) cd := PySem.W.looks_clsIn Y hc
  show wpAny _ _ (storeInOwnDict (.ref x) (.ref C) (.str f tk) f v b) _ _ _
  refine wpAny_bind (wpAny_pure (wpAny_bind (PySem.W.instanceDict_exc (c2 := .none) hx hcl hd' ?_)))
  show wpAny _ _ (storeInDict hp.objs.size (.str f tk) f v) _ _ _
  refine PySem.HandSPX.store_in_new ?_ fun h' tk' hn' hs => ?_
  · exact ⟨_, #[], _, (Heap.get?_update_ne _ _ _ _ hxs.symm).trans (Heap.get?_push_at rfl rfl), rfl, fun e he => absurd he (by simp), fun _ => rfl⟩
  · refine hq h' tk' hp.objs.size (fun b o hb ho => ?_) (Nat.le_refl _) hxs.symm ?_ hn'
    · exact (hs.2 b (Nat.ne_of_lt (Heap.lt_size ho))).trans ((Heap.get?_update_ne _ _ _ _ hb).trans (Heap.get?_push_of_some _ ho))
    · exact (hs.2 x hxs).trans (Heap.get?_update_self _ (Heap.get?_push_of_some _ hx) rfl)
/-- self.f = y, the exception has no dict yet -/
theorem le_store (T : LeC X.K C) (I : Inv X pins σ H s) (e : H a = some (exo a C none)) (no : PySem.W.findIn X.K (.ref C) f = some none) (ry : RelV y u)
    (h : ∀ dx s', H dx = none → dx ≠ a → Inv X pins σ (upd (upd H dx (exd dx [(f, y)])) a (exo a C (some dx))) s' → Q () s') : wpAny (model X.prog X.w) A (setAttr (.ref a) f u) Q E s := by
  obtain ⟨tt, he⟩ := exo_at I.hok e
  obtain ⟨hp, g, dr, tk, os⟩ := s
  refine PySem.W.set_plain I.kIn (ox := exq C tt none) (od := none) ⟨he, rfl, rfl, trivial⟩ T.sa ?_
  refine le_osa I.kIn T he no fun h' tk' dx kp big dne hx hn => ?_
  have hnd : H dx = none := I.hok.fresh big
  have old : ∀ {b : Addr} {o : Obj}, hp.get? b = some o → b ≠ dx := fun {b o} q => Nat.ne_of_lt (Nat.lt_of_lt_of_le (Heap.lt_size q) big)
  have nea : ∀ {b : Addr}, H b = none → b ≠ a := fun {b} n z => by rw [z, e] at n; cases n
  have U : Un X.fs [] H (upd (upd H dx (exd dx [(f, y)])) a (exo a C (some dx))) hp h' := by
    refine ⟨fun b o q n _ _ => kp b o (nea n) q, fun b o q n _ _ => ⟨o.slots, kp b o (nea n) q⟩, fun b o q n _ => ?_, fun b o q _ => ?_, fun b xs q => ?_, fun b o v q => ?_, fun b ps q => ⟨#[], ?_⟩⟩
    · rw [upd_ne (nea n), upd_ne (old q)]
      exact n
    · by_cases hb : b = a
      · rw [hb]
        exact ⟨_, hx⟩
      · exact ⟨o, kp b o hb q⟩
    · rw [upd_ne (at_ne e q exo_tup), upd_ne (ne_of_none q hnd)]
      exact q
    · rw [upd_ne (at_ne e q exo_frz), upd_ne (ne_of_none q hnd)]
      exact q
    · rw [upd_ne (at_ne e q exo_tbl), upd_ne (ne_of_none q hnd), q]
      simp
  refine h dx _ hnd dne (I.un (t' := tk') U fun b o q => ?_)
  by_cases hb : b = a
  · subst hb
    rw [upd_same] at q
    cases q
    exact exo_ok hx
  rw [upd_ne hb] at q
  by_cases hd : b = dx
  · subst hd
    rw [upd_same] at q
    cases q
    exact exd_ok hn (relO_put (fs := []) ry fun _ => True.intro)
  rw [upd_ne hd] at q
  refine (I.hok b o q).stay (fun c v hc z => kp c v ?_ z) (fun c hc => ?_) (fun c xs hc => ?_)
  · rcases hc with hc | hc
    · rw [hc]
      exact hb
    · exact at_ne e hc exo_own
  · rw [upd_ne (at_ne e hc exo_own), upd_ne (ne_of_none hc hnd)]
    exact hc
  · rw [upd_ne (at_ne e hc exo_tup), upd_ne (ne_of_none hc hnd)]
    exact hc
/-- LookupError's begin on the exception -/
theorem le_begin {us : List Value} {Q : Value → Shared → Prop} (T : LeC X.K C) (I : Inv X pins σ H s) (e : H a = some (exo a C none)) (hl : us.length ≤ sizeLine) (h : ∀ s', Inv X pins σ H s' → Q .none s') :
    wpAny (model X.prog X.w) A (call (.builtin "LookupError.__init__") (.ref a :: us)) Q E s := by
  obtain ⟨nm, N, qn, bs, bm, hdct, sn, sub, ab, col, dd, k0, k1, k2, k3, k5, hC, hT⟩ := PySem.W.excInit_of I.kIn T.ini
  obtain ⟨tt, he⟩ := exo_at I.hok e
  obtain ⟨hp, g, dr, tk, os⟩ := s
  refine wpAny_call (PySem.HandSPX.init_base PySem.F.excBase_LookupError hT hC he hl fun h' t2 kp hx => ?_)
  have J := I.write (t' := tk) (x := a) (e := a) (o := exo a C none) (by rw [e]; exact True.intro) (.inl rfl) kp ⟨_, hx⟩ (exo_ok hx)
  rw [show upd H a (exo a C none) = H from funext fun b => by
    by_cases hb : b = a
    · rw [hb, upd_same, e]
    · rw [upd_ne hb]] at J
  exact h _ J
end
/-- B.__init__(self, ..) -/
def tLeI (K : PySem.W.Frag) (ta : TA) : TE := fun σ H Q => ta σ H fun vs H1 => ∃ (a C : Addr) (ws : List V), vs = .ref a :: ws ∧ ws.length ≤ 1000 ∧ LeC K C ∧ H1 a = some (exo a C none) ∧ Q .non H1
/-- self.f = e -/
def tLeS (K : PySem.W.Frag) (f : Str) (to te : TE) : TS := fun D σ H => te σ H fun y H1 => to σ H1 fun x H2 => ∃ a C : Addr, x = .ref a ∧ LeC K C ∧ PySem.W.findIn K (.ref C) f = some none ∧ H2 a = some (exo a C none) ∧
  ∀ dx, H2 dx = none → dx ≠ a → D.nx σ (upd (upd H2 dx (exd dx [(f, y)])) a (exo a C (some dx)))
/-- C(e, ..), C's begin keeping sp -/
def tLeM (C : Addr) (sp : Sp) (ta : TA) : L2.St → Hp → XK → Prop := fun σ H Q => ta σ H fun vs H1 => vs.length ≤ 1000 ∧ ∀ a, H1 a = none → sp (.ref a :: vs) (upd H1 a (exo a C none))
  (fun v H2 => v = .non ∧ ∃ (d : Addr) (fs : List (Str × V)), H2 a = some (exo a C (some d)) ∧ H2 d = some (exd d fs) ∧ H1 d = none ∧ Q (.ref C) (some d) (upd (del H2 a) d (.xd fs))) (fun _ _ _ => False)
section
variable {X : Cx} {o e : Expr} {es : List Expr} {to te : TE} {ta : TA} {f : Str} {p p' p1 p2 pos : Pos}
theorem pe_leI {B : Addr} {x : Str} {pl : Sem Bool} (T : LeB X.K B) (hg : Gl X x) (hm : X.mg x = some (.ref B)) (ha : PA X (e :: es) ta) (hdb : (x == ("__debug__" : Str)) = false := by decide)
    (hc : eval (.Call (.Attribute (.Name x p1) "__init__" p2) (e :: es) [] pos) X.env = (do
      let ov ← eval (.Name x p1) X.env
      standAt p2.atName
      let (f, first) ← holding [ov] (getMethod ov "__init__" pl)
      callWith pos f first (backTo pos (starEach (e :: es) X.env)) (backToKw pos (keywordEach [] X.env))) := by rfl)
    (he : starEach (e :: es) X.env = (false, eval e X.env) :: starEach es X.env := by rfl) (hpl : (backTo pos (starEach es X.env)).any (·.1) = false := by rfl) :
    PE X (.Call (.Attribute (.Name x p1) "__init__" p2) (e :: es) [] pos) (tLeI X.K ta) := by
  refine ⟨fun pins s σ H Q I h => ?_⟩
  refine PySem.W.methodCall_KW (ld_glob I hg hm ?_ hdb) hc
  refine PySem.W.method_cls I.kIn T.sp (PySem.W.cls_value I.kIn T.rd T.ini (by decide +kernel) ?_)
  show wpAny _ _ (callWith pos (Value.builtin "LookupError.__init__") [] (backTo pos (starEach (e :: es) X.env)) []) _ _ _
  refine PyProof.Rows.callWith_method1 (thn (ha.run pos pins _ σ H _ (I.tok _) h) fun us s1 hh => ?_) he hpl
  obtain ⟨vs, H1, I1, r1, a, C, ws, ev, hl, TC, ea, q⟩ := hh
  subst ev
  cases r1 with
  | @cons _ u0 _ ur ra rw' =>
    obtain rfl : u0 = Value.ref a := ra
    refine le_begin TC I1 ea (by rw [← Paired.length rw', sizeLine_eq]; omega) fun s' J => ⟨.non, H1, J, rfl, q⟩
theorem ps_leS (ho : PE X o to) (he : PE X e te) (hs : swapsWith e (some (.Attribute o f p')) pos.line X.env = pure false := by rfl) : PS X (.Assign [.Attribute o f p'] e pos) (tLeS X.K f to te) := by
  refine ⟨fun pins s σ H D I h => ?_⟩
  refine plainObj_wpAny_Assign_Attribute (thn (he.run pins s σ H _ I h) fun v s1 hh => ?_) hs
  obtain ⟨y, H1, I1, r1, q1⟩ := hh
  refine thn (ho.run pins s1 σ H1 _ I1 q1) fun u s2 hh2 => ?_
  obtain ⟨x, H2, I2, r2, a, C, ex, T, no, ea, q⟩ := hh2
  subst ex
  obtain rfl : u = Value.ref a := r2
  exact le_store T I2 ea no r1 fun dx s' n ne J => ⟨σ, _, J, q dx n ne⟩
theorem pmk_le {CX : CXT} {x : Str} {C fI : Addr} {k : Nat} {fd : FuncData} {ps : List Str} {sp : Sp} (T : LeC X.K C) (iC : PySem.W.findIn X.K (.ref C) "__init__" = some (some (.ref fI))) (tI : PySem.W.typeIn X.K (.ref fI) = some (.type "function"))
    (F1 : FnOk X.prog X.w X.K X.mg X.base CX k fI fd ps sp) (hr : Room (k + 1) X.A) (hg : Gl X x) (hm : X.mg x = some (.ref C)) (hb : Binds X.K fd ps []) (hx : Passes CX X (fun _ _ _ => False)) (ha : PA X (e :: es) ta)
    (hdb : (x == ("__debug__" : Str)) = false := by decide) (he : starEach (e :: es) X.env = (false, eval e X.env) :: starEach es X.env := by rfl) (hpl : (backTo pos (starEach es X.env)).any (·.1) = false := by rfl) :
    PMk X (.Call (.Name x p) (e :: es) [] pos) (tLeM C sp ta) := by
  intro pins s σ H Q I h
  refine wpAny_Call_Name_kw (ld_glob I hg hm ?_ hdb)
  refine PySem.W.callWith_K (h₀ := X.base) I.ok.mod.kin T.kC (thn (ha.run pos pins s σ H _ I h) fun us s1 hh => ?_) he hpl
  obtain ⟨vs, H1, I1, r1, hz, q1⟩ := hh
  refine ⟨I1.kIn, ?_⟩
  show wpAny _ _ (call (.ref C) us) _ _ _
  obtain ⟨nm, N, qn, bs, bm, hdct, sn, sub, ab, col, dd, k0, k1, k2, k3, k5, hC, hT⟩ := PySem.W.excInit_of I1.kIn T.ini
  obtain ⟨hp, g, dr, tk, os⟩ := s1
  have big : hp.objs.size ≤ hp.objs.size + 1 := Nat.le_succ _
  have hq := q1 (hp.objs.size + 1) (I1.hok.fresh big)
  have kk : ∀ b o, hp.get? b = some o → ((hp.push (PySem.W.kdv_tup us)).push (PySem.HandSPX.excO C hp.objs.size)).get? b = some o := fun b o z => Heap.get?_push_of_some _ (Heap.get?_push_of_some _ z)
  have at1 : ((hp.push (PySem.W.kdv_tup us)).push (PySem.HandSPX.excO C hp.objs.size)).get? (hp.objs.size + 1) = some (PySem.HandSPX.excO C hp.objs.size) := by heap_get
  have J : Inv X pins σ (upd H1 (hp.objs.size + 1) (exo (hp.objs.size + 1) C none)) ⟨(hp.push (PySem.W.kdv_tup us)).push (PySem.HandSPX.excO C hp.objs.size), g, dr, tk, os⟩ := I1.laid (t' := tk) kk big (exo_ok at1)
  have r2 : Vals (V.ref (hp.objs.size + 1) :: vs) (Value.ref (hp.objs.size + 1) :: us) := .cons rfl r1
  have hl : (Value.ref (hp.objs.size + 1) :: us).length = ps.length := by
    rw [← F1.len _ _ _ _ hq]
    exact r2.length.symm
  have hus : us.length ≤ sizeLine := by
    rw [← Paired.length r1, sizeLine_eq]
    omega
  have hbb := hb _ (Value.ref (hp.objs.size + 1) :: us) J.kIn (by rw [List.append_nil]; exact hl)
  rw [List.append_nil] at hbb
  refine wpAny_call (PySem.HandSPX.call_own PySem.F.excBase_LookupError hT hC (PySem.W.looks_findIn I1.kIn iC) (fun self => PySem.W.bind_fn I1.kIn self tI) hus
    (codeAny_mono (F1.run _ X.stack _ _ ⟨Value.ref (hp.objs.size + 1) :: us, []⟩ _ _ _ (fun _ _ _ => False) (hr.make C us []) (J.env0.make C us []) hbb r2 hq) fun r s' hq' => ?_))
  cases r with
  | error er => exact hx pins σ _ _ er s' J hq'
  | ok fl =>
    cases fl with
    | ret u =>
      obtain ⟨v, H2, os2, bare2, un2, hok2, rv, ev, d, fs, ea, ed, hd1, q2⟩ := hq'
      subst ev
      obtain ⟨h2, g2, d2, t2, os'⟩ := s'
      exact ⟨rv, mk_end (raises_own T.exC T.tyC) I1 big kk un2 hok2 os2 bare2 ea ed hd1 q2⟩
    | next => exact False.elim hq'
    | brk => exact False.elim hq'
    | cont => exact False.elim hq'
end
/-! ### try with several clauses, with names or without -/
/-- a clause's suite, its name in slot i -/
def hSu (ts : Addr → Value → Option Addr → TS) (ex : Addr) (cl : Value) (dd : Option Addr) (D : Ends) (σ : L2.St) (H : Hp) : Option Nat → Prop
  | none => ts ex cl dd D σ H
  | some i => ts ex cl dd { nx := fun z G => D.nx (z.set i none) G, rt := D.rt, bk := fun z G => D.bk (z.set i none) G, ct := fun z G => D.ct (z.set i none) G } (σ.set i (some (.ref ex))) H
def wTry (K : PySem.W.Frag) (Wo : WX) (D : Ends) : List (Value × Option Nat × (Addr → Value → Option Addr → TS)) → WX
  | [] => Wo
  | (c, i, ts) :: r => fun cl dd σ H => ∃ b, PySem.W.exmOne K cl c = some b ∧ (b = true → ∀ ex, H ex = none → hSu ts ex cl dd D σ H i) ∧ (b = false → wTry K Wo D r cl dd σ H)
inductive HdsN (X : Cx) : List ExceptHandler → List (Value × Option Nat × (Addr → Value → Option Addr → TS)) → Prop
  | nil : HdsN X [] []
  | bare {x : Str} {c : Value} {ts : Addr → Value → Option Addr → TS} {t₀ : Stmt} {su : List Stmt} {np pp : Pos} {hds : List ExceptHandler} {l : List (Value × Option Nat × (Addr → Value → Option Addr → TS))} (hc : Names X x c)
      (hsu : ∀ (ex : Addr) (oe : Obj) (cl : Value) (dd : Option Addr) (pn : List (Addr × Obj)), Zc cl dd oe → (∃ vs, oe.data = .fields vs) → PSs (X.suite ex ((ex, oe) :: pn)) (t₀ :: su) (ts ex cl dd)) (r : HdsN X hds l) :
      HdsN X (.ExceptHandler (some (.Name x np)) none (t₀ :: su) pp :: hds) ((c, none, ts) :: l)
  | named {x n : Str} {i : Nat} {c : Value} {ts : Addr → Value → Option Addr → TS} {t₀ : Stmt} {su : List Stmt} {np pp : Pos} {hds : List ExceptHandler} {l : List (Value × Option Nat × (Addr → Value → Option Addr → TS))} (hN : X.N.Nodup) (hi : X.N[i]? = some n) (hln : X.env.kindOf n = some .local) (hc : Names X x c)
      (hsu : ∀ (ex : Addr) (oe : Obj) (cl : Value) (dd : Option Addr) (pn : List (Addr × Obj)), Zc cl dd oe → (∃ vs, oe.data = .fields vs) → PSs (X.suite ex ((ex, oe) :: pn)) (t₀ :: su) (ts ex cl dd)) (r : HdsN X hds l) :
      HdsN X (.ExceptHandler (some (.Name x np)) (some n) (t₀ :: su) pp :: hds) ((c, some i, ts) :: l)
section
variable {X : Cx} {body : List Stmt} {h₀ : ExceptHandler} {hds : List ExceptHandler} {l : List (Value × Option Nat × (Addr → Value → Option Addr → TS))} {pos : Pos} {tb : WX → TS} {Wo : WX}
theorem ps_tryN (hs : X.stack = X.env :: X.outer) (hf : X.env.frame = some X.env.locals) (tk : Takes X Wo)
    (hb : ∀ (W : WX) (pn : List (Addr × Obj)) (xe : Value → Shared → Prop), Takes (X.tr pn xe) W → PassesOwn (model X.prog X.w) X.A X.env xe → PSs (X.tr pn xe) body (tb W))
    (hh : HdsN X (h₀ :: hds) l) : PS X (.Try body (h₀ :: hds) [] [] pos) (fun D σ H => tb (wTry X.K Wo D l) D σ H) := by
  refine ⟨fun pins s σ H D I h => ?_⟩
  have okX := I.ok
  have frm : X.A.frames = some (X.env :: X.outer) := by rw [okX.frames, hs]
  refine wpAny_Try_except (wpAny_mono ((hb (wTry X.K Wo D l) (X.pn ++ pins) (fun ev sa => wpAny (model X.prog X.w) X.A (noteFrame ev X.env) (fun _ sb => wpAny (model X.prog X.w) X.A (setFlight ev none) (fun _ sc =>
    wpAny (model X.prog X.w) X.A (handleBy ev X.env (h₀ :: hds)) (SP X pins D) X.xe sc) X.xe sb) X.xe sa) (fun u sv xx => ?_) PassesOwn.looking).run [] s σ H D (I.toTry _) h) (fun fl sq hsp => ?_) (fun ev sq he => he))
  · obtain ⟨ex, B, sI, pz, σz, Hz, cl, dd, rfl, Jt, nb, up, sky, nex, hos, bare, wish⟩ := xx
    have J : Inv X pins σz Hz sI := Jt.ofTry okX
    have sk2 : Sky B (X.env :: X.outer) ex (Zc cl dd) X.env.locals sv.heap := by rw [← hs]; exact sky
    show wpAny (model X.prog X.w) X.A (noteFrame (.ref ex) X.env) _ _ _
    refine Sky.land Zc.steady frm hf sk2 fun ha fla upa => ?_
    have Ja : Inv X pins σz Hz { sv with heap := ha } := J.landed nb fla.1 (up.trans upa) hos bare
    obtain ⟨oa, va, hea, hza, hda⟩ := fla.there
    have nfr : ex ∉ frs (X.env :: X.outer) := fun hm => by
      obtain ⟨_, o', e', hnf⟩ := fla.2.2.1.mem hm
      rw [hea] at e'
      cases e'
      exact hnf _ hda
    have nL : ex ≠ X.env.locals := fun z => nfr (List.mem_filterMap.mpr ⟨X.env, List.mem_cons_self, by rw [hf, z]⟩)
    have nF : ex ∉ X.fs := fun hm => by
      obtain ⟨ev, he, q⟩ := List.mem_filterMap.mp hm
      exact nfr (List.mem_filterMap.mpr ⟨ev, List.mem_cons_of_mem _ he, q⟩)
    have Sa := Ja.suite hea hda nex nL nF
    have named : ∀ {x : Str} {c : Value} {np : Pos} {Q : Value → Shared → Prop} {E : Value → Shared → Prop}, Names X x c → Q c { sv with heap := ha } → wpAny (model X.prog X.w) (X.A.mark (some (.ref ex))) (eval (.Name x np) X.env) Q E { sv with heap := ha } := fun {x c np Q E} hc q => by
      obtain ⟨hg, hdbg, hm | ⟨hm, hv, hnn⟩⟩ := hc
      · exact ld_glob (X := X.suite ex ((ex, oa) :: (X.pn ++ pins))) Sa hg hm q hdbg
      · exact ld_blt (X := X.suite ex ((ex, oa) :: (X.pn ++ pins))) Sa hg hm hv q hnn hdbg
    have LT : PySem.W.Looks (model X.prog X.w) ha (typeOf (.ref ex)) cl := fun A Q E s k q => wpAny_typeOf_ref (k _ _ hea) (by rw [hza.1]; exact q)
    have go : ∀ {hs' : List ExceptHandler} {l' : List (Value × Option Nat × (Addr → Value → Option Addr → TS))}, HdsN X hs' l' → wTry X.K Wo D l' cl dd σz Hz →
        wpAny (model X.prog X.w) X.A (handleBy (.ref ex) X.env hs') (SP X pins D) X.xe { sv with heap := ha } := by
      intro hs' l' hk
      induction hk with
      | nil =>
        intro w
        refine wpAny_handleBy_nil ?_
        obtain ⟨k1, k2, k3, oe, vs, T, oT, ts', he, hz, hd, h1, hr⟩ := id fla
        unfold PySem.passOn
        refine wpAny_bind (wpAny_field he hd h1 ?_)
        rw [if_neg (show ¬ ((Value.ref T == Value.none) = true) from by simp)]
        have out : wpAny (model X.prog X.w) X.A (setFlight (.ref ex) X.env.frame) (fun _ s4 => wpAny (model X.prog X.w) X.A (throw (.ref ex) : Sem Flow) (SP X pins D) X.xe s4) X.xe { sv with heap := ha } := by
          rw [hf]
          refine HandSPX.setFlight_upZ fla fun hc held upc => wpAny_throw (tk _ _ ?_)
          exact ⟨ex, B, sI, pins, σz, Hz, cl, dd, rfl, J, nb, (up.trans upa).trans upc, .inr (.inr (by rw [hs]; exact held)), nex, hos, bare, w⟩
        first
          | exact wpAny_bind (wpAny_pure (wpAny_bind out))
          | exact wpAny_bind out
      | @bare x c ts t₀ su np pp hds2 l2 hc hsu r ih =>
        intro w
        obtain ⟨b, hb1, hyes, hno⟩ := w
        refine wpAny_handleBy_cons (codeAny_handlers_test (named hc ((PySem.W.exm_one (M := model X.prog X.w) (Ja.kIn) LT hb1).here ?_))) (by intro q; cases q)
        cases b with
        | false => exact ih (hno rfl)
        | true =>
          refine codeAny_handlers_suite (HandSPX.lands_againZ fla fun hc flc upc => ?_)
          have Jc : Inv X pins σz Hz { sv with heap := hc } := J.landed nb flc.1 ((up.trans upa).trans upc) hos bare
          obtain ⟨oc, vc, hec, hzc, hdc⟩ := flc.there
          refine wpAny_mono ((hsu ex oc cl dd (X.pn ++ pins) hzc ⟨_, hdc⟩).run [] _ _ Hz _ (Jc.suite hec hdc nex nL nF) (hyes rfl ex nex)) (fun fl sx hsp => ?_) (fun _ _ z => False.elim z)
          cases fl with
          | ret u =>
            obtain ⟨v, σx, Hx, Sx, rx, qx⟩ := hsp
            exact ⟨_, _, _, Sx.unsuite okX, rx, qx⟩
          | next =>
            obtain ⟨σx, Hx, Sx, qx⟩ := hsp
            exact ⟨_, _, Sx.unsuite okX, qx⟩
          | brk =>
            obtain ⟨σx, Hx, Sx, qx⟩ := hsp
            exact ⟨_, _, Sx.unsuite okX, qx⟩
          | cont =>
            obtain ⟨σx, Hx, Sx, qx⟩ := hsp
            exact ⟨_, _, Sx.unsuite okX, qx⟩
      | @named x n i c ts t₀ su np pp hds2 l2 hN hi hln hc hsu r ih =>
        intro w
        obtain ⟨b, hb1, hyes, hno⟩ := w
        refine wpAny_handleBy_cons (codeAny_handlers_test (named hc ((PySem.W.exm_one (M := model X.prog X.w) (Ja.kIn) LT hb1).here ?_))) (by intro q; cases q)
        cases b with
        | false => exact ih (hno rfl)
        | true =>
          refine codeAny_handlers_suite_as (HandSPX.lands_againZ fla fun hc flc upc => ?_)
          have Jc : Inv X pins σz Hz { sv with heap := hc } := J.landed nb flc.1 ((up.trans upa).trans upc) hos bare
          obtain ⟨oc, vc, hec, hzc, hdc⟩ := flc.there
          refine store_ok (X := X.suite ex ((ex, oc) :: (X.pn ++ pins))) (v := .ref ex) (Jc.suite hec hdc nex nL nF) hN hi (.inl hln) rfl (fun s5 S5 => ?_) (.inr hln)
          refine wpAny_mono ((hsu ex oc cl dd (X.pn ++ pins) hzc ⟨_, hdc⟩).run [] s5 _ Hz _ S5 (hyes rfl ex nex)) (fun fl sx hsp => ?_) (fun _ _ z => False.elim z)
          have fin : ∀ {σx : L2.St} {Hx : Hp} {Q : Shared → Prop}, Inv (X.suite ex ((ex, oc) :: (X.pn ++ pins))) [] σx Hx sx → (∀ sy, Inv X pins (σx.set i none) Hx sy → Q sy) →
              wpAny (model X.prog X.w) X.A (do bindName X.env n .none; unbindBehindTheSuite X.env n pp) (fun _ sy => Q sy) X.xe sx := fun {σx Hx Q} Sx hq => gone_ok (Sx.unsuite okX) hN hi hln hq
          cases fl with
          | ret u =>
            obtain ⟨v, σx, Hx, Sx, rx, qx⟩ := hsp
            exact fin Sx fun sy Jy => ⟨_, _, _, Jy, rx, qx⟩
          | next =>
            obtain ⟨σx, Hx, Sx, qx⟩ := hsp
            exact fin Sx fun sy Jy => ⟨_, _, Jy, qx⟩
          | brk =>
            obtain ⟨σx, Hx, Sx, qx⟩ := hsp
            exact fin Sx fun sy Jy => ⟨_, _, Jy, qx⟩
          | cont =>
            obtain ⟨σx, Hx, Sx, qx⟩ := hsp
            exact fin Sx fun sy Jy => ⟨_, _, Jy, qx⟩
    exact go hh wish
  · cases fl with
    | ret u =>
      obtain ⟨v, σx, Hx, Jx, r, q⟩ := hsp
      exact ⟨v, σx, Hx, Jx.ofTry okX, r, q⟩
    | next =>
      obtain ⟨σx, Hx, Jx, q⟩ := hsp
      exact wpAny_execs_nil ⟨σx, Hx, Jx.ofTry okX, q⟩
    | brk =>
      obtain ⟨σx, Hx, Jx, q⟩ := hsp
      exact ⟨σx, Hx, Jx.ofTry okX, q⟩
    | cont =>
      obtain ⟨σx, Hx, Jx, q⟩ := hsp
      exact ⟨σx, Hx, Jx.ofTry okX, q⟩
end
/-! ### the caught exception: its field, its class -/
/-- the class fact that isinstance wants beside LeC -/
def rIsLe (K : PySem.W.Frag) (ex : Addr) (cl : Value) (dd : Option Addr) : List V → Hp → VK → Prop := fun xs H Q => ∃ (C D d : Addr) (fs : List (Str × V)) (b : Bool), xs = [.ref ex, .ref D] ∧ cl = .ref C ∧ dd = some d ∧ H d = some (.xd fs) ∧ LeC K C ∧ IsC K C ∧ PySem.W.kitOne K (.ref C) (.ref D) = some b ∧ Q (.bl b) H
theorem call_isLe {X : Cx} {ex : Addr} {cl : Value} {dd : Option Addr} {oe : Obj} {pn : List (Addr × Obj)} (hz : Zc cl dd oe) (hf : ∃ vs, oe.data = .fields vs) : CallR (X.suite ex ((ex, oe) :: pn)) (.builtin "isinstance") (rIsLe X.K ex cl dd) := by
  intro pins s σ H xs us Q I r h
  obtain ⟨C, D, d, fs, b, rfl, rfl, rfl, hd, T, T2, e, q⟩ := h
  obtain ⟨u1, u2, rfl, r1, r2⟩ := vals2 r
  cases (show u1 = Value.ref ex from r1)
  cases (show u2 = Value.ref D from r2)
  obtain ⟨hget, _⟩ := I.pin (ex, oe) (List.mem_append.mpr (.inl List.mem_cons_self))
  obtain ⟨vs, hv⟩ := hf
  have hx : ObjOk X.prog X.w H s.heap d (.xd fs) := I.hok d _ hd
  obtain ⟨mA, hns, hr⟩ := hx
  obtain ⟨od, ho, _⟩ := lookIn_ns hns
  have J : PySem.W.InstAt s.heap ex oe C (some od) := ⟨hget, hz.1, by unfold PySem.W.notCls; rw [hv] <;> rfl, by rw [hz.2]; exact ho⟩
  have hcl : (PySem.W.clsIn X.K C).isSome = true := by
    obtain ⟨cd, hc, _⟩ := PySem.W.any_some T.hd
    rw [hc]
    rfl
  exact PySem.W.kia_one (PySem.W.kitx_exc hcl T.ga T.gg T.exC T2.cl T2.g T2.t T2.m) I.kIn J e (fun z => nomatch z) fun tk => ⟨.bl b, H, I.kept (t' := tk) fun _ _ z => z, rfl, q⟩
theorem LeC.xf {K : PySem.W.Frag} {C : Addr} (T : LeC K C) : XfC K C := ⟨T.ga, T.gg, T.exC, T.hd⟩
/-- C(.., k = v, ..) where C's begin may raise -/
def tMakeKS (C : Addr) (n m : Nat) (sp : Sp) (gV : List V → List V → List V) (E : L2.St → XK) (t tk : TA) : TE := fun σ H Q => tMakeK C n m sp gV (E σ) t tk σ H Q
section
variable {X : Cx} {CX : CXT} {k n : Nat} {f C : Addr} {fd : FuncData} {ps ks : List Str} {sp : Sp} {E : L2.St → XK} {x : Str} {p pos : Pos} {e : Expr} {es : List Expr} {kws : List Keyword} {t tk : TA} {g : List Value → List Value → List Value} {gV : List V → List V → List V}
theorem run_makeKS {pins : List (Addr × Obj)} {σ : L2.St} {H : Hp} {s : Shared} {Q : VK} {us ws : List Value} {vs zs : List V} (M : Mk X.K C f) (F : FnOk X.prog X.w X.K X.mg X.base CX k f fd ps sp) (hr : Room (k + 1) X.A) (hb : KBn X.K fd ps (n + 1) ks g gV) (hx : PassesAt CX X σ (E σ))
    (I : Inv X pins σ H s) (r : Vals vs us) (rz : Vals zs ws) (l1 : vs.length = n) (l2 : zs.length = ks.length)
    (h : ∀ x dx, H x = none → H dx = none → dx ≠ x → sp (gV (.ref x :: vs) zs) (upd (upd H dx (.own x)) x (.ins C dx [])) (fun v H2 => v = .non ∧ Q (.ref x) H2) (E σ)) :
    wpAny (model X.prog X.w) X.A (call (.ref C) us (ks.zip ws)) (EP X pins σ Q) X.xe s := by
  have J := Inv.made (C := C) I
  have r1 : Vals (V.ref (s.heap.objs.size + 1) :: vs) (Value.ref (s.heap.objs.size + 1) :: us) := .cons rfl r
  have n1 : (Value.ref (s.heap.objs.size + 1) :: us).length = n + 1 := by rw [List.length_cons, ← r.length, l1]
  have q0 := h (s.heap.objs.size + 1) s.heap.objs.size (I.hok.fresh (Nat.le_succ _)) (I.hok.fresh (Nat.le_refl _)) (Nat.ne_of_lt (Nat.lt_succ_self _))
  refine wpAny_call (make_map (f := f) I.kIn M.makes M.init (beq_iff_eq.mp M.fn) (codeAny_mono (F.run _ X.stack _ _ ⟨Value.ref (s.heap.objs.size + 1) :: us, ks.zip ws⟩ (g (Value.ref (s.heap.objs.size + 1) :: us) ws) _ _ (E σ) (hr.make C us (ks.zip ws))
    (J.env0.make C us (ks.zip ws)) (hb.to _ (Value.ref (s.heap.objs.size + 1) :: us) ws J.kIn n1 (rz.length.symm.trans l2)) (hb.rel r1 rz) q0) fun rs sz z => ?_))
  cases rs with
  | error ev => exact hx pins _ _ ev sz J z
  | ok fl =>
    cases fl with
    | ret u =>
      obtain ⟨v, Hz, Jz, rv, ev, qz⟩ := J.after z
      subst ev
      exact ⟨rv, ⟨V.ref (s.heap.objs.size + 1), Hz, Jz, rfl, qz⟩⟩
    | next => exact False.elim z
    | brk => exact False.elim z
    | cont => exact False.elim z
theorem pe_makeKS (M : Mk X.K C f) (F : FnOk X.prog X.w X.K X.mg X.base CX k f fd ps sp) (hr : Room (k + 1) X.A) (hg : Gl X x) (hm : X.mg x = some (.ref C)) (hb : KBn X.K fd ps (n + 1) ks g gV) (hx : ∀ σ, PassesAt CX X σ (E σ)) (ha : PA X (e :: es) t) (hkw : PK X kws tk)
    (hall : (backToKw pos (keywordEach kws X.env)).all (·.1.isSome) = true := by rfl) (hks : (backToKw pos (keywordEach kws X.env)).filterMap (·.1) = ks := by rfl) (hdb : (x == ("__debug__" : Str)) = false := by decide)
    (he : starEach (e :: es) X.env = (false, eval e X.env) :: starEach es X.env := by rfl) (hpl : ((backTo pos (starEach (e :: es) X.env)).any (·.1) || (backToKw pos (keywordEach kws X.env)).any (·.1.isNone)) = false := by rfl) :
    PE X (.Call (.Name x p) (e :: es) kws pos) (tMakeKS C n ks.length sp gV E t tk) := by
  refine ⟨fun pins s σ H Q I h => wpAny_Call_Name_kw (ld_glob I hg hm ?_ hdb)⟩
  refine PySem.W.callWith_KW (h₀ := X.base) I.ok.mod.kin M.kp hall (thn (ha.run pos pins s σ H _ I h) fun us s1 ⟨vs, H1, I1, r, q⟩ => thn (hkw.run pos pins s1 σ H1 _ I1 q) fun ws s2 ⟨zs, H2, I2, rz, l1, l2, q2⟩ => ⟨I2.kIn, ?_⟩) hpl he
  rw [hks]
  exact run_makeKS M F hr hb (hx σ) I2 r rz l1 l2 q2
end
end KR
namespace KR
open PySem PySem.Spec PyProof.Rows L2
def topS (i : Nat) : Stmt := PySem.Challenge.pw_keeprows_k02_settings_refused.main.body.getD i (.Pass ⟨0, 0, 0, 0⟩)
abbrev s_is_integer : Stmt := topS 12
abbrev P_is_integer : List Str := ["value"]
abbrev N_is_integer : List Str := ["value"]
def dd_is_integer : He.DefD := ⟨("is_integer", none), "is_integer", "is_integer", defArgs s_is_integer, defBody s_is_integer, defScope s_is_integer, [], []⟩
theorem sc_is_integer : FnScope N_is_integer P_is_integer (defScope s_is_integer) := ⟨rfl, rfl, rfl, by decide +kernel, rfl, by decide +kernel, by decide +kernel⟩
abbrev F_is_integer (K : PySem.W.Frag) (fd : FuncData) : Prop := FunD K "is_integer" "is_integer" (defArgs s_is_integer) (defBody s_is_integer) (defScope s_is_integer) [] [] (He.fAd K ("is_integer", none)) fd
abbrev s_is_between : Stmt := topS 13
abbrev P_is_between : List Str := ["value", "low", "high"]
abbrev N_is_between : List Str := ["value", "low", "high"]
def dd_is_between : He.DefD := ⟨("is_between", none), "is_between", "is_between", defArgs s_is_between, defBody s_is_between, defScope s_is_between, [], []⟩
theorem sc_is_between : FnScope N_is_between P_is_between (defScope s_is_between) := ⟨rfl, rfl, rfl, by decide +kernel, rfl, by decide +kernel, by decide +kernel⟩
abbrev F_is_between (K : PySem.W.Frag) (fd : FuncData) : Prop := FunD K "is_between" "is_between" (defArgs s_is_between) (defBody s_is_between) (defScope s_is_between) [] [] (He.fAd K ("is_between", none)) fd
abbrev s_check_part : Stmt := topS 14
abbrev P_check_part : List Str := ["part", "value", "low", "high"]
abbrev N_check_part : List Str := ["part", "value", "low", "high"]
def dd_check_part : He.DefD := ⟨("check_part", none), "check_part", "check_part", defArgs s_check_part, defBody s_check_part, defScope s_check_part, [], []⟩
theorem sc_check_part : FnScope N_check_part P_check_part (defScope s_check_part) := ⟨rfl, rfl, rfl, by decide +kernel, rfl, by decide +kernel, by decide +kernel⟩
abbrev F_check_part (K : PySem.W.Frag) (fd : FuncData) : Prop := FunD K "check_part" "check_part" (defArgs s_check_part) (defBody s_check_part) (defScope s_check_part) [] [] (He.fAd K ("check_part", none)) fd
abbrev s_Settings___init__ : Stmt := inClass (topS 15) 0
abbrev P_Settings___init__ : List Str := ["self", "lengths", "size", "fanout", "records", "every", "keep"]
abbrev N_Settings___init__ : List Str := ["self", "lengths", "size", "fanout", "records", "every", "keep", "length"]
def dd_Settings___init__ : He.DefD := ⟨("Settings", some "__init__"), "__init__", "Settings.__init__", defArgs s_Settings___init__, defBody s_Settings___init__, defScope s_Settings___init__, [], []⟩
theorem sc_Settings___init__ : FnScope N_Settings___init__ P_Settings___init__ (defScope s_Settings___init__) := ⟨rfl, rfl, rfl, by decide +kernel, rfl, by decide +kernel, by decide +kernel⟩
abbrev F_Settings___init__ (K : PySem.W.Frag) (fd : FuncData) : Prop := FunD K "__init__" "Settings.__init__" (defArgs s_Settings___init__) (defBody s_Settings___init__) (defScope s_Settings___init__) [] [] (He.fAd K ("Settings", some "__init__")) fd
abbrev s_Settings___eq__ : Stmt := inClass (topS 15) 1
abbrev P_Settings___eq__ : List Str := ["self", "other"]
abbrev N_Settings___eq__ : List Str := ["self", "other"]
def dd_Settings___eq__ : He.DefD := ⟨("Settings", some "__eq__"), "__eq__", "Settings.__eq__", defArgs s_Settings___eq__, defBody s_Settings___eq__, defScope s_Settings___eq__, [], []⟩
theorem sc_Settings___eq__ : FnScope N_Settings___eq__ P_Settings___eq__ (defScope s_Settings___eq__) := ⟨rfl, rfl, rfl, by decide +kernel, rfl, by decide +kernel, by decide +kernel⟩
abbrev F_Settings___eq__ (K : PySem.W.Frag) (fd : FuncData) : Prop := FunD K "__eq__" "Settings.__eq__" (defArgs s_Settings___eq__) (defBody s_Settings___eq__) (defScope s_Settings___eq__) [] [] (He.fAd K ("Settings", some "__eq__")) fd
abbrev s_Settings_parts : Stmt := inClass (topS 15) 2
abbrev P_Settings_parts : List Str := ["self"]
abbrev N_Settings_parts : List Str := ["self"]
def dd_Settings_parts : He.DefD := ⟨("Settings", some "parts"), "parts", "Settings.parts", defArgs s_Settings_parts, defBody s_Settings_parts, defScope s_Settings_parts, [], []⟩
theorem sc_Settings_parts : FnScope N_Settings_parts P_Settings_parts (defScope s_Settings_parts) := ⟨rfl, rfl, rfl, by decide +kernel, rfl, by decide +kernel, by decide +kernel⟩
abbrev F_Settings_parts (K : PySem.W.Frag) (fd : FuncData) : Prop := FunD K "parts" "Settings.parts" (defArgs s_Settings_parts) (defBody s_Settings_parts) (defScope s_Settings_parts) [] [] (He.fAd K ("Settings", some "parts")) fd
abbrev s_law_mix : Stmt := topS 17
abbrev P_law_mix : List Str := ["cell", "lap"]
abbrev N_law_mix : List Str := ["cell", "lap", "blend"]
def dd_law_mix : He.DefD := ⟨("_law_mix", none), "_law_mix", "_law_mix", defArgs s_law_mix, defBody s_law_mix, defScope s_law_mix, [], []⟩
theorem sc_law_mix : FnScope N_law_mix P_law_mix (defScope s_law_mix) := ⟨rfl, rfl, rfl, by decide +kernel, rfl, by decide +kernel, by decide +kernel⟩
abbrev F_law_mix (K : PySem.W.Frag) (fd : FuncData) : Prop := FunD K "_law_mix" "_law_mix" (defArgs s_law_mix) (defBody s_law_mix) (defScope s_law_mix) [] [] (He.fAd K ("_law_mix", none)) fd
abbrev s_law_source : Stmt := topS 18
abbrev P_law_source : List Str := ["script", "k"]
abbrev N_law_source : List Str := ["script", "k", "cell"]
def dd_law_source : He.DefD := ⟨("_law_source", none), "_law_source", "_law_source", defArgs s_law_source, defBody s_law_source, defScope s_law_source, [], []⟩
theorem sc_law_source : FnScope N_law_source P_law_source (defScope s_law_source) := ⟨rfl, rfl, rfl, by decide +kernel, rfl, by decide +kernel, by decide +kernel⟩
abbrev F_law_source (K : PySem.W.Frag) (fd : FuncData) : Prop := FunD K "_law_source" "_law_source" (defArgs s_law_source) (defBody s_law_source) (defScope s_law_source) [] [] (He.fAd K ("_law_source", none)) fd
abbrev s_law_draw : Stmt := topS 19
abbrev P_law_draw : List Str := ["source", "limit"]
abbrev N_law_draw : List Str := ["source", "limit", "drawn"]
def dd_law_draw : He.DefD := ⟨("_law_draw", none), "_law_draw", "_law_draw", defArgs s_law_draw, defBody s_law_draw, defScope s_law_draw, [], []⟩
theorem sc_law_draw : FnScope N_law_draw P_law_draw (defScope s_law_draw) := ⟨rfl, rfl, rfl, by decide +kernel, rfl, by decide +kernel, by decide +kernel⟩
abbrev F_law_draw (K : PySem.W.Frag) (fd : FuncData) : Prop := FunD K "_law_draw" "_law_draw" (defArgs s_law_draw) (defBody s_law_draw) (defScope s_law_draw) [] [] (He.fAd K ("_law_draw", none)) fd
abbrev s_law_pick : Stmt := topS 20
abbrev P_law_pick : List Str := ["source", "items"]
abbrev N_law_pick : List Str := ["source", "items"]
def dd_law_pick : He.DefD := ⟨("_law_pick", none), "_law_pick", "_law_pick", defArgs s_law_pick, defBody s_law_pick, defScope s_law_pick, [], []⟩
theorem sc_law_pick : FnScope N_law_pick P_law_pick (defScope s_law_pick) := ⟨rfl, rfl, rfl, by decide +kernel, rfl, by decide +kernel, by decide +kernel⟩
abbrev F_law_pick (K : PySem.W.Frag) (fd : FuncData) : Prop := FunD K "_law_pick" "_law_pick" (defArgs s_law_pick) (defBody s_law_pick) (defScope s_law_pick) [] [] (He.fAd K ("_law_pick", none)) fd
abbrev s_law_parts : Stmt := topS 21
abbrev P_law_parts : List Str := ["source"]
abbrev N_law_parts : List Str := ["source", "room", "some", "found", "low", "high", "k"]
def dd_law_parts : He.DefD := ⟨("_law_parts", none), "_law_parts", "_law_parts", defArgs s_law_parts, defBody s_law_parts, defScope s_law_parts, [], []⟩
theorem sc_law_parts : FnScope N_law_parts P_law_parts (defScope s_law_parts) := ⟨rfl, rfl, rfl, by decide +kernel, rfl, by decide +kernel, by decide +kernel⟩
abbrev F_law_parts (K : PySem.W.Frag) (fd : FuncData) : Prop := FunD K "_law_parts" "_law_parts" (defArgs s_law_parts) (defBody s_law_parts) (defScope s_law_parts) [] [] (He.fAd K ("_law_parts", none)) fd
abbrev s_law_odd : Stmt := topS 22
abbrev P_law_odd : List Str := ["source", "p", "at"]
abbrev N_law_odd : List Str := ["source", "p", "at", "some"]
def dd_law_odd : He.DefD := ⟨("_law_odd", none), "_law_odd", "_law_odd", defArgs s_law_odd, defBody s_law_odd, defScope s_law_odd, [], []⟩
theorem sc_law_odd : FnScope N_law_odd P_law_odd (defScope s_law_odd) := ⟨rfl, rfl, rfl, by decide +kernel, rfl, by decide +kernel, by decide +kernel⟩
abbrev F_law_odd (K : PySem.W.Frag) (fd : FuncData) : Prop := FunD K "_law_odd" "_law_odd" (defArgs s_law_odd) (defBody s_law_odd) (defScope s_law_odd) [] [] (He.fAd K ("_law_odd", none)) fd
abbrev s_law_said : Stmt := topS 23
abbrev P_law_said : List Str := ["p"]
abbrev N_law_said : List Str := ["p", "e"]
def dd_law_said : He.DefD := ⟨("_law_said", none), "_law_said", "_law_said", defArgs s_law_said, defBody s_law_said, defScope s_law_said, [], []⟩
theorem sc_law_said : FnScope N_law_said P_law_said (defScope s_law_said) := ⟨rfl, rfl, rfl, by decide +kernel, rfl, by decide +kernel, by decide +kernel⟩
abbrev F_law_said (K : PySem.W.Frag) (fd : FuncData) : Prop := FunD K "_law_said" "_law_said" (defArgs s_law_said) (defBody s_law_said) (defScope s_law_said) [] [] (He.fAd K ("_law_said", none)) fd
abbrev s_law_right : Stmt := topS 24
abbrev P_law_right : List Str := ["source"]
abbrev N_law_right : List Str := ["source", "words", "turn", "p", "bad", "bent", "at"]
def dd_law_right : He.DefD := ⟨("_law_right", none), "_law_right", "_law_right", defArgs s_law_right, defBody s_law_right, defScope s_law_right, [], []⟩
theorem sc_law_right : FnScope N_law_right P_law_right (defScope s_law_right) := ⟨rfl, rfl, rfl, by decide +kernel, rfl, by decide +kernel, by decide +kernel⟩
abbrev F_law_right (K : PySem.W.Frag) (fd : FuncData) : Prop := FunD K "_law_right" "_law_right" (defArgs s_law_right) (defBody s_law_right) (defScope s_law_right) [] [] (He.fAd K ("_law_right", none)) fd
abbrev s_law : Stmt := topS 25
abbrev P_law : List Str := ["script"]
abbrev N_law : List Str := ["script", "k", "source"]
def dd_law : He.DefD := ⟨("law", none), "law", "law", defArgs s_law, defBody s_law, defScope s_law, [], []⟩
theorem sc_law : FnScope N_law P_law (defScope s_law) := ⟨rfl, rfl, rfl, by decide +kernel, rfl, by decide +kernel, by decide +kernel⟩
abbrev F_law (K : PySem.W.Frag) (fd : FuncData) : Prop := FunD K "law" "law" (defArgs s_law) (defBody s_law) (defScope s_law) [] [] (He.fAd K ("law", none)) fd
abbrev s_InvalidSettings___init__ : Stmt := inClass (topS 3) 0
abbrev P_InvalidSettings___init__ : List Str := ["self", "part"]
abbrev N_InvalidSettings___init__ : List Str := ["self", "part"]
def dd_InvalidSettings___init__ : He.DefD := ⟨("InvalidSettings", some "__init__"), "__init__", "InvalidSettings.__init__", defArgs s_InvalidSettings___init__, defBody s_InvalidSettings___init__, defScope s_InvalidSettings___init__, [], []⟩
theorem sc_InvalidSettings___init__ : FnScope N_InvalidSettings___init__ P_InvalidSettings___init__ (defScope s_InvalidSettings___init__) := ⟨rfl, rfl, rfl, by decide +kernel, rfl, by decide +kernel, by decide +kernel⟩
abbrev F_InvalidSettings___init__ (K : PySem.W.Frag) (fd : FuncData) : Prop := FunD K "__init__" "InvalidSettings.__init__" (defArgs s_InvalidSettings___init__) (defBody s_InvalidSettings___init__) (defScope s_InvalidSettings___init__) [] [] (He.fAd K ("InvalidSettings", some "__init__")) fd
abbrev s_InvalidText___init__ : Stmt := inClass (topS 4) 0
abbrev P_InvalidText___init__ : List Str := ["self", "line"]
abbrev N_InvalidText___init__ : List Str := ["self", "line"]
def dd_InvalidText___init__ : He.DefD := ⟨("InvalidText", some "__init__"), "__init__", "InvalidText.__init__", defArgs s_InvalidText___init__, defBody s_InvalidText___init__, defScope s_InvalidText___init__, [], []⟩
theorem sc_InvalidText___init__ : FnScope N_InvalidText___init__ P_InvalidText___init__ (defScope s_InvalidText___init__) := ⟨rfl, rfl, rfl, by decide +kernel, rfl, by decide +kernel, by decide +kernel⟩
abbrev F_InvalidText___init__ (K : PySem.W.Frag) (fd : FuncData) : Prop := FunD K "__init__" "InvalidText.__init__" (defArgs s_InvalidText___init__) (defBody s_InvalidText___init__) (defScope s_InvalidText___init__) [] [] (He.fAd K ("InvalidText", some "__init__")) fd
theorem lk_Settings_1_0 {v0 : V} : List.lookup ("lengths" : Str) [(("lengths" : Str), v0)] = some v0 := by kernel_rfl
theorem lk_Settings_2_0 {v0 v1 : V} : List.lookup ("lengths" : Str) [(("lengths" : Str), v0), (("size" : Str), v1)] = some v0 := by kernel_rfl
theorem lk_Settings_2_1 {v0 v1 : V} : List.lookup ("size" : Str) [(("lengths" : Str), v0), (("size" : Str), v1)] = some v1 := by kernel_rfl
theorem lk_Settings_3_0 {v0 v1 v2 : V} : List.lookup ("lengths" : Str) [(("lengths" : Str), v0), (("size" : Str), v1), (("fanout" : Str), v2)] = some v0 := by kernel_rfl
theorem lk_Settings_3_1 {v0 v1 v2 : V} : List.lookup ("size" : Str) [(("lengths" : Str), v0), (("size" : Str), v1), (("fanout" : Str), v2)] = some v1 := by kernel_rfl
theorem lk_Settings_3_2 {v0 v1 v2 : V} : List.lookup ("fanout" : Str) [(("lengths" : Str), v0), (("size" : Str), v1), (("fanout" : Str), v2)] = some v2 := by kernel_rfl
theorem lk_Settings_4_0 {v0 v1 v2 v3 : V} : List.lookup ("lengths" : Str) [(("lengths" : Str), v0), (("size" : Str), v1), (("fanout" : Str), v2), (("records" : Str), v3)] = some v0 := by kernel_rfl
theorem lk_Settings_4_1 {v0 v1 v2 v3 : V} : List.lookup ("size" : Str) [(("lengths" : Str), v0), (("size" : Str), v1), (("fanout" : Str), v2), (("records" : Str), v3)] = some v1 := by kernel_rfl
theorem lk_Settings_4_2 {v0 v1 v2 v3 : V} : List.lookup ("fanout" : Str) [(("lengths" : Str), v0), (("size" : Str), v1), (("fanout" : Str), v2), (("records" : Str), v3)] = some v2 := by kernel_rfl
theorem lk_Settings_4_3 {v0 v1 v2 v3 : V} : List.lookup ("records" : Str) [(("lengths" : Str), v0), (("size" : Str), v1), (("fanout" : Str), v2), (("records" : Str), v3)] = some v3 := by kernel_rfl
theorem lk_Settings_5_0 {v0 v1 v2 v3 v4 : V} : List.lookup ("lengths" : Str) [(("lengths" : Str), v0), (("size" : Str), v1), (("fanout" : Str), v2), (("records" : Str), v3), (("every" : Str), v4)] = some v0 := by kernel_rfl
theorem lk_Settings_5_1 {v0 v1 v2 v3 v4 : V} : List.lookup ("size" : Str) [(("lengths" : Str), v0), (("size" : Str), v1), (("fanout" : Str), v2), (("records" : Str), v3), (("every" : Str), v4)] = some v1 := by kernel_rfl
theorem lk_Settings_5_2 {v0 v1 v2 v3 v4 : V} : List.lookup ("fanout" : Str) [(("lengths" : Str), v0), (("size" : Str), v1), (("fanout" : Str), v2), (("records" : Str), v3), (("every" : Str), v4)] = some v2 := by kernel_rfl
theorem lk_Settings_5_3 {v0 v1 v2 v3 v4 : V} : List.lookup ("records" : Str) [(("lengths" : Str), v0), (("size" : Str), v1), (("fanout" : Str), v2), (("records" : Str), v3), (("every" : Str), v4)] = some v3 := by kernel_rfl
theorem lk_Settings_5_4 {v0 v1 v2 v3 v4 : V} : List.lookup ("every" : Str) [(("lengths" : Str), v0), (("size" : Str), v1), (("fanout" : Str), v2), (("records" : Str), v3), (("every" : Str), v4)] = some v4 := by kernel_rfl
theorem lk_Settings_6_0 {v0 v1 v2 v3 v4 v5 : V} : List.lookup ("lengths" : Str) [(("lengths" : Str), v0), (("size" : Str), v1), (("fanout" : Str), v2), (("records" : Str), v3), (("every" : Str), v4), (("keep" : Str), v5)] = some v0 := by kernel_rfl
theorem lk_Settings_6_1 {v0 v1 v2 v3 v4 v5 : V} : List.lookup ("size" : Str) [(("lengths" : Str), v0), (("size" : Str), v1), (("fanout" : Str), v2), (("records" : Str), v3), (("every" : Str), v4), (("keep" : Str), v5)] = some v1 := by kernel_rfl
theorem lk_Settings_6_2 {v0 v1 v2 v3 v4 v5 : V} : List.lookup ("fanout" : Str) [(("lengths" : Str), v0), (("size" : Str), v1), (("fanout" : Str), v2), (("records" : Str), v3), (("every" : Str), v4), (("keep" : Str), v5)] = some v2 := by kernel_rfl
theorem lk_Settings_6_3 {v0 v1 v2 v3 v4 v5 : V} : List.lookup ("records" : Str) [(("lengths" : Str), v0), (("size" : Str), v1), (("fanout" : Str), v2), (("records" : Str), v3), (("every" : Str), v4), (("keep" : Str), v5)] = some v3 := by kernel_rfl
theorem lk_Settings_6_4 {v0 v1 v2 v3 v4 v5 : V} : List.lookup ("every" : Str) [(("lengths" : Str), v0), (("size" : Str), v1), (("fanout" : Str), v2), (("records" : Str), v3), (("every" : Str), v4), (("keep" : Str), v5)] = some v4 := by kernel_rfl
theorem lk_Settings_6_5 {v0 v1 v2 v3 v4 v5 : V} : List.lookup ("keep" : Str) [(("lengths" : Str), v0), (("size" : Str), v1), (("fanout" : Str), v2), (("records" : Str), v3), (("every" : Str), v4), (("keep" : Str), v5)] = some v5 := by kernel_rfl
theorem pf_Settings_0 {v0 : V} : putF ("lengths" : Str) v0 ([] : List (Str × V)) = ([(("lengths" : Str), v0)] : List (Str × V)) := by kernel_rfl
theorem pf_Settings_1 {v0 v1 : V} : putF ("size" : Str) v1 ([(("lengths" : Str), v0)] : List (Str × V)) = ([(("lengths" : Str), v0), (("size" : Str), v1)] : List (Str × V)) := by kernel_rfl
theorem pf_Settings_2 {v0 v1 v2 : V} : putF ("fanout" : Str) v2 ([(("lengths" : Str), v0), (("size" : Str), v1)] : List (Str × V)) = ([(("lengths" : Str), v0), (("size" : Str), v1), (("fanout" : Str), v2)] : List (Str × V)) := by kernel_rfl
theorem pf_Settings_3 {v0 v1 v2 v3 : V} : putF ("records" : Str) v3 ([(("lengths" : Str), v0), (("size" : Str), v1), (("fanout" : Str), v2)] : List (Str × V)) = ([(("lengths" : Str), v0), (("size" : Str), v1), (("fanout" : Str), v2), (("records" : Str), v3)] : List (Str × V)) := by kernel_rfl
theorem pf_Settings_4 {v0 v1 v2 v3 v4 : V} : putF ("every" : Str) v4 ([(("lengths" : Str), v0), (("size" : Str), v1), (("fanout" : Str), v2), (("records" : Str), v3)] : List (Str × V)) = ([(("lengths" : Str), v0), (("size" : Str), v1), (("fanout" : Str), v2), (("records" : Str), v3), (("every" : Str), v4)] : List (Str × V)) := by kernel_rfl
theorem pf_Settings_5 {v0 v1 v2 v3 v4 v5 : V} : putF ("keep" : Str) v5 ([(("lengths" : Str), v0), (("size" : Str), v1), (("fanout" : Str), v2), (("records" : Str), v3), (("every" : Str), v4)] : List (Str × V)) = ([(("lengths" : Str), v0), (("size" : Str), v1), (("fanout" : Str), v2), (("records" : Str), v3), (("every" : Str), v4), (("keep" : Str), v5)] : List (Str × V)) := by kernel_rfl
def exl : List (PySem.W.Frag → Bool) := [eqCB "Settings", isCB "Settings", kitB2 "Settings" "int" false, kitB2 "Settings" "bool" false, kitB2 "Settings" "list" false, kitB1 "int" "Settings" false, kitB1 "bool" "Settings" false, kitB1 "str" "Settings" false, kitB1 "list" "Settings" false, kitB1 "tuple" "Settings" false, kitB1 "dict" "Settings" false, kitB1 "NoneType" "Settings" false, kitB3 "Settings" "Settings" true, leBB "StoreError", leCB "InvalidSettings", leIB "InvalidSettings", leTB "InvalidSettings", isCB "InvalidSettings", leNB "InvalidSettings" "part", kitB3 "InvalidSettings" "StoreError" true, leXB "InvalidSettings" "StoreError" true, leXB "InvalidSettings" "InvalidSettings" true, kitB3 "InvalidSettings" "InvalidText" false]
def exB (K : PySem.W.Frag) : Bool := exl.all fun f => f K
structure Txt (K : PySem.W.Frag) (mg : Str → Option Value) (D : Nat → FuncData) : Prop where
  d_is_integer : F_is_integer K (D 0)
  d_is_between : F_is_between K (D 1)
  d_check_part : F_check_part K (D 2)
  d_Settings___init__ : F_Settings___init__ K (D 3)
  d_Settings___eq__ : F_Settings___eq__ K (D 4)
  d_Settings_parts : F_Settings_parts K (D 5)
  d_law_mix : F_law_mix K (D 6)
  d_law_source : F_law_source K (D 7)
  d_law_draw : F_law_draw K (D 8)
  d_law_pick : F_law_pick K (D 9)
  d_law_parts : F_law_parts K (D 10)
  d_law_odd : F_law_odd K (D 11)
  d_law_said : F_law_said K (D 12)
  d_law_right : F_law_right K (D 13)
  d_law : F_law K (D 14)
  d_InvalidSettings___init__ : F_InvalidSettings___init__ K (D 15)
  d_InvalidText___init__ : F_InvalidText___init__ K (D 16)
  g_is_integer : mg "is_integer" = some (.ref (He.fAd K ("is_integer", none)))
  g_is_between : mg "is_between" = some (.ref (He.fAd K ("is_between", none)))
  g_check_part : mg "check_part" = some (.ref (He.fAd K ("check_part", none)))
  g_law_mix : mg "_law_mix" = some (.ref (He.fAd K ("_law_mix", none)))
  g_law_source : mg "_law_source" = some (.ref (He.fAd K ("_law_source", none)))
  g_law_draw : mg "_law_draw" = some (.ref (He.fAd K ("_law_draw", none)))
  g_law_pick : mg "_law_pick" = some (.ref (He.fAd K ("_law_pick", none)))
  g_law_parts : mg "_law_parts" = some (.ref (He.fAd K ("_law_parts", none)))
  g_law_odd : mg "_law_odd" = some (.ref (He.fAd K ("_law_odd", none)))
  g_law_said : mg "_law_said" = some (.ref (He.fAd K ("_law_said", none)))
  g_law_right : mg "_law_right" = some (.ref (He.fAd K ("_law_right", none)))
  g_law : mg "law" = some (.ref (He.fAd K ("law", none)))
  g_Settings : mg "Settings" = some (.ref (He.ga K "Settings"))
  g_StoreError : mg "StoreError" = some (.ref (He.ga K "StoreError"))
  g_InvalidSettings : mg "InvalidSettings" = some (.ref (He.ga K "InvalidSettings"))
  g_InvalidText : mg "InvalidText" = some (.ref (He.ga K "InvalidText"))
  c_Settings : Cls K (He.ga K "Settings")
  mk_Settings : Mk K (He.ga K "Settings") (He.fAd K ("Settings", some "__init__"))
  a_Settings_lengths : NoAttr K (He.ga K "Settings") "lengths"
  a_Settings_size : NoAttr K (He.ga K "Settings") "size"
  a_Settings_fanout : NoAttr K (He.ga K "Settings") "fanout"
  a_Settings_records : NoAttr K (He.ga K "Settings") "records"
  a_Settings_every : NoAttr K (He.ga K "Settings") "every"
  a_Settings_keep : NoAttr K (He.ga K "Settings") "keep"
  m_Settings___eq__ : Meth K (He.ga K "Settings") "__eq__" (He.fAd K ("Settings", some "__eq__"))
  m_Settings_parts : Meth K (He.ga K "Settings") "parts" (He.fAd K ("Settings", some "parts"))
  n_int : mg "int" = none
  n_len : mg "len" = none
  n_range : mg "range" = none
  n_isinstance : mg "isinstance" = none
  n_list : mg "list" = none
  n_tuple : mg "tuple" = none
  n_bool : mg "bool" = none
  n_max : mg "max" = none
  n_min : mg "min" = none
  i_MOST_LENGTHS : ∃ t, mg "MOST_LENGTHS" = some (.int (6) t)
  i_MOST_SIZE : ∃ t, mg "MOST_SIZE" = some (.int (64) t)
  i_MOST_FANOUT : ∃ t, mg "MOST_FANOUT" = some (.int (8) t)
  i_MOST_RECORDS : ∃ t, mg "MOST_RECORDS" = some (.int (16) t)
  i_MOST_EVERY : ∃ t, mg "MOST_EVERY" = some (.int (40) t)
  i_MOST_KEEP : ∃ t, mg "MOST_KEEP" = some (.int (100) t)
  eq_Settings : EqC K (He.ga K "Settings")
  ic_Settings : IsC K (He.ga K "Settings")
  kc_Settings_int : PySem.W.kitOne K (.ref (He.ga K "Settings")) (.type "int") = some false
  kc_Settings_bool : PySem.W.kitOne K (.ref (He.ga K "Settings")) (.type "bool") = some false
  kc_Settings_list : PySem.W.kitOne K (.ref (He.ga K "Settings")) (.type "list") = some false
  kb_int_Settings : PySem.W.kitOne K (.type "int") (.ref (He.ga K "Settings")) = some false
  kb_bool_Settings : PySem.W.kitOne K (.type "bool") (.ref (He.ga K "Settings")) = some false
  kb_str_Settings : PySem.W.kitOne K (.type "str") (.ref (He.ga K "Settings")) = some false
  kb_list_Settings : PySem.W.kitOne K (.type "list") (.ref (He.ga K "Settings")) = some false
  kb_tuple_Settings : PySem.W.kitOne K (.type "tuple") (.ref (He.ga K "Settings")) = some false
  kb_dict_Settings : PySem.W.kitOne K (.type "dict") (.ref (He.ga K "Settings")) = some false
  kb_NoneType_Settings : PySem.W.kitOne K (.type "NoneType") (.ref (He.ga K "Settings")) = some false
  kk_Settings_Settings : PySem.W.kitOne K (.ref (He.ga K "Settings")) (.ref (He.ga K "Settings")) = some true
  lb_StoreError : LeB K (He.ga K "StoreError")
  le_InvalidSettings : LeC K (He.ga K "InvalidSettings")
  li_InvalidSettings : PySem.W.findIn K (.ref (He.ga K "InvalidSettings")) "__init__" = some (some (.ref (He.fAd K ("InvalidSettings", some "__init__"))))
  lt_InvalidSettings : PySem.W.typeIn K (.ref (He.fAd K ("InvalidSettings", some "__init__"))) = some (.type "function")
  ic_InvalidSettings : IsC K (He.ga K "InvalidSettings")
  ln_InvalidSettings_part : PySem.W.findIn K (.ref (He.ga K "InvalidSettings")) "part" = some none
  kk_InvalidSettings_StoreError : PySem.W.kitOne K (.ref (He.ga K "InvalidSettings")) (.ref (He.ga K "StoreError")) = some true
  xm_InvalidSettings_StoreError : PySem.W.exmOne K (.ref (He.ga K "InvalidSettings")) (.ref (He.ga K "StoreError")) = some true
  xm_InvalidSettings_InvalidSettings : PySem.W.exmOne K (.ref (He.ga K "InvalidSettings")) (.ref (He.ga K "InvalidSettings")) = some true
  kk_InvalidSettings_InvalidText : PySem.W.kitOne K (.ref (He.ga K "InvalidSettings")) (.ref (He.ga K "InvalidText")) = some false
def fnl : List He.DefD := [dd_is_integer, dd_is_between, dd_check_part, dd_Settings___init__, dd_Settings___eq__, dd_Settings_parts, dd_law_mix, dd_law_source, dd_law_draw, dd_law_pick, dd_law_parts, dd_law_odd, dd_law_said, dd_law_right, dd_law, dd_InvalidSettings___init__, dd_InvalidText___init__]
def fal : List He.Fa := [.glo "is_integer", .glo "is_between", .glo "check_part", .glo "_law_mix", .glo "_law_source", .glo "_law_draw", .glo "_law_pick", .glo "_law_parts", .glo "_law_odd", .glo "_law_said", .glo "_law_right", .glo "law", .glo "Settings", .glo "StoreError", .glo "InvalidSettings", .glo "InvalidText", .cls "Settings", .mkr "Settings", .noat "Settings" "lengths", .noat "Settings" "size", .noat "Settings" "fanout", .noat "Settings" "records", .noat "Settings" "every", .noat "Settings" "keep", .meth "Settings" "__eq__", .meth "Settings" "parts", .free "int", .free "len", .free "range", .free "isinstance", .free "list", .free "tuple", .free "bool", .free "max", .free "min", .int "MOST_LENGTHS" (6), .int "MOST_SIZE" (64), .int "MOST_FANOUT" (8), .int "MOST_RECORDS" (16), .int "MOST_EVERY" (40), .int "MOST_KEEP" (100)]
def D_is_integer : Nat := 0
def D_is_between : Nat := 1
def D_check_part : Nat := 2
def D_Settings___init__ : Nat := 3
def D_Settings___eq__ : Nat := 4
def D_Settings_parts : Nat := 5
def D_law_mix : Nat := 6
def D_law_source : Nat := 7
def D_law_draw : Nat := 8
def D_law_pick : Nat := 9
def D_law_parts : Nat := 10
def D_law_odd : Nat := 11
def D_law_said : Nat := 12
def D_law_right : Nat := 13
def D_law : Nat := 14
def D_InvalidSettings___init__ : Nat := 15
def D_InvalidText___init__ : Nat := 16
theorem txt_of {K : PySem.W.Frag} {h : Heap} {mg : Str → Option Value} (X : K.In h) (G : h.Ns mainGlobals mg) (c : He.SaysD fal fnl K) (cx : exB K = true) : ∃ D, Txt K mg D := by
  have hx : ∀ f ∈ exl, f K = true := List.all_eq_true.mp cx
  have hd : ∀ i : Nat, ∃ fd : FuncData, ∀ d : He.DefD, fnl[i]? = some d → FunD K d.name d.qual d.params d.body d.scope (d.dvs K) (d.kws K) (He.fAd K d.at_) fd := fun i => by
    cases e : fnl[i]? with
    | none => exact ⟨PySem.W.fnOf "" "" (defArgs (topS 0)) [] (defScope (topS 0)) .none .none .none .none none .none .none, fun d h => nomatch h⟩
    | some d =>
      obtain ⟨fd, h⟩ := c.def_ i e
      exact ⟨fd, fun d2 h2 => by cases h2; exact h⟩
  have key := Classical.axiomOfChoice hd
  obtain ⟨D, hD⟩ := key
  refine ⟨D, ?_⟩
  constructor
  · exact hD 0 dd_is_integer rfl
  · exact hD 1 dd_is_between rfl
  · exact hD 2 dd_check_part rfl
  · exact hD 3 dd_Settings___init__ rfl
  · exact hD 4 dd_Settings___eq__ rfl
  · exact hD 5 dd_Settings_parts rfl
  · exact hD 6 dd_law_mix rfl
  · exact hD 7 dd_law_source rfl
  · exact hD 8 dd_law_draw rfl
  · exact hD 9 dd_law_pick rfl
  · exact hD 10 dd_law_parts rfl
  · exact hD 11 dd_law_odd rfl
  · exact hD 12 dd_law_said rfl
  · exact hD 13 dd_law_right rfl
  · exact hD 14 dd_law rfl
  · exact hD 15 dd_InvalidSettings___init__ rfl
  · exact hD 16 dd_InvalidText___init__ rfl
  · exact He.glo_ok X G (c.fact 0 (f := .glo "is_integer") rfl)
  · exact He.glo_ok X G (c.fact 1 (f := .glo "is_between") rfl)
  · exact He.glo_ok X G (c.fact 2 (f := .glo "check_part") rfl)
  · exact He.glo_ok X G (c.fact 3 (f := .glo "_law_mix") rfl)
  · exact He.glo_ok X G (c.fact 4 (f := .glo "_law_source") rfl)
  · exact He.glo_ok X G (c.fact 5 (f := .glo "_law_draw") rfl)
  · exact He.glo_ok X G (c.fact 6 (f := .glo "_law_pick") rfl)
  · exact He.glo_ok X G (c.fact 7 (f := .glo "_law_parts") rfl)
  · exact He.glo_ok X G (c.fact 8 (f := .glo "_law_odd") rfl)
  · exact He.glo_ok X G (c.fact 9 (f := .glo "_law_said") rfl)
  · exact He.glo_ok X G (c.fact 10 (f := .glo "_law_right") rfl)
  · exact He.glo_ok X G (c.fact 11 (f := .glo "law") rfl)
  · exact He.glo_ok X G (c.fact 12 (f := .glo "Settings") rfl)
  · exact He.glo_ok X G (c.fact 13 (f := .glo "StoreError") rfl)
  · exact He.glo_ok X G (c.fact 14 (f := .glo "InvalidSettings") rfl)
  · exact He.glo_ok X G (c.fact 15 (f := .glo "InvalidText") rfl)
  · exact He.cls_ok (c.fact 16 (f := .cls "Settings") rfl)
  · exact He.mkr_ok (c.fact 17 (f := .mkr "Settings") rfl)
  · exact He.noat_ok (c.fact 18 (f := .noat "Settings" "lengths") rfl)
  · exact He.noat_ok (c.fact 19 (f := .noat "Settings" "size") rfl)
  · exact He.noat_ok (c.fact 20 (f := .noat "Settings" "fanout") rfl)
  · exact He.noat_ok (c.fact 21 (f := .noat "Settings" "records") rfl)
  · exact He.noat_ok (c.fact 22 (f := .noat "Settings" "every") rfl)
  · exact He.noat_ok (c.fact 23 (f := .noat "Settings" "keep") rfl)
  · exact He.meth_ok (c.fact 24 (f := .meth "Settings" "__eq__") rfl)
  · exact He.meth_ok (c.fact 25 (f := .meth "Settings" "parts") rfl)
  · exact He.free_ok X G (c.fact 26 (f := .free "int") rfl)
  · exact He.free_ok X G (c.fact 27 (f := .free "len") rfl)
  · exact He.free_ok X G (c.fact 28 (f := .free "range") rfl)
  · exact He.free_ok X G (c.fact 29 (f := .free "isinstance") rfl)
  · exact He.free_ok X G (c.fact 30 (f := .free "list") rfl)
  · exact He.free_ok X G (c.fact 31 (f := .free "tuple") rfl)
  · exact He.free_ok X G (c.fact 32 (f := .free "bool") rfl)
  · exact He.free_ok X G (c.fact 33 (f := .free "max") rfl)
  · exact He.free_ok X G (c.fact 34 (f := .free "min") rfl)
  · exact He.int_ok X G (c.fact 35 (f := .int "MOST_LENGTHS" (6)) rfl)
  · exact He.int_ok X G (c.fact 36 (f := .int "MOST_SIZE" (64)) rfl)
  · exact He.int_ok X G (c.fact 37 (f := .int "MOST_FANOUT" (8)) rfl)
  · exact He.int_ok X G (c.fact 38 (f := .int "MOST_RECORDS" (16)) rfl)
  · exact He.int_ok X G (c.fact 39 (f := .int "MOST_EVERY" (40)) rfl)
  · exact He.int_ok X G (c.fact 40 (f := .int "MOST_KEEP" (100)) rfl)
  · exact eqCB_ok (hx (eqCB "Settings") (List.mem_of_getElem? (i := 0) rfl))
  · exact isCB_ok (hx (isCB "Settings") (List.mem_of_getElem? (i := 1) rfl))
  · exact of_decide_eq_true (hx (kitB2 "Settings" "int" false) (List.mem_of_getElem? (i := 2) rfl))
  · exact of_decide_eq_true (hx (kitB2 "Settings" "bool" false) (List.mem_of_getElem? (i := 3) rfl))
  · exact of_decide_eq_true (hx (kitB2 "Settings" "list" false) (List.mem_of_getElem? (i := 4) rfl))
  · exact of_decide_eq_true (hx (kitB1 "int" "Settings" false) (List.mem_of_getElem? (i := 5) rfl))
  · exact of_decide_eq_true (hx (kitB1 "bool" "Settings" false) (List.mem_of_getElem? (i := 6) rfl))
  · exact of_decide_eq_true (hx (kitB1 "str" "Settings" false) (List.mem_of_getElem? (i := 7) rfl))
  · exact of_decide_eq_true (hx (kitB1 "list" "Settings" false) (List.mem_of_getElem? (i := 8) rfl))
  · exact of_decide_eq_true (hx (kitB1 "tuple" "Settings" false) (List.mem_of_getElem? (i := 9) rfl))
  · exact of_decide_eq_true (hx (kitB1 "dict" "Settings" false) (List.mem_of_getElem? (i := 10) rfl))
  · exact of_decide_eq_true (hx (kitB1 "NoneType" "Settings" false) (List.mem_of_getElem? (i := 11) rfl))
  · exact of_decide_eq_true (hx (kitB3 "Settings" "Settings" true) (List.mem_of_getElem? (i := 12) rfl))
  · exact leBB_ok (hx (leBB "StoreError") (List.mem_of_getElem? (i := 13) rfl))
  · exact leCB_ok (hx (leCB "InvalidSettings") (List.mem_of_getElem? (i := 14) rfl))
  · exact of_decide_eq_true (hx (leIB "InvalidSettings") (List.mem_of_getElem? (i := 15) rfl))
  · exact of_decide_eq_true (hx (leTB "InvalidSettings") (List.mem_of_getElem? (i := 16) rfl))
  · exact isCB_ok (hx (isCB "InvalidSettings") (List.mem_of_getElem? (i := 17) rfl))
  · exact of_decide_eq_true (hx (leNB "InvalidSettings" "part") (List.mem_of_getElem? (i := 18) rfl))
  · exact of_decide_eq_true (hx (kitB3 "InvalidSettings" "StoreError" true) (List.mem_of_getElem? (i := 19) rfl))
  · exact of_decide_eq_true (hx (leXB "InvalidSettings" "StoreError" true) (List.mem_of_getElem? (i := 20) rfl))
  · exact of_decide_eq_true (hx (leXB "InvalidSettings" "InvalidSettings" true) (List.mem_of_getElem? (i := 21) rfl))
  · exact of_decide_eq_true (hx (kitB3 "InvalidSettings" "InvalidText" false) (List.mem_of_getElem? (i := 22) rfl))
abbrev RowK : PySem.W.OpenRow := PySem.W.OpenLaw.row PySem.Challenge.rw_keeprows_k02_settings_refused
abbrev hk : PySem.W.Hook := hookC 6 fal fnl exB
def ob (s : PySem.W.SharedT) : He.AlD := obsC 6 fal fnl exB (HandSHeadRun.getT s)
theorem ob_eq (s : PySem.W.SharedT) : ob s = hk.obs s.abs := obsC_eq (HandSHeadRun.getT_eq s)
def looseN : List Str := ["_wall", "StoreError", "InvalidSettings", "InvalidText", "MOST_LENGTHS", "MOST_SIZE", "MOST_FANOUT", "MOST_RECORDS", "MOST_EVERY", "MOST_KEEP", "is_integer", "is_between", "check_part", "Settings", "_law_mix", "_law_source", "_law_draw", "_law_pick", "_law_parts", "_law_odd", "_law_said", "_law_right"]
theorem run (w : World) : HandSHeadRun.RunEq RowK (PySem.W.view RowK.prog [25]) hk ob 4000 looseN w := by
  intro os
  kernel_rfl
end KR
local macro_rules | `(tactic| walk_at "cls") => `(tactic| first
  | exact KR.Txt.c_Settings (by assumption))
local macro_rules | `(tactic| walk_at "noat") => `(tactic| first
  | exact KR.Txt.a_Settings_lengths (by assumption)
  | exact KR.Txt.a_Settings_size (by assumption)
  | exact KR.Txt.a_Settings_fanout (by assumption)
  | exact KR.Txt.a_Settings_records (by assumption)
  | exact KR.Txt.a_Settings_every (by assumption)
  | exact KR.Txt.a_Settings_keep (by assumption))
local macro_rules | `(tactic| walk_at "lk") => `(tactic| first
  | assumption
  | with_reducible exact KR.lk_Settings_6_5
  | with_reducible exact KR.lk_Settings_6_4
  | with_reducible exact KR.lk_Settings_6_3
  | with_reducible exact KR.lk_Settings_6_2
  | with_reducible exact KR.lk_Settings_6_1
  | with_reducible exact KR.lk_Settings_6_0
  | with_reducible exact KR.lk_Settings_5_4
  | with_reducible exact KR.lk_Settings_5_3
  | with_reducible exact KR.lk_Settings_5_2
  | with_reducible exact KR.lk_Settings_5_1
  | with_reducible exact KR.lk_Settings_5_0
  | with_reducible exact KR.lk_Settings_4_3
  | with_reducible exact KR.lk_Settings_4_2
  | with_reducible exact KR.lk_Settings_4_1
  | with_reducible exact KR.lk_Settings_4_0
  | with_reducible exact KR.lk_Settings_3_2
  | with_reducible exact KR.lk_Settings_3_1
  | with_reducible exact KR.lk_Settings_3_0
  | with_reducible exact KR.lk_Settings_2_1
  | with_reducible exact KR.lk_Settings_2_0
  | with_reducible exact KR.lk_Settings_1_0
  | kernel_rfl)
local macro_rules | `(tactic| walk_at "sd") => `(tactic| first
  | omega
  | decide
  | exact KR.szl (Nat.le_of_ble_eq_true rfl)
  | ((repeat' split) <;> omega)
  | exact ⟨Nat.le_of_ble_eq_true rfl, Nat.le_of_ble_eq_true rfl⟩
  | (refine KR.cdw ?_ ?_ <;> omega)
  | (refine KR.cdv ?_ ?_ <;> omega)
  | (refine KR.cml ?_ ?_ <;> omega)
  | (refine KR.cmr ?_ ?_ <;> omega))
local macro_rules | `(tactic| walk_at "hp") => `(tactic| first
  | assumption
  | exact KR.hp_same (by assumption) (by assumption)
  | exact KR.hp_sb (by assumption) (by assumption) (by assumption))
local macro_rules | `(tactic| walk_at "s1") => `(tactic| first
  | refine ⟨_, rfl, ?_⟩
  | refine L2.iteT ?_
  | refine L2.iteF ?_
  | refine ⟨_, _, rfl, rfl, ?_⟩
  | refine Or.inl ⟨_, rfl, ?_⟩
  | (refine' ⟨_, _, _, _, rfl, rfl, L2.SqL.of ?h1, ?h2, ?_⟩; (case h1 => walk_at "hp"); (case h2 => rfl))
  | (refine' ⟨_, _, _, _, rfl, rfl, L2.SqT.of ?h1, ?h2, ?_⟩; (case h1 => walk_at "hp"); (case h2 => rfl))
  | refine ⟨rfl, ?_⟩
  | refine ⟨_, _, rfl, ?_⟩
  | refine ⟨_, _, _, rfl, ?_⟩
  | (refine' ⟨_, _, rfl, L2.SqT.of ?h1, ?h2, ?_⟩; (case h1 => walk_at "hp"); (case h2 => rfl))
  | (refine' ⟨_, _, rfl, Or.inl (L2.SqL.of ?h1), ?_⟩; (case h1 => walk_at "hp"))
  | (refine' ⟨_, _, rfl, Or.inr (L2.SqT.of ?h1), ?_⟩; (case h1 => walk_at "hp"))
  | (refine' ⟨_, _, _, _, _, rfl, ?h1, ?h2, ?h3, ?h4, ?_⟩; (case h1 => walk_at "hp"); (case h2 => walk_at "cls"); (case h3 => walk_at "noat"); (case h4 => walk_at "lk"))
  | (refine' ⟨_, _, _, _, rfl, ?h1, ?h2, ?h3, ?h4, ?_⟩; (case h1 => walk_at "hp"); (case h2 => walk_at "cls"); (case h3 => walk_at "noat"); (case h4 => exact KR.lt1000 rfl))
  | (refine' ⟨_, _, _, rfl, ?h1, ?h2, ?_⟩; (case h1 => walk_at "hp"); (case h2 => walk_at "lk"))
  | (refine' ⟨⟨_, L2.SqL.of ?h1⟩, ?_⟩; (case h1 => walk_at "hp"))
  | (refine' ⟨⟨_, L2.SqT.of ?h1⟩, ?_⟩; (case h1 => walk_at "hp"))
  | (refine' ⟨_, _, rfl, ?h1, ?_⟩; (case h1 => walk_at "dg"))
  | (refine And.intro ?h1 ?_; (case h1 => walk_at "sd")))
local macro_rules | `(tactic| walk_at "rd") => `(tactic| repeat walk_at "s1")
namespace KR
open PySem PySem.Spec PyProof.Rows L2
section
variable {P : Program} {w : World} {K : PySem.W.Frag} {mg : Str → Option Value} {base : Heap} {D : Nat → FuncData}
@[irreducible] def sp_law_mix : Sp := fun vs H Q _ => ∃ c l : Int, vs = [.int c, .int l] ∧ ∀ i, 0 ≤ i → i < 2147483563 → Q (.int i) H
theorem use_mix {c l : Int} {H : Hp} {Q : VK} {E : XK} (k : ∀ i, 0 ≤ i → i < 2147483563 → Q (.int i) H) : sp_law_mix [.int c, .int l] H Q E := by unfold sp_law_mix; exact ⟨c, l, rfl, k⟩
theorem b_law_mix {K : PySem.W.Frag} {fd : FuncData} (F : F_law_mix K fd) : Binds K fd P_law_mix [] := FunD.bindsN F fun _ _ _ _ _ _ us hl => match us, hl with | [_, _], _ => rfl
theorem ok_law_mix (T : Txt K mg D) : FnOk P w K mg base CX0 1 (He.fAd K ("_law_mix", none)) (D D_law_mix) P_law_mix sp_law_mix := by
  refine T.d_law_mix.ok sc_law_mix (fun vs H Q E h => ?_) (fun cdv A outer s H vs Q E hr h => ?_)
  · unfold sp_law_mix at h
    first | (obtain ⟨rfl, _⟩ := h; rfl) | (obtain ⟨_, rfl, _⟩ := h; rfl) | (obtain ⟨_, _, rfl, _⟩ := h; rfl) | (obtain ⟨_, _, _, rfl, _⟩ := h; rfl) | (obtain ⟨_, _, _, _, rfl, _⟩ := h; rfl) | (obtain ⟨_, _, _, _, _, rfl, _⟩ := h; rfl) | (obtain ⟨_, _, _, _, _, _, rfl, _⟩ := h; rfl) | (obtain ⟨_, _, _, _, _, _, _, rfl, _⟩ := h; rfl) | (obtain ⟨_, _, _, _, _, _, _, _, rfl, _⟩ := h; rfl) | (obtain ⟨_, _, _, _, _, _, _, _, _, rfl, _⟩ := h; rfl) | (obtain ⟨_, _, _, _, _, _, _, _, _, _, rfl, _⟩ := h; rfl) | (obtain ⟨_, _, _, _, _, _, _, _, _, _, _, rfl, _⟩ := h; rfl)
  · refine ⟨_, PSs.nox (pss_cons (ps_set (i := 2) sc_law_mix.nd rfl (Or.inl rfl) (pe_op op_add (pe_op op_add (pe_op op_add (pe_op op_mod (pe_callTy call_int1 (by rfl) T.n_int (by decide +kernel) (pa_cons (pv 0) pa_nil)) pe_int) (pe_op op_mul pe_int (pv 1))) (pe_op op_mod (pe_callTy call_int1 (by rfl) T.n_int (by decide +kernel) (pa_cons (pe_op op_fdivW (pv 0) pe_int) pa_nil)) pe_int)) pe_int))
      (pss_cons (ps_set (i := 2) sc_law_mix.nd rfl (Or.inl rfl) (pe_op op_mod (pe_callTy call_int1 (by rfl) T.n_int (by decide +kernel) (pa_cons (pe_op op_mul (pv 2) pe_int) pa_nil)) pe_int))
      (pss_cons (ps_set (i := 2) sc_law_mix.nd rfl (Or.inl rfl) (pe_op op_mod (pe_callTy call_int1 (by rfl) T.n_int (by decide +kernel) (pa_cons (pe_op op_mul (pv 2) (pe_op op_add (pe_op op_add (pe_op op_fdivW (pv 2) pe_int) pe_int) (pv 1))) pa_nil)) pe_int))
      (pss_one (ps_ret (pe_op op_mod (pe_callTy call_int1 (by rfl) T.n_int (by decide +kernel) (pa_cons (pe_op op_mul (pv 2) (pe_op op_add (pe_op op_fdivW (pv 2) pe_int) pe_int)) pa_nil)) pe_int)))))), ?_⟩
    unfold sp_law_mix at h
    obtain ⟨c, l, rfl, k⟩ := h
    walk_at "rd"
    exact k _ (Int.emod_nonneg _ (by decide)) (Int.emod_lt_of_pos _ (by decide))

/-- a source of draws stands at s -/
def Src (H : Hp) (s : Addr) : Prop := ∃ a b c : Int, H s = some (.lst [.int a, .int b, .int c])
@[irreducible] def sp_law_draw : Sp := fun vs H Q _ => ∃ (s : Addr) (n : Int), vs = [.ref s, .int n] ∧ (0 < n ∧ n ≤ 1000000000000000000000) ∧ Src H s ∧ ∀ i H', 0 ≤ i → i < n → SB s H H' → Src H' s → Q (.int i) H'
theorem use_draw {s : Addr} {n : Int} {H : Hp} {Q : VK} {E : XK} (h0 : 0 < n) (h1 : n ≤ 1000000000000000000000) (h : Src H s) (k : ∀ i H', 0 ≤ i → i < n → SB s H H' → Src H' s → Q (.int i) H') : sp_law_draw [.ref s, .int n] H Q E := by unfold sp_law_draw; exact ⟨s, n, rfl, ⟨h0, h1⟩, h, k⟩
theorem b_law_draw {K : PySem.W.Frag} {fd : FuncData} (F : F_law_draw K fd) : Binds K fd P_law_draw [] := FunD.bindsN F fun _ _ _ _ _ _ us hl => match us, hl with | [_, _], _ => rfl
theorem ok_law_draw (T : Txt K mg D) : FnOk P w K mg base CX0 2 (He.fAd K ("_law_draw", none)) (D D_law_draw) P_law_draw sp_law_draw := by
  refine T.d_law_draw.ok sc_law_draw (fun vs H Q E h => ?_) (fun cdv A outer s H vs Q E hr h => ?_)
  · unfold sp_law_draw at h
    first | (obtain ⟨rfl, _⟩ := h; rfl) | (obtain ⟨_, rfl, _⟩ := h; rfl) | (obtain ⟨_, _, rfl, _⟩ := h; rfl) | (obtain ⟨_, _, _, rfl, _⟩ := h; rfl) | (obtain ⟨_, _, _, _, rfl, _⟩ := h; rfl) | (obtain ⟨_, _, _, _, _, rfl, _⟩ := h; rfl) | (obtain ⟨_, _, _, _, _, _, rfl, _⟩ := h; rfl) | (obtain ⟨_, _, _, _, _, _, _, rfl, _⟩ := h; rfl) | (obtain ⟨_, _, _, _, _, _, _, _, rfl, _⟩ := h; rfl) | (obtain ⟨_, _, _, _, _, _, _, _, _, rfl, _⟩ := h; rfl) | (obtain ⟨_, _, _, _, _, _, _, _, _, _, rfl, _⟩ := h; rfl) | (obtain ⟨_, _, _, _, _, _, _, _, _, _, _, rfl, _⟩ := h; rfl)
  · refine ⟨_, PSs.nox (pss_cons (ps_if (pt_cmpR op_ge (pe_ix (ix_listK (K := K)) (pv 0) pe_int (fun _ _ => rfl)) (pe_powc (c := 1000000000000000000) (by decide)) (nomark _)) (pss_cons (ps_set (i := 2) sc_law_draw.nd rfl (Or.inl rfl) (pe_op op_mod (pe_callTy call_int1 (by rfl) T.n_int (by decide +kernel) (pa_cons (pe_ix (ix_listK (K := K)) (pv 0) pe_int (fun _ _ => rfl)) pa_nil)) (pv 1)))
      (pss_cons (ps_asg (pe_op op_fdivW (pe_ix (ix_listK (K := K)) (pv 0) pe_int (fun _ _ => rfl)) (pv 1)) (pg_sub (pv 0) pe_int set_list))
      (pss_one (ps_ret (pv 2))))) pss_nil)
      (pss_cons (ps_asg (pe_op op_add (pe_ix (ix_listK (K := K)) (pv 0) pe_int (fun _ _ => rfl)) pe_int) (pg_sub (pv 0) pe_int set_list))
      (pss_one (ps_ret (pe_op op_mod (pe_callTy call_int1 (by rfl) T.n_int (by decide +kernel) (pa_cons (pe_call (ok_law_mix T) (hr.mono (by decide)) rfl T.g_law_mix T.d_law_mix.kp (b_law_mix T.d_law_mix) .nil pass0 (pa_cons (pe_ix (ix_listK (K := K)) (pv 0) pe_int (fun _ _ => rfl)) (pa_cons (pe_ix (ix_listK (K := K)) (pv 0) pe_int (fun _ _ => rfl)) pa_nil))) pa_nil)) (pv 1)))))), ?_⟩
    unfold sp_law_draw at h
    obtain ⟨s, n, rfl, ⟨h0, h1⟩, ⟨a, b, c, hs⟩, k⟩ := h
    walk_at "rd"
    refine ite2 (fun _ => ?_) (fun _ => ?_)
    · walk_at "rd"
      refine ⟨_, _, _, 0, rfl, rfl, hs, rfl, ?_⟩
      walk_at "rd"
      exact k _ _ (Int.emod_nonneg _ (by omega)) (Int.emod_lt_of_pos _ h0) SB.upd ⟨_, _, _, upd_same⟩
    · walk_at "rd"
      refine ⟨_, _, _, 2, rfl, rfl, hs, rfl, ?_⟩
      have hs2 := @upd_same H s (.lst [.int a, .int b, .int (c + 1)])
      walk_at "rd"
      refine use_mix fun i i0 i1 => ?_
      walk_at "rd"
      exact k _ _ (Int.emod_nonneg _ (by omega)) (Int.emod_lt_of_pos _ h0) SB.upd ⟨_, _, _, upd_same⟩

@[irreducible] def sp_law_source (K : PySem.W.Frag) : Sp := fun vs H Q _ => ∃ (a : Addr) (ns : List Int) (k : Int), vs = [.ref a, .int k] ∧ SqL K H a (ns.map V.int) ∧ (0 ≤ k ∧ k ≤ 1000 ∧ ns.length ≤ 63) ∧
  ∀ p H', H p = none → Same H H' → Src H' p → Q (.ref p) H'
theorem use_source {K : PySem.W.Frag} {a : Addr} {ns : List Int} {n : Int} {H : Hp} {Q : VK} {E : XK} (h : SqL K H a (ns.map V.int)) (h1 : 0 ≤ n ∧ n ≤ 1000 ∧ ns.length ≤ 63) (k : ∀ p H', H p = none → Same H H' → Src H' p → Q (.ref p) H') :
  sp_law_source K [.ref a, .int n] H Q E := by unfold sp_law_source; exact ⟨a, ns, n, rfl, h, h1, k⟩
theorem b_law_source {K : PySem.W.Frag} {fd : FuncData} (F : F_law_source K fd) : Binds K fd P_law_source [] := FunD.bindsN F fun _ _ _ _ _ _ us hl => match us, hl with | [_, _], _ => rfl
theorem ok_law_source (T : Txt K mg D) : FnOk P w K mg base CX0 1 (He.fAd K ("_law_source", none)) (D D_law_source) P_law_source (sp_law_source K) := by
  refine T.d_law_source.ok sc_law_source (fun vs H Q E h => ?_) (fun cdv A outer s H vs Q E hr h => ?_)
  · unfold sp_law_source at h
    first | (obtain ⟨rfl, _⟩ := h; rfl) | (obtain ⟨_, rfl, _⟩ := h; rfl) | (obtain ⟨_, _, rfl, _⟩ := h; rfl) | (obtain ⟨_, _, _, rfl, _⟩ := h; rfl) | (obtain ⟨_, _, _, _, rfl, _⟩ := h; rfl) | (obtain ⟨_, _, _, _, _, rfl, _⟩ := h; rfl) | (obtain ⟨_, _, _, _, _, _, rfl, _⟩ := h; rfl) | (obtain ⟨_, _, _, _, _, _, _, rfl, _⟩ := h; rfl) | (obtain ⟨_, _, _, _, _, _, _, _, rfl, _⟩ := h; rfl) | (obtain ⟨_, _, _, _, _, _, _, _, _, rfl, _⟩ := h; rfl) | (obtain ⟨_, _, _, _, _, _, _, _, _, _, rfl, _⟩ := h; rfl) | (obtain ⟨_, _, _, _, _, _, _, _, _, _, _, rfl, _⟩ := h; rfl)
  · refine ⟨_, PSs.nox (pss_cons (ps_set (i := 2) sc_law_source.nd rfl (Or.inl rfl) (pe_op op_add (pe_ix (ix_listK (K := K)) (pe_op (op_catSK (K := K)) (pv 0) (pe_lst (pa_cons pe_int pa_nil))) pe_int (fun _ _ => rfl)) (pe_op op_mul pe_int (pv 1))))
      (pss_cons (ps_if (pt_cmpR op_lt (pv 1) (pe_callB (call_lenK (K := K)) (by rfl) T.n_len (by decide +kernel) (pa_cons (pv 0) pa_nil)) (nomark _)) (pss_one (ps_set (i := 2) sc_law_source.nd rfl (Or.inl rfl) (pe_ix (ix_listK (K := K)) (pv 0) (pv 1) (fun _ _ => rfl)))) pss_nil)
      (pss_one (ps_ret (pe_lst (pa_cons (pv 2) (pa_cons (pv 2) (pa_cons pe_int pa_nil)))))))), ?_⟩
    unfold sp_law_source at h
    obtain ⟨a, ns, n, rfl, hs, ⟨h0, h1, h2⟩, k⟩ := h
    walk_at "rd"
    intro p1 n1
    generalize eH1 : upd _ p1 _ = H1
    obtain ⟨s1, hp1⟩ := gen_new n1 eH1
    clear eH1
    refine ⟨_, _, _, _, rfl, rfl, s1.seq hs, SqL.of hp1, (by rw [List.length_map]; simp; omega), fun p2 H2 n2 s2 hp2 => ?_⟩
    obtain ⟨c0, hc0⟩ : ∃ c0 : Int, (ns.map V.int ++ [V.int 0])[0]? = some (.int c0) := by
      cases ns with
      | nil => exact ⟨0, rfl⟩
      | cons z r => exact ⟨z, rfl⟩
    refine ⟨_, _, _, _, rfl, rfl, SqL.of hp2, atI_int (j := 0) rfl hc0, ?_⟩
    walk_at "rd"
    refine ⟨_, _, rfl, .inl ((s1.trans s2).seq hs), ?_⟩
    walk_at "rd"
    have fin : ∀ (c : Int) (H3 : Hp), Same H H3 → ∀ p4, H3 p4 = none → Q (.ref p4) (upd H3 p4 (.lst [.int c, .int c, .int 0])) := fun c H3 s3 p4 h4 =>
      k p4 _ (s3.free h4) (s3.trans (same_new h4)) ⟨_, _, _, upd_same⟩
    refine ite2 (fun c => ?_) (fun c => ?_)
    · walk_at "rd"
      have hk : n < (ns.map V.int).length := by simpa using c
      obtain ⟨v, _, hv, hv2⟩ := at_of_lt (xs := ns.map V.int) h0 hk
      obtain ⟨z, _, rfl⟩ := map_some hv2
      refine ⟨_, _, _, _, rfl, rfl, (s1.trans s2).seq hs, hv, ?_⟩
      walk_at "rd"
      exact fin z H2 (s1.trans s2)
    · walk_at "rd"
      exact fin _ H2 (s1.trans s2)

@[irreducible] def sp_law_pick : Sp := fun vs H Q _ => ∃ (s a : Addr) (xs : List V), vs = [.ref s, .ref a] ∧ H a = some (.lst xs) ∧ a ≠ s ∧ (0 < xs.length ∧ xs.length ≤ 1000) ∧ Src H s ∧ ∀ v H', v ∈ xs → SB s H H' → Src H' s → Q v H'
theorem use_pick {s a : Addr} {xs : List V} {H : Hp} {Q : VK} {E : XK} (h : H a = some (.lst xs)) (hn : a ≠ s) (h0 : 0 < xs.length ∧ xs.length ≤ 1000) (hs : Src H s) (k : ∀ v H', v ∈ xs → SB s H H' → Src H' s → Q v H') :
  sp_law_pick [.ref s, .ref a] H Q E := by unfold sp_law_pick; exact ⟨s, a, xs, rfl, h, hn, h0, hs, k⟩
theorem b_law_pick {K : PySem.W.Frag} {fd : FuncData} (F : F_law_pick K fd) : Binds K fd P_law_pick [] := FunD.bindsN F fun _ _ _ _ _ _ us hl => match us, hl with | [_, _], _ => rfl
theorem ok_law_pick (T : Txt K mg D) : FnOk P w K mg base CX0 3 (He.fAd K ("_law_pick", none)) (D D_law_pick) P_law_pick sp_law_pick := by
  refine T.d_law_pick.ok sc_law_pick (fun vs H Q E h => ?_) (fun cdv A outer s H vs Q E hr h => ?_)
  · unfold sp_law_pick at h
    first | (obtain ⟨rfl, _⟩ := h; rfl) | (obtain ⟨_, rfl, _⟩ := h; rfl) | (obtain ⟨_, _, rfl, _⟩ := h; rfl) | (obtain ⟨_, _, _, rfl, _⟩ := h; rfl) | (obtain ⟨_, _, _, _, rfl, _⟩ := h; rfl) | (obtain ⟨_, _, _, _, _, rfl, _⟩ := h; rfl) | (obtain ⟨_, _, _, _, _, _, rfl, _⟩ := h; rfl) | (obtain ⟨_, _, _, _, _, _, _, rfl, _⟩ := h; rfl) | (obtain ⟨_, _, _, _, _, _, _, _, rfl, _⟩ := h; rfl) | (obtain ⟨_, _, _, _, _, _, _, _, _, rfl, _⟩ := h; rfl) | (obtain ⟨_, _, _, _, _, _, _, _, _, _, rfl, _⟩ := h; rfl) | (obtain ⟨_, _, _, _, _, _, _, _, _, _, _, rfl, _⟩ := h; rfl)
  · refine ⟨_, PSs.nox (pss_one (ps_ret (pe_ix (ix_listK (K := K)) (pv 1) (pe_call (ok_law_draw T) (hr.mono (by decide)) rfl T.g_law_draw T.d_law_draw.kp (b_law_draw T.d_law_draw) .nil pass0 (pa_cons (pv 0) (pa_cons (pe_callB (call_lenK (K := K)) (by rfl) T.n_len (by decide +kernel) (pa_cons (pv 1) pa_nil)) pa_nil))) (fun _ _ => rfl)))), ?_⟩
    unfold sp_law_pick at h
    obtain ⟨s, a, xs, rfl, ha, hn, ⟨h0, h1⟩, hs, k⟩ := h
    walk_at "rd"
    refine use_draw (by omega) (by omega) hs fun i H1 i0 i1 s1 hs1 => ?_
    obtain ⟨v, hv, hv1, _⟩ := at_of_lt (xs := xs) i0 i1
    exact ⟨_, _, _, _, rfl, rfl, SqL.of (s1 _ _ hn ha), hv1, k _ _ hv s1 hs1⟩

/-- drawn settings -/
structure Prt where
  lens : List Int
  size : Int
  fan : Int
  rec_ : Int
  every : Int
  keep : Int
structure Prt.Ok (p : Prt) : Prop where
  l0 : 0 < p.lens.length
  l1 : p.lens.length ≤ 6
  le : ∀ x ∈ p.lens, 1 ≤ x ∧ x ≤ p.size
  s0 : 1 ≤ p.size
  s1 : p.size ≤ 64
  f : 2 ≤ p.fan ∧ p.fan ≤ 8
  r : 1 ≤ p.rec_ ∧ p.rec_ ≤ 16
  e : 1 ≤ p.every ∧ p.every ≤ 40
  k : 1 ≤ p.keep ∧ p.keep ≤ 100
def PrtAt (H : Hp) (a : Addr) (p : Prt) : Prop := ∃ l, H a = some (.lst [.ref l, .int p.size, .int p.fan, .int p.rec_, .int p.every, .int p.keep]) ∧ H l = some (.lst (p.lens.map V.int))
theorem PrtAt.same {H H' : Hp} {a : Addr} {p : Prt} (h : PrtAt H a p) (s : Same H H') : PrtAt H' a p := let ⟨l, h1, h2⟩ := h; ⟨l, s _ _ h1, s _ _ h2⟩
@[irreducible] def sp_law_parts : Sp := fun vs H Q _ => ∃ (s : Addr), vs = [.ref s] ∧ Src H s ∧
  ∀ a H' p, SB s H H' → Src H' s → p.Ok → PrtAt H' a p → (∀ H'', SB s H' H'' → PrtAt H'' a p) → Q (.ref a) H'
theorem use_parts {s : Addr} {H : Hp} {Q : VK} {E : XK} (hs : Src H s) (k : ∀ a H' p, SB s H H' → Src H' s → p.Ok → PrtAt H' a p → (∀ H'', SB s H' H'' → PrtAt H'' a p) → Q (.ref a) H') : sp_law_parts [.ref s] H Q E := by
  unfold sp_law_parts; exact ⟨s, rfl, hs, k⟩
def bnds : List (Int × Int) := [(2, 8), (1, 16), (1, 40), (1, 100)]
theorem b_law_parts {K : PySem.W.Frag} {fd : FuncData} (F : F_law_parts K fd) : Binds K fd P_law_parts [] := FunD.bindsN F fun _ _ _ _ _ _ us hl => match us, hl with | [_], _ => rfl
theorem ok_law_parts (T : Txt K mg D) : FnOk P w K mg base CX0 4 (He.fAd K ("_law_parts", none)) (D D_law_parts) P_law_parts sp_law_parts := by
  refine T.d_law_parts.ok sc_law_parts (fun vs H Q E h => ?_) (fun cdv A outer s H vs Q E hr h => ?_)
  · unfold sp_law_parts at h
    first | (obtain ⟨rfl, _⟩ := h; rfl) | (obtain ⟨_, rfl, _⟩ := h; rfl) | (obtain ⟨_, _, rfl, _⟩ := h; rfl) | (obtain ⟨_, _, _, rfl, _⟩ := h; rfl) | (obtain ⟨_, _, _, _, rfl, _⟩ := h; rfl) | (obtain ⟨_, _, _, _, _, rfl, _⟩ := h; rfl) | (obtain ⟨_, _, _, _, _, _, rfl, _⟩ := h; rfl) | (obtain ⟨_, _, _, _, _, _, _, rfl, _⟩ := h; rfl) | (obtain ⟨_, _, _, _, _, _, _, _, rfl, _⟩ := h; rfl) | (obtain ⟨_, _, _, _, _, _, _, _, _, rfl, _⟩ := h; rfl) | (obtain ⟨_, _, _, _, _, _, _, _, _, _, rfl, _⟩ := h; rfl) | (obtain ⟨_, _, _, _, _, _, _, _, _, _, _, rfl, _⟩ := h; rfl)
  · refine ⟨_, PSs.nox (pss_cons (ps_set (i := 1) sc_law_parts.nd rfl (Or.inr rfl) (pe_call (ok_law_pick T) (hr.mono (by decide)) rfl T.g_law_pick T.d_law_pick.kp (b_law_pick T.d_law_pick) .nil pass0 (pa_cons (pv 0) (pa_cons (pe_lst (pa_cons (pe_op op_add pe_int (pe_call (ok_law_draw T) (hr.mono (by decide)) rfl T.g_law_draw T.d_law_draw.kp (b_law_draw T.d_law_draw) .nil pass0 (pa_cons (pv 0) (pa_cons pe_int pa_nil)))) (pa_cons (pe_op op_add pe_int (pe_call (ok_law_draw T) (hr.mono (by decide)) rfl T.g_law_draw T.d_law_draw.kp (b_law_draw T.d_law_draw) .nil pass0 (pa_cons (pv 0) (pa_cons pe_int pa_nil)))) (pa_cons pe_int pa_nil)))) pa_nil))))
      (pss_cons (ps_setLc (i := 2) (own := [("k", 6)]) rfl sc_law_parts.nd rfl rfl (sw_true rfl rfl rfl (by decide +kernel)) (pi_range1 (by rfl) T.n_range (pa_cons (pe_op op_add pe_int (pe_call (ok_law_draw T) (hr.mono (by decide)) rfl T.g_law_draw T.d_law_draw.kp (b_law_draw T.d_law_draw) .nil pass0 (pa_cons (pv 0) (pa_cons pe_int pa_nil)))) pa_nil)) (blkOk_by (N := N_law_parts) (sc := defScope s_law_parts) (by decide +kernel)) (fun _ _ _ _ _ => (pg_name (i := 6) sc_law_parts.nd rfl (Or.inl rfl))) (fun _ _ _ _ _ => pts_nil) (fun _ _ _ _ _ => (pe_op op_add pe_int (pe_call (ok_law_draw T) (hr.mono (by decide)) rfl T.g_law_draw T.d_law_draw.kp (b_law_draw T.d_law_draw) .nil pass0 (pa_cons (pv 0) (pa_cons (pv 1) pa_nil))))))
      (pss_cons (ps_set (i := 3) sc_law_parts.nd rfl (Or.inl rfl) (pe_lst (pa_cons (pv 2) (pa_cons (pv 1) pa_nil))))
      (pss_cons (ps_for PassesOwn.never rfl (pi_list (pe_lst (pa_cons (pe_tup (pa_cons pe_int (pa_cons pe_int pa_nil))) (pa_cons (pe_tup (pa_cons pe_int (pa_cons pe_int pa_nil))) (pa_cons (pe_tup (pa_cons pe_int (pa_cons pe_int pa_nil))) (pa_cons (pe_tup (pa_cons pe_int (pa_cons pe_int pa_nil))) pa_nil)))))) (pg_tup rfl (pgs_cons (pg_name (i := 4) sc_law_parts.nd rfl (Or.inl rfl)) (pgs_cons (pg_name (i := 5) sc_law_parts.nd rfl (Or.inl rfl)) pgs_nil))) (pss_one (ps_expr (pe_bm PySem.F.plainAttrs_list PySem.F.slot_list_append PySem.F.type_list_append mt_append (pv 3) (pa_cons (pe_call (ok_law_pick T) (hr.mono (by decide)) rfl T.g_law_pick T.d_law_pick.kp (b_law_pick T.d_law_pick) .nil pass0 (pa_cons (pv 0) (pa_cons (pe_lst (pa_cons (pv 4) (pa_cons (pv 5) (pa_cons (pe_op op_add (pv 4) (pe_call (ok_law_draw T) (hr.mono (by decide)) rfl T.g_law_draw T.d_law_draw.kp (b_law_draw T.d_law_draw) .nil pass0 (pa_cons (pv 0) (pa_cons (pe_op op_add (pe_op op_sub (pv 5) (pv 4)) pe_int) pa_nil)))) pa_nil)))) pa_nil))) pa_nil)))))
      (pss_one (ps_ret (pv 3))))))), ?_⟩
    unfold sp_law_parts at h
    obtain ⟨s, rfl, hs, k⟩ := h
    walk_at "rd"
    refine use_draw (by omega) (by omega) hs fun i1 H1 i1a i1b s1 hs1 => ?_
    walk_at "rd"
    refine use_draw (by omega) (by omega) hs1 fun i2 H2 i2a i2b s2 hs2 => ?_
    walk_at "rd"
    intro p3 n3
    generalize eH3 : upd _ p3 _ = H3
    obtain ⟨s3, hp3⟩ := gen_new n3 eH3
    clear eH3
    obtain ⟨a0, b0, c0, hs20⟩ := id hs2
    have np3 : p3 ≠ s := (ne_of_none hs20 n3).symm
    walk_at "rd"
    refine use_pick hp3 np3 (by walk_at "sd") ⟨_, _, _, s3 _ _ hs20⟩ fun v H4 hv s4 hs4 => ?_
    obtain ⟨room, rfl, r0, r1⟩ : ∃ room : Int, v = .int room ∧ 1 ≤ room ∧ room ≤ 64 := by
      simp only [List.mem_cons, List.mem_nil_iff, or_false] at hv
      rcases hv with rfl | rfl | rfl
      · exact ⟨_, rfl, by omega, by omega⟩
      · exact ⟨_, rfl, by omega, by omega⟩
      · exact ⟨_, rfl, by omega, by omega⟩
    have f4 : SB s H H4 := ((s1.trans s2).trans s3.sb).trans s4
    walk_at "rd"
    refine use_draw (by omega) (by omega) hs4 fun i5 H5 i5a i5b s5 hs5 => ?_
    walk_at "rd"
    intro D5 n5
    obtain ⟨a5, b5, c5, hs50⟩ := id hs5
    have nD : D5 ≠ s := (ne_of_none hs50 n5).symm
    have f5 : SB s H H5 := f4.trans s5
    refine lc_range (lo := 0) (n := (1 + i5).toNat) (fun i H' => ∃ xs : List Int, xs.length = i ∧ (∀ x ∈ xs, 1 ≤ x ∧ x ≤ room) ∧ H' D5 = some (.lst (xs.map V.int)) ∧ SB s H5 H' ∧ Src H' s)
      ⟨[], rfl, by simp, upd_same, SB.refl.mut n5, _, _, _, by rw [upd_ne nD.symm]; exact hs50⟩ ?_ ?_
    · rintro i H' hi ⟨xs, hl, hb, hD, f, hs'⟩
      refine ⟨rfl, ?_⟩
      walk_at "rd"
      refine use_draw (by omega) (by omega) hs' fun j6 H6 i6a i6b s6 hs6 => ?_
      obtain ⟨a6, b6, c6, hs60⟩ := id hs6
      walk_at "rd"
      refine ⟨xs.map V.int, s6 _ _ nD hD, szlt (by rw [List.length_map]; omega), xs ++ [1 + j6], by rw [List.length_append, hl]; rfl, ?_, by rw [upd_same, List.map_append]; rfl, (f.trans s6).mut n5, a6, b6, c6, by rw [upd_ne nD.symm]; exact hs60⟩
      intro x hx
      rcases List.mem_append.mp hx with h | h
      · exact hb x h
      · rw [List.mem_singleton.mp h]
        constructor <;> omega
    · rintro H7 ⟨lens, hl, hb, hD, f7, hs7⟩
      have f70 : SB s H H7 := f5.trans f7
      walk_at "rd"
      intro p8 n8
      generalize eH8 : upd _ p8 _ = H8
      obtain ⟨s8, hp8⟩ := gen_new n8 eH8
      clear eH8
      walk_at "rd"
      intro q1 m1
      generalize eG1 : upd _ q1 _ = G1
      obtain ⟨t1, u1⟩ := gen_new m1 eG1
      clear eG1
      walk_at "rd"
      intro q2 m2
      generalize eG2 : upd _ q2 _ = G2
      obtain ⟨t2, u2⟩ := gen_new m2 eG2
      clear eG2
      walk_at "rd"
      intro q3 m3
      generalize eG3 : upd _ q3 _ = G3
      obtain ⟨t3, u3⟩ := gen_new m3 eG3
      clear eG3
      walk_at "rd"
      intro q4 m4
      generalize eG4 : upd _ q4 _ = G4
      obtain ⟨t4, u4⟩ := gen_new m4 eG4
      clear eG4
      walk_at "rd"
      intro q5 m5
      generalize eG5 : upd _ q5 _ = G5
      obtain ⟨t5, u5⟩ := gen_new m5 eG5
      clear eG5
      have u40 := t5 _ _ u4
      have u30 := (t4.trans t5) _ _ u3
      have u20 := ((t3.trans t4).trans t5) _ _ u2
      have u10 := (((t2.trans t3).trans t4).trans t5) _ _ u1
      have s85 : Same H8 G5 := (((t1.trans t2).trans t3).trans t4).trans t5
      have hp80 := s85 _ _ hp8
      obtain ⟨a7, b7, c7, hs70⟩ := id hs7
      have np8 : p8 ≠ s := (ne_of_none hs70 n8).symm
      have hs5' := (s8.trans s85) _ _ hs70
      have qs : ∀ q o, G5 q = some (HO.tup o) → q ≠ s ∧ q ≠ p8 := fun q o e => ⟨ne_of e hs5' (by intro z; cases z), ne_of e hp80 (by intro z; cases z)⟩
      have q5p : q5 ≠ p8 := (ne_of_none (((((t1.trans t2).trans t3).trans t4)) _ _ hp8) m5).symm
      have q5s : q5 ≠ s := (ne_of_none ((((((s8.trans t1).trans t2).trans t3).trans t4)) _ _ hs70) m5).symm
      have tb : ∀ (i : Nat) (x : V), [V.ref q1, V.ref q2, V.ref q3, V.ref q4][i]? = some x → ∃ (q : Addr) (b : Int × Int), x = .ref q ∧ bnds[i]? = some b ∧ b.1 ≤ b.2 ∧ b.2 ≤ 100 ∧ 0 ≤ b.1 ∧ G5 q = some (.tup [.int b.1, .int b.2]) := by
        intro i x hx
        match i, hx with
        | 0, hx => cases hx; exact ⟨q1, (2, 8), rfl, rfl, by decide, by decide, by decide, u10⟩
        | 1, hx => cases hx; exact ⟨q2, (1, 16), rfl, rfl, by decide, by decide, by decide, u20⟩
        | 2, hx => cases hx; exact ⟨q3, (1, 40), rfl, rfl, by decide, by decide, by decide, u30⟩
        | 3, hx => cases hx; exact ⟨q4, (1, 100), rfl, rfl, by decide, by decide, by decide, u40⟩
        | i + 4, hx => simp at hx
      refine ⟨_, rfl, ⟨_, SqL.of u5⟩, for_list (xs := [V.ref q1, V.ref q2, V.ref q3, V.ref q4]) (fun i σ H' => ∃ (ys : List Int) (v1 v2 v3 : Option V), σ = [some (.ref s), some (.int room), some (.ref D5), some (.ref p8), v1, v2, v3] ∧
        ys.length = i ∧ (∀ (j : Nat) (y : Int) (b : Int × Int), ys[j]? = some y → bnds[j]? = some b → b.1 ≤ y ∧ y ≤ b.2) ∧ H' p8 = some (.lst (.ref D5 :: .int room :: ys.map V.int)) ∧ SX [s, p8] G5 H' ∧ Src H' s)
        ⟨[], _, _, _, rfl, rfl, fun j y b h _ => by simp at h, hp80, SX.refl, _, _, _, hs5'⟩ ?_ ?_ ?_⟩
      · rintro i σ H' _ ⟨ys, v1, v2, v3, _, _, _, _, f, _⟩
        exact SqL.of (f _ _ (by simp [q5p, q5s]) u5)
      · rintro i x σ H' hx ⟨ys, v1, v2, v3, rfl, hl', hb', hp', f, hs'⟩
        obtain ⟨q, b, rfl, hbi, b1, b2, b3, hq⟩ := tb i x hx
        obtain ⟨qa, qb⟩ := qs _ _ hq
        have hq' := f _ _ (by simp [qa, qb]) hq
        walk_at "rd"
        refine ⟨.inl ⟨rfl, _, SqL.of hp'⟩, ?_⟩
        walk_at "rd"
        refine use_draw (by omega) (by omega) hs' fun i9 H9 i9a i9b s9 hs9 => ?_
        walk_at "rd"
        intro pA nA
        generalize eHA : upd _ pA _ = HA
        obtain ⟨sA, hpA⟩ := gen_new nA eHA
        clear eHA
        walk_at "rd"
        obtain ⟨a9, b9, c9, hs90⟩ := id hs9
        have nA' : pA ≠ s := (ne_of_none hs90 nA).symm
        refine use_pick hpA nA' (by walk_at "sd") ⟨_, _, _, sA _ _ hs90⟩ fun v HB hv sB hsB => ?_
        obtain ⟨y, rfl, y0, y1⟩ : ∃ y : Int, v = .int y ∧ b.1 ≤ y ∧ y ≤ b.2 := by
          simp only [List.mem_cons, List.mem_nil_iff, or_false] at hv
          rcases hv with rfl | rfl | rfl
          · exact ⟨_, rfl, by omega, by omega⟩
          · exact ⟨_, rfl, by omega, by omega⟩
          · exact ⟨_, rfl, by omega, by omega⟩
        walk_at "rd"
        have hpB := sB _ _ np8 (sA _ _ (s9 _ _ np8 hp'))
        obtain ⟨aB, bB, cB, hsB0⟩ := id hsB
        refine ⟨_, _, _, rfl, rfl, hpB, szlt (by simp; have := (List.getElem?_eq_some_iff.mp hx).1; simp at this; omega), ?_⟩
        refine ⟨ys ++ [y], _, _, _, rfl, by rw [List.length_append, hl']; rfl, ?_, by rw [upd_same, List.map_append]; rfl, (((f.trans (s9.sx (by simp))).trans sA.sx).trans (sB.sx (by simp))).upd (by simp), aB, bB, cB, by rw [upd_ne np8.symm]; exact hsB0⟩
        intro j z c hz hc
        by_cases hj : j < ys.length
        · rw [List.getElem?_append_left hj] at hz
          exact hb' j z c hz hc
        · rw [List.getElem?_append_right (by omega)] at hz
          have hj2 : j - ys.length = 0 := by
            by_cases h0 : j - ys.length = 0
            · exact h0
            · rw [List.getElem?_eq_none (by simp; omega)] at hz; cases hz
          rw [hj2] at hz
          cases hz
          have : j = i := by omega
          subst this
          rw [hbi] at hc
          cases hc
          exact ⟨y0, y1⟩
      · rintro σ H' ⟨ys, v1, v2, v3, rfl, hl', hb', hp', f, hs'⟩
        walk_at "rd"
        have hl4 : ys.length = 4 := hl'
        match ys, hl4, hb', hp' with
        | [y1, y2, y3, y4], _, hb', hp' =>
        have g1 := hb' 0 y1 _ rfl rfl
        have g2 := hb' 1 y2 _ rfl rfl
        have g3 := hb' 2 y3 _ rfl rfl
        have g4 := hb' 3 y4 _ rfl rfl
        have hD8 := s8 _ _ hD
        have nDp : D5 ≠ p8 := ne_of_none hD n8
        have hDE := f _ _ (by simp [nDp, nD]) (s85 _ _ hD8)
        refine k p8 H' ⟨lens, room, y1, y2, y3, y4⟩ ?_ hs' ⟨by show 0 < lens.length; omega, by show lens.length ≤ 6; omega, hb, r0, r1, g1, g2, g3, g4⟩ ⟨D5, hp', hDE⟩ ?_
        · intro c o hc ho
          have o7 := f70 c o hc ho
          exact f c o (by simp [hc, ne_of_none o7 n8]) (s85 _ _ (s8 _ _ o7))
        · exact fun H'' e => ⟨D5, e _ _ np8 hp', e _ _ nD hDE⟩

/-- the begin of an own error, at its class C, field f -/
@[irreducible] def sp_xi (C : Addr) (f : Str) : Sp := fun vs H Q _ => ∃ (a : Addr) (v : V), vs = [.ref a, v] ∧ H a = some (exo a C none) ∧ ∀ dx, H dx = none → dx ≠ a → Q .non (upd (upd H dx (exd dx [(f, v)])) a (exo a C (some dx)))
/-- an error is made -/
theorem mk_xi {C : Addr} {f : Str} {v : V} {H1 : Hp} {Q : XK} (h : ∀ d, H1 d = none → Q (.ref C) (some d) (upd H1 d (.xd [(f, v)]))) :
    [v].length ≤ 1000 ∧ ∀ a, H1 a = none → sp_xi C f (.ref a :: [v]) (upd H1 a (exo a C none)) (fun u H2 => u = .non ∧ ∃ (d : Addr) (fs : List (Str × V)), H2 a = some (exo a C (some d)) ∧ H2 d = some (exd d fs) ∧ H1 d = none ∧ Q (.ref C) (some d) (upd (del H2 a) d (.xd fs))) (fun _ _ _ => False) := by
  refine ⟨Nat.le_of_ble_eq_true rfl, fun a na => ?_⟩
  unfold sp_xi
  refine ⟨a, v, rfl, upd_same, fun dx nd ne => ⟨rfl, dx, [(f, v)], upd_same, ?_, ?_, ?_⟩⟩
  · rw [upd_ne ne, upd_same]
  · rwa [upd_ne ne] at nd
  · have nd1 : H1 dx = none := by rwa [upd_ne ne] at nd
    have e : upd (del (upd (upd (upd H1 a (exo a C none)) dx (exd dx [(f, v)])) a (exo a C (some dx))) a) dx (.xd [(f, v)]) = upd H1 dx (.xd [(f, v)]) := by
      funext b
      by_cases hb : b = dx
      · rw [hb, upd_same, upd_same]
      rw [upd_ne hb, upd_ne hb]
      by_cases ha : b = a
      · rw [ha, del_same, na]
      rw [del_ne ha, upd_ne ha, upd_ne hb, upd_ne ha]
    rw [e]
    exact h dx nd1
theorem mk_xi2 {C : Addr} {f : Str} {v : V} {H1 : Hp} {Q : XK} (h : ∀ d, H1 d = none → Q (.ref C) (some d) (upd H1 d (.xd [(f, v)]))) :
    ∀ a, H1 a = none → sp_xi C f (.ref a :: [v]) (upd H1 a (exo a C none)) (fun u H2 => u = .non ∧ ∃ (d : Addr) (fs : List (Str × V)), H2 a = some (exo a C (some d)) ∧ H2 d = some (exd d fs) ∧ H1 d = none ∧ Q (.ref C) (some d) (upd (del H2 a) d (.xd fs))) (fun _ _ _ => False) := (mk_xi h).2
theorem b_InvalidSettings___init__ {K : PySem.W.Frag} {fd : FuncData} (F : F_InvalidSettings___init__ K fd) : Binds K fd P_InvalidSettings___init__ [] := FunD.bindsN F fun _ _ _ _ _ _ us hl => match us, hl with | [_, _], _ => rfl
theorem ok_InvalidSettings___init__ (T : Txt K mg D) : FnOk P w K mg base CX0 1 (He.fAd K ("InvalidSettings", some "__init__")) (D D_InvalidSettings___init__) P_InvalidSettings___init__ (sp_xi (He.ga K "InvalidSettings") "part") := by
  refine T.d_InvalidSettings___init__.ok sc_InvalidSettings___init__ (fun vs H Q E h => ?_) (fun cdv A outer s H vs Q E hr h => ?_)
  · unfold sp_xi at h
    first | (obtain ⟨rfl, _⟩ := h; rfl) | (obtain ⟨_, rfl, _⟩ := h; rfl) | (obtain ⟨_, _, rfl, _⟩ := h; rfl) | (obtain ⟨_, _, _, rfl, _⟩ := h; rfl) | (obtain ⟨_, _, _, _, rfl, _⟩ := h; rfl) | (obtain ⟨_, _, _, _, _, rfl, _⟩ := h; rfl) | (obtain ⟨_, _, _, _, _, _, rfl, _⟩ := h; rfl) | (obtain ⟨_, _, _, _, _, _, _, rfl, _⟩ := h; rfl) | (obtain ⟨_, _, _, _, _, _, _, _, rfl, _⟩ := h; rfl) | (obtain ⟨_, _, _, _, _, _, _, _, _, rfl, _⟩ := h; rfl) | (obtain ⟨_, _, _, _, _, _, _, _, _, _, rfl, _⟩ := h; rfl) | (obtain ⟨_, _, _, _, _, _, _, _, _, _, _, rfl, _⟩ := h; rfl)
  · refine ⟨_, PSs.nox (pss_cons (ps_expr (pe_leI T.lb_StoreError rfl T.g_StoreError (pa_cons (pv 0) (pa_cons pe_str pa_nil))))
      (pss_one (ps_leS (pv 0) (pv 1)))), ?_⟩
    unfold sp_xi at h
    obtain ⟨a, v, rfl, ha, k⟩ := h
    walk_at "rd"
    refine ⟨a, _, [.str "invalid settings"], rfl, Nat.le_of_ble_eq_true rfl, T.le_InvalidSettings, ha, ?_⟩
    walk_at "rd"
    exact ⟨a, _, rfl, T.le_InvalidSettings, T.ln_InvalidSettings_part, ha, fun dx nd ne => k dx nd ne⟩

/-- a value of some plain kind; objects keep F -/
inductive Ov (F : Addr → Prop) (H : Hp) : V → Prop
  | non : Ov F H .non
  | bl (b : Bool) : Ov F H (.bl b)
  | int (i : Int) : Ov F H (.int i)
  | str (s : Str) : Ov F H (.str s)
  | lst {a : Addr} {xs : List V} (f : F a) (h : H a = some (.lst xs)) : Ov F H (.ref a)
  | tup {a : Addr} {xs : List V} (f : F a) (h : H a = some (.tup xs)) : Ov F H (.ref a)
  | dct {a : Addr} {xs : List (Key × V)} (f : F a) (h : H a = some (.dK xs)) : Ov F H (.ref a)
theorem Ov.mono {F G : Addr → Prop} {H H' : Hp} {v : V} (h : Ov F H v) (k : ∀ a o, F a → H a = some o → H' a = some o) (g : ∀ a, F a → G a) : Ov G H' v := by
  cases h with
  | non => exact .non
  | bl b => exact .bl b
  | int i => exact .int i
  | str s => exact .str s
  | lst f h => exact .lst (g _ f) (k _ _ f h)
  | tup f h => exact .tup (g _ f) (k _ _ f h)
  | dct f h => exact .dct (g _ f) (k _ _ f h)
theorem Ov.isint {K : PySem.W.Frag} {F : Addr → Prop} {H : Hp} {v : V} {Q : VK} (h : Ov F H v) (q1 : ∀ i, v = .int i → Q (.bl true) H) (q2 : ∀ b, v = .bl b → Q (.bl true) H) (q3 : (∀ i, v ≠ .int i) → (∀ b, v ≠ .bl b) → Q (.bl false) H) : rIsiI K [v, .ty "int"] H Q := by
  unfold rIsiI
  cases h with
  | non => exact ⟨_, _, _, _, false, rfl, .ty _, .base .non, kit_ty (by decide +kernel), q3 (by intro _ z; cases z) (by intro _ z; cases z)⟩
  | bl b => exact ⟨_, _, _, _, true, rfl, .ty _, .base (.bl b), kit_ty (by decide +kernel), q2 b rfl⟩
  | int i => exact ⟨_, _, _, _, true, rfl, .ty _, .base (.int i), kit_ty (by decide +kernel), q1 i rfl⟩
  | str s => exact ⟨_, _, _, _, false, rfl, .ty _, .base (.str s), kit_ty (by decide +kernel), q3 (by intro _ z; cases z) (by intro _ z; cases z)⟩
  | lst f h => exact ⟨_, _, _, _, false, rfl, .ty _, .base (.lst h), kit_ty (by decide +kernel), q3 (by intro _ z; cases z) (by intro _ z; cases z)⟩
  | tup f h => exact ⟨_, _, _, _, false, rfl, .ty _, .base (.tup h), kit_ty (by decide +kernel), q3 (by intro _ z; cases z) (by intro _ z; cases z)⟩
  | dct f h => exact ⟨_, _, _, _, false, rfl, .ty _, .base (.dK h), kit_ty (by decide +kernel), q3 (by intro _ z; cases z) (by intro _ z; cases z)⟩
theorem isi_boolT {K : PySem.W.Frag} {H : Hp} {b : Bool} {Q : VK} (q : Q (.bl true) H) : rIsiI K [.bl b, .ty "bool"] H Q := by
  unfold rIsiI; exact ⟨_, _, _, _, true, rfl, .ty _, .base (.bl b), kit_ty (by decide +kernel), q⟩
theorem Ov.islist {K : PySem.W.Frag} {F : Addr → Prop} {H : Hp} {v : V} {Q : VK} (h : Ov F H v) (q1 : ∀ a xs, v = .ref a → H a = some (.lst xs) → Q (.bl true) H) (q2 : (∀ a xs, v = .ref a → H a ≠ some (.lst xs)) → Q (.bl false) H) : rIsiI K [v, .ty "list"] H Q := by
  unfold rIsiI
  cases h with
  | non => exact ⟨_, _, _, _, false, rfl, .ty _, .base .non, kit_ty (by decide +kernel), q2 (by intro _ _ z; cases z)⟩
  | bl b => exact ⟨_, _, _, _, false, rfl, .ty _, .base (.bl b), kit_ty (by decide +kernel), q2 (by intro _ _ z; cases z)⟩
  | int i => exact ⟨_, _, _, _, false, rfl, .ty _, .base (.int i), kit_ty (by decide +kernel), q2 (by intro _ _ z; cases z)⟩
  | str s => exact ⟨_, _, _, _, false, rfl, .ty _, .base (.str s), kit_ty (by decide +kernel), q2 (by intro _ _ z; cases z)⟩
  | lst f h => exact ⟨_, _, _, _, true, rfl, .ty _, .base (.lst h), kit_ty (by decide +kernel), q1 _ _ rfl h⟩
  | tup f h => exact ⟨_, _, _, _, false, rfl, .ty _, .base (.tup h), kit_ty (by decide +kernel), q2 (by intro _ _ z e; cases z; rw [h] at e; cases e)⟩
  | dct f h => exact ⟨_, _, _, _, false, rfl, .ty _, .base (.dK h), kit_ty (by decide +kernel), q2 (by intro _ _ z e; cases z; rw [h] at e; cases e)⟩
abbrev Any (_ : Addr) : Prop := True
/-- an integer from lo to hi -/
def BT (v : V) (lo hi : Int) : Prop := ∃ i : Int, v = .int i ∧ lo ≤ i ∧ i ≤ hi
@[irreducible] def sp_is_integer : Sp := fun vs H Q _ => ∃ v : V, vs = [v] ∧ Ov Any H v ∧ ∀ b, (b = true ↔ ∃ i, v = .int i) → Q (.bl b) H
theorem use_isint {v : V} {H : Hp} {Q : VK} {E : XK} (o : Ov Any H v) (q : ∀ b, (b = true ↔ ∃ i, v = .int i) → Q (.bl b) H) : sp_is_integer [v] H Q E := by unfold sp_is_integer; exact ⟨v, rfl, o, q⟩
theorem b_is_integer {K : PySem.W.Frag} {fd : FuncData} (F : F_is_integer K fd) : Binds K fd P_is_integer [] := FunD.bindsN F fun _ _ _ _ _ _ us hl => match us, hl with | [_], _ => rfl
theorem ok_is_integer (T : Txt K mg D) : FnOk P w K mg base CX0 1 (He.fAd K ("is_integer", none)) (D D_is_integer) P_is_integer sp_is_integer := by
  refine T.d_is_integer.ok sc_is_integer (fun vs H Q E h => ?_) (fun cdv A outer s H vs Q E hr h => ?_)
  · unfold sp_is_integer at h
    first | (obtain ⟨rfl, _⟩ := h; rfl) | (obtain ⟨_, rfl, _⟩ := h; rfl) | (obtain ⟨_, _, rfl, _⟩ := h; rfl) | (obtain ⟨_, _, _, rfl, _⟩ := h; rfl) | (obtain ⟨_, _, _, _, rfl, _⟩ := h; rfl) | (obtain ⟨_, _, _, _, _, rfl, _⟩ := h; rfl) | (obtain ⟨_, _, _, _, _, _, rfl, _⟩ := h; rfl) | (obtain ⟨_, _, _, _, _, _, _, rfl, _⟩ := h; rfl) | (obtain ⟨_, _, _, _, _, _, _, _, rfl, _⟩ := h; rfl) | (obtain ⟨_, _, _, _, _, _, _, _, _, rfl, _⟩ := h; rfl) | (obtain ⟨_, _, _, _, _, _, _, _, _, _, rfl, _⟩ := h; rfl) | (obtain ⟨_, _, _, _, _, _, _, _, _, _, _, rfl, _⟩ := h; rfl)
  · refine ⟨_, PSs.nox (pss_one (ps_ret (pe_and (pe_callB (call_isiK2 (K := K)) (by rfl) T.n_isinstance (by decide +kernel) (pa_cons (pv 0) (pa_cons (pe_bltn (by rfl) T.n_int (by decide +kernel) (v := .ty "int") rfl) pa_nil))) (pe_one (pe_not (pe_callB (call_isiK2 (K := K)) (by rfl) T.n_isinstance (by decide +kernel) (pa_cons (pv 0) (pa_cons (pe_bltn (by rfl) T.n_bool (by decide +kernel) (v := .ty "bool") rfl) pa_nil)))))))), ?_⟩
    unfold sp_is_integer at h
    obtain ⟨v, rfl, o, q⟩ := h
    walk_at "rd"
    refine o.isint (fun i e => ?_) (fun b e => ?_) (fun n1 n2 => ?_)
    · subst e
      walk_at "rd"
      refine isi_bool ?_
      walk_at "rd"
      exact q true ⟨fun _ => ⟨_, rfl⟩, fun _ => rfl⟩
    · subst e
      walk_at "rd"
      refine isi_boolT ?_
      walk_at "rd"
      exact q false ⟨fun z => (by cases z), fun ⟨_, z⟩ => by cases z⟩
    · walk_at "rd"
      exact q false ⟨fun z => (by cases z), fun ⟨i, z⟩ => absurd z (n1 i)⟩

@[irreducible] def sp_is_between : Sp := fun vs H Q _ => ∃ (v : V) (lo hi : Int), vs = [v, .int lo, .int hi] ∧ Ov Any H v ∧ ∀ b, (b = true ↔ BT v lo hi) → Q (.bl b) H
theorem use_between {v : V} {lo hi : Int} {H : Hp} {Q : VK} {E : XK} (o : Ov Any H v) (q : ∀ b, (b = true ↔ BT v lo hi) → Q (.bl b) H) : sp_is_between [v, .int lo, .int hi] H Q E := by unfold sp_is_between; exact ⟨v, lo, hi, rfl, o, q⟩
theorem b_is_between {K : PySem.W.Frag} {fd : FuncData} (F : F_is_between K fd) : Binds K fd P_is_between [] := FunD.bindsN F fun _ _ _ _ _ _ us hl => match us, hl with | [_, _, _], _ => rfl
theorem ok_is_between (T : Txt K mg D) : FnOk P w K mg base CX0 2 (He.fAd K ("is_between", none)) (D D_is_between) P_is_between sp_is_between := by
  refine T.d_is_between.ok sc_is_between (fun vs H Q E h => ?_) (fun cdv A outer s H vs Q E hr h => ?_)
  · unfold sp_is_between at h
    first | (obtain ⟨rfl, _⟩ := h; rfl) | (obtain ⟨_, rfl, _⟩ := h; rfl) | (obtain ⟨_, _, rfl, _⟩ := h; rfl) | (obtain ⟨_, _, _, rfl, _⟩ := h; rfl) | (obtain ⟨_, _, _, _, rfl, _⟩ := h; rfl) | (obtain ⟨_, _, _, _, _, rfl, _⟩ := h; rfl) | (obtain ⟨_, _, _, _, _, _, rfl, _⟩ := h; rfl) | (obtain ⟨_, _, _, _, _, _, _, rfl, _⟩ := h; rfl) | (obtain ⟨_, _, _, _, _, _, _, _, rfl, _⟩ := h; rfl) | (obtain ⟨_, _, _, _, _, _, _, _, _, rfl, _⟩ := h; rfl) | (obtain ⟨_, _, _, _, _, _, _, _, _, _, rfl, _⟩ := h; rfl) | (obtain ⟨_, _, _, _, _, _, _, _, _, _, _, rfl, _⟩ := h; rfl)
  · refine ⟨_, PSs.nox (pss_one (ps_ret (pe_and (pe_call (ok_is_integer T) (hr.mono (by decide)) rfl T.g_is_integer T.d_is_integer.kp (b_is_integer T.d_is_integer) .nil pass0 (pa_cons (pv 0) pa_nil)) (pe_one (pe_chain op_le op_le (pv 1) (pv 0) (pv 2)))))), ?_⟩
    unfold sp_is_between at h
    obtain ⟨v, lo, hi, rfl, o, q⟩ := h
    walk_at "rd"
    refine use_isint o fun b hb => ?_
    walk_at "rd"
    cases b with
    | false =>
      have n : ¬ ∃ i, v = .int i := fun z => by cases hb.2 z
      refine iteF_of rfl ?_
      exact q false ⟨fun z => (by cases z), fun ⟨i, e, _⟩ => absurd ⟨i, e⟩ n⟩
    | true =>
      obtain ⟨i, rfl⟩ := hb.1 rfl
      refine iteT_of rfl ?_
      walk_at "rd"
      refine iteB (fun c => ?_) (fun c => ?_)
      · have c := of_decide_eq_true c
        walk_at "rd"
        refine q _ ⟨fun z => ⟨i, rfl, c, of_decide_eq_true z⟩, fun ⟨j, e, h1, h2⟩ => ?_⟩
        cases e
        exact decide_eq_true h2
      · have c := of_decide_eq_false c
        refine q false ⟨fun z => (by cases z), fun ⟨j, e, h1, h2⟩ => ?_⟩
        cases e
        exact absurd h1 c

@[irreducible] def sp_check_part (K : PySem.W.Frag) : Sp := fun vs H Q E => ∃ (x : Str) (v : V) (lo hi : Int), vs = [.str x, v, .int lo, .int hi] ∧ Ov Any H v ∧ (BT v lo hi → Q .non H) ∧ (¬ BT v lo hi → ∀ d, H d = none → E (.ref (He.ga K "InvalidSettings")) (some d) (upd H d (.xd [("part", .str x)])))
theorem use_check_part {K : PySem.W.Frag} {x : Str} {v : V} {lo hi : Int} {H : Hp} {Q : VK} {E : XK} (o : Ov Any H v) (q : BT v lo hi → Q .non H) (e : ¬ BT v lo hi → ∀ d, H d = none → E (.ref (He.ga K "InvalidSettings")) (some d) (upd H d (.xd [("part", .str x)]))) :
  sp_check_part K [.str x, v, .int lo, .int hi] H Q E := by unfold sp_check_part; exact ⟨x, v, lo, hi, rfl, o, q, e⟩
theorem b_check_part {K : PySem.W.Frag} {fd : FuncData} (F : F_check_part K fd) : Binds K fd P_check_part [] := FunD.bindsN F fun _ _ _ _ _ _ us hl => match us, hl with | [_, _, _, _], _ => rfl
theorem ok_check_part (T : Txt K mg D) : FnOk P w K mg base (L2.CX P w) 3 (He.fAd K ("check_part", none)) (D D_check_part) P_check_part (sp_check_part K) := by
  refine T.d_check_part.ok sc_check_part (fun vs H Q E h => ?_) (fun cdv A outer s H vs Q E hr h => ?_)
  · unfold sp_check_part at h
    first | (obtain ⟨rfl, _⟩ := h; rfl) | (obtain ⟨_, rfl, _⟩ := h; rfl) | (obtain ⟨_, _, rfl, _⟩ := h; rfl) | (obtain ⟨_, _, _, rfl, _⟩ := h; rfl) | (obtain ⟨_, _, _, _, rfl, _⟩ := h; rfl) | (obtain ⟨_, _, _, _, _, rfl, _⟩ := h; rfl) | (obtain ⟨_, _, _, _, _, _, rfl, _⟩ := h; rfl) | (obtain ⟨_, _, _, _, _, _, _, rfl, _⟩ := h; rfl) | (obtain ⟨_, _, _, _, _, _, _, _, rfl, _⟩ := h; rfl) | (obtain ⟨_, _, _, _, _, _, _, _, _, rfl, _⟩ := h; rfl) | (obtain ⟨_, _, _, _, _, _, _, _, _, _, rfl, _⟩ := h; rfl) | (obtain ⟨_, _, _, _, _, _, _, _, _, _, _, rfl, _⟩ := h; rfl)
  · refine ⟨_, (pss_one (ps_if (pt_not (pt_val (pe_call (ok_is_between T) (hr.mono (by decide)) rfl T.g_is_between T.d_is_between.kp (b_is_between T.d_is_between) .nil pass0 (pa_cons (pv 1) (pa_cons (pv 2) (pa_cons (pv 3) pa_nil)))))) (pss_one (ps_raise rfl (takes_of rfl rfl rfl rfl) (pmk_le T.le_InvalidSettings T.li_InvalidSettings T.lt_InvalidSettings (ok_InvalidSettings___init__ T) (hr.mono (by decide)) rfl T.g_InvalidSettings (b_InvalidSettings___init__ T.d_InvalidSettings___init__) pass0 (pa_cons (pv 0) pa_nil)))) pss_nil)), ?_⟩
    unfold sp_check_part at h
    obtain ⟨x, v, lo, hi, rfl, o, q, e⟩ := h
    walk_at "rd"
    refine use_between o fun b hb => ?_
    cases b with
    | true =>
      walk_at "rd"
      exact q (hb.1 rfl)
    | false =>
      have n : ¬ BT v lo hi := fun z => by cases hb.2 z
      walk_at "rd"
      exact mk_xi fun d nd => e n d nd

/-- lengths that are right -/
def LG (H : Hp) (L : V) (ns : List Int) : Prop := ∃ l, L = .ref l ∧ H l = some (.lst (ns.map V.int)) ∧ 0 < ns.length ∧ ns.length ≤ 6 ∧ ∀ n ∈ ns, 1 ≤ n ∧ n ≤ 64
/-- a size that is right beside lengths -/
def SZ (ns : List Int) (v : V) : Prop := ∃ i : Int, v = .int i ∧ (∀ n ∈ ns, n ≤ i) ∧ i ≤ 64
/-- the first part that is none -/
inductive FB (H : Hp) (L s f r e k : V) : Str → Prop
  | l (h : ∀ ns, ¬ LG H L ns) : FB H L s f r e k "lengths"
  | s {ns : List Int} (g : LG H L ns) (h : ¬ SZ ns s) : FB H L s f r e k "size"
  | f {ns : List Int} (g : LG H L ns) (g1 : SZ ns s) (h : ¬ BT f 2 8) : FB H L s f r e k "fanout"
  | r {ns : List Int} (g : LG H L ns) (g1 : SZ ns s) (g2 : BT f 2 8) (h : ¬ BT r 1 16) : FB H L s f r e k "records"
  | e {ns : List Int} (g : LG H L ns) (g1 : SZ ns s) (g2 : BT f 2 8) (g3 : BT r 1 16) (h : ¬ BT e 1 40) : FB H L s f r e k "every"
  | k {ns : List Int} (g : LG H L ns) (g1 : SZ ns s) (g2 : BT f 2 8) (g3 : BT r 1 16) (g4 : BT e 1 40) (h : ¬ BT k 1 100) : FB H L s f r e k "keep"
def AG (H : Hp) (L s f r e k : V) : Prop := ∃ ns, LG H L ns ∧ SZ ns s ∧ BT f 2 8 ∧ BT r 1 16 ∧ BT e 1 40 ∧ BT k 1 100
/-- a value in the place of lengths -/
def LV (F : Addr → Prop) (H : Hp) (L : V) : Prop := Ov F H L ∧ ∀ a xs, L = .ref a → H a = some (.lst xs) → xs.length ≤ 1000 ∧ ∀ x ∈ xs, Ov F H x
theorem take_one {xs : List V} {i : Nat} {y : V} (h : xs[i]? = some y) : xs.take (i + 1) = xs.take i ++ [y] := by
  rw [List.take_succ, h]
  rfl
theorem all_ints : ∀ {xs : List V}, (∀ x ∈ xs, BT x 1 64) → ∃ ns : List Int, xs = ns.map V.int ∧ ∀ n ∈ ns, 1 ≤ n ∧ n ≤ 64
  | [], _ => ⟨[], rfl, by simp⟩
  | x :: xs, h => by
    obtain ⟨i, rfl, h1⟩ := h x (by simp)
    obtain ⟨ns, e, h2⟩ := all_ints (xs := xs) fun y hy => h y (by simp [hy])
    refine ⟨i :: ns, by rw [e]; rfl, fun n hn => ?_⟩
    rcases List.mem_cons.mp hn with rfl | hn
    · exact h1
    · exact h2 n hn
@[irreducible] def sp_Settings_init (K : PySem.W.Frag) : Sp := fun vs H Q E => ∃ (a dx : Addr) (L s f r e k : V), vs = [.ref a, L, s, f, r, e, k] ∧ H a = some (.ins (He.ga K "Settings") dx []) ∧ (LV Any H L ∧ Ov Any H s ∧ Ov Any H f ∧ Ov Any H r ∧ Ov Any H e ∧ Ov Any H k) ∧
  (∀ H', SB a H H' → AG H L s f r e k → Q .non H') ∧ (∀ w d H', FB H L s f r e k w → SB a H H' → H' d = some (.xd [("part", .str w)]) → E (.ref (He.ga K "InvalidSettings")) (some d) H')
theorem use_set_init {K : PySem.W.Frag} {a dx : Addr} {L s f r e k : V} {H : Hp} {Q : VK} {E : XK} (ha : H a = some (.ins (He.ga K "Settings") dx [])) (o : LV Any H L ∧ Ov Any H s ∧ Ov Any H f ∧ Ov Any H r ∧ Ov Any H e ∧ Ov Any H k)
  (q : ∀ H', SB a H H' → AG H L s f r e k → Q .non H') (x : ∀ w d H', FB H L s f r e k w → SB a H H' → H' d = some (.xd [("part", .str w)]) → E (.ref (He.ga K "InvalidSettings")) (some d) H') : sp_Settings_init K [.ref a, L, s, f, r, e, k] H Q E := by
  unfold sp_Settings_init; exact ⟨a, dx, L, s, f, r, e, k, rfl, ha, o, q, x⟩
theorem b_Settings___init__ {K : PySem.W.Frag} {fd : FuncData} (F : F_Settings___init__ K fd) : KBn K fd P_Settings___init__ 3 ["fanout", "records", "every", "keep"] (fun us ws => us ++ ws) (fun vs zs => vs ++ zs) := kb_app F 3 ["fanout", "records", "every", "keep"] fun _ _ _ _ _ _ us ws h1 h2 => match us, ws, h1, h2 with | [_, _, _], [_, _, _, _], _, _ => rfl
theorem ok_Settings___init__ (T : Txt K mg D) : FnOk P w K mg base (L2.CX P w) 4 (He.fAd K ("Settings", some "__init__")) (D D_Settings___init__) P_Settings___init__ (sp_Settings_init K) := by
  refine T.d_Settings___init__.ok sc_Settings___init__ (fun vs H Q E h => ?_) (fun cdv A outer s H vs Q E hr h => ?_)
  · unfold sp_Settings_init at h
    first | (obtain ⟨rfl, _⟩ := h; rfl) | (obtain ⟨_, rfl, _⟩ := h; rfl) | (obtain ⟨_, _, rfl, _⟩ := h; rfl) | (obtain ⟨_, _, _, rfl, _⟩ := h; rfl) | (obtain ⟨_, _, _, _, rfl, _⟩ := h; rfl) | (obtain ⟨_, _, _, _, _, rfl, _⟩ := h; rfl) | (obtain ⟨_, _, _, _, _, _, rfl, _⟩ := h; rfl) | (obtain ⟨_, _, _, _, _, _, _, rfl, _⟩ := h; rfl) | (obtain ⟨_, _, _, _, _, _, _, _, rfl, _⟩ := h; rfl) | (obtain ⟨_, _, _, _, _, _, _, _, _, rfl, _⟩ := h; rfl) | (obtain ⟨_, _, _, _, _, _, _, _, _, _, rfl, _⟩ := h; rfl) | (obtain ⟨_, _, _, _, _, _, _, _, _, _, _, rfl, _⟩ := h; rfl)
  · refine ⟨_, (pss_cons (ps_if (PW.pt (pw_or (pt_not (pt_val (pe_callB (call_isiK2 (K := K)) (by rfl) T.n_isinstance (by decide +kernel) (pa_cons (pv 1) (pa_cons (pe_bltn (by rfl) T.n_list (by decide +kernel) (v := .ty "list") rfl) pa_nil))))) (pw_or1 (pt_not (pt_chain op_le op_le pe_int (pe_callB (call_lenK (K := K)) (by rfl) T.n_len (by decide +kernel) (pa_cons (pv 1) pa_nil)) (pe_globi T.i_MOST_LENGTHS)))))) (pss_one (ps_raise rfl (takes_of rfl rfl rfl rfl) (pmk_le T.le_InvalidSettings T.li_InvalidSettings T.lt_InvalidSettings (ok_InvalidSettings___init__ T) (hr.mono (by decide)) rfl T.g_InvalidSettings (b_InvalidSettings___init__ T.d_InvalidSettings___init__) pass0 (pa_cons pe_str pa_nil)))) pss_nil)
      (pss_cons (ps_for (passes_of rfl) rfl (pi_list (pv 1)) (pg_name (i := 7) sc_Settings___init__.nd rfl (Or.inl rfl)) (pss_one (ps_expr (pe_callS (ok_check_part T) (hr.mono (by decide)) rfl T.g_check_part T.d_check_part.kp (b_check_part T.d_check_part) (fun σ => passAt (takes_of rfl rfl rfl rfl) σ) (pa_cons pe_str (pa_cons (pv 7) (pa_cons pe_int (pa_cons (pe_globi T.i_MOST_SIZE) pa_nil))))))))
      (pss_cons (ps_expr (pe_callS (ok_check_part T) (hr.mono (by decide)) rfl T.g_check_part T.d_check_part.kp (b_check_part T.d_check_part) (fun σ => passAt (takes_of rfl rfl rfl rfl) σ) (pa_cons pe_str (pa_cons (pv 2) (pa_cons (pe_callB (cr_maxK (K := K) rfl) (by rfl) T.n_max (by decide +kernel) (pa_cons (pv 1) pa_nil)) (pa_cons (pe_globi T.i_MOST_SIZE) pa_nil))))))
      (pss_cons (ps_expr (pe_callS (ok_check_part T) (hr.mono (by decide)) rfl T.g_check_part T.d_check_part.kp (b_check_part T.d_check_part) (fun σ => passAt (takes_of rfl rfl rfl rfl) σ) (pa_cons pe_str (pa_cons (pv 3) (pa_cons pe_int (pa_cons (pe_globi T.i_MOST_FANOUT) pa_nil))))))
      (pss_cons (ps_expr (pe_callS (ok_check_part T) (hr.mono (by decide)) rfl T.g_check_part T.d_check_part.kp (b_check_part T.d_check_part) (fun σ => passAt (takes_of rfl rfl rfl rfl) σ) (pa_cons pe_str (pa_cons (pv 4) (pa_cons pe_int (pa_cons (pe_globi T.i_MOST_RECORDS) pa_nil))))))
      (pss_cons (ps_expr (pe_callS (ok_check_part T) (hr.mono (by decide)) rfl T.g_check_part T.d_check_part.kp (b_check_part T.d_check_part) (fun σ => passAt (takes_of rfl rfl rfl rfl) σ) (pa_cons pe_str (pa_cons (pv 5) (pa_cons pe_int (pa_cons (pe_globi T.i_MOST_EVERY) pa_nil))))))
      (pss_cons (ps_expr (pe_callS (ok_check_part T) (hr.mono (by decide)) rfl T.g_check_part T.d_check_part.kp (b_check_part T.d_check_part) (fun σ => passAt (takes_of rfl rfl rfl rfl) σ) (pa_cons pe_str (pa_cons (pv 6) (pa_cons pe_int (pa_cons (pe_globi T.i_MOST_KEEP) pa_nil))))))
      (pss_cons (ps_fld (pv 0) (pe_callTy (call_tupK (K := K)) (by rfl) T.n_tuple (by decide +kernel) (pa_cons (pv 1) pa_nil)) rfl)
      (pss_cons (ps_fld (pv 0) (pv 2) rfl)
      (pss_cons (ps_fld (pv 0) (pv 3) rfl)
      (pss_cons (ps_fld (pv 0) (pv 4) rfl)
      (pss_cons (ps_fld (pv 0) (pv 5) rfl)
      (pss_one (ps_fld (pv 0) (pv 6) rfl)))))))))))))), ?_⟩
    unfold sp_Settings_init at h
    obtain ⟨a, dx, L, s, f, r, e, k, rfl, ha, ⟨oL, os, of, or_, oe, ok⟩, q, x⟩ := h
    have up : ∀ w, FB H L s f r e k w → ∀ d, H d = none → E (.ref (He.ga K "InvalidSettings")) (some d) (upd H d (.xd [("part", .str w)])) := fun w fb d nd => x w d _ fb (same_new nd).sb upd_same
    walk_at "rd"
    refine oL.1.islist (fun l xs eL hl => ?_) (fun n => ?_)
    rotate_left
    · walk_at "rd"
      exact mk_xi2 (up _ (.l fun ns ⟨l, e, h, _⟩ => n l _ e h))
    subst eL
    have oxs := (oL.2 l xs rfl hl).2
    have hz := (oL.2 l xs rfl hl).1
    have nl : (∀ ns : List Int, xs = ns.map V.int → ¬ (0 < ns.length ∧ ns.length ≤ 6 ∧ ∀ n ∈ ns, 1 ≤ n ∧ n ≤ 64)) → ∀ ns, ¬ LG H (.ref l) ns := fun h ns ⟨l2, e2, h2, h3⟩ => by
      cases e2
      rw [hl] at h2
      have e3 : xs = ns.map V.int := by cases h2; rfl
      exact h ns e3 h3
    walk_at "rd"
    refine iteB (fun c1 => ?_) (fun c1 => ?_)
    rotate_left
    · have c1 := of_decide_eq_false c1
      walk_at "rd"
      exact mk_xi2 (up _ (.l (nl fun ns e2 h2 => by subst e2; rw [List.length_map] at c1; omega)))
    have c1 := of_decide_eq_true c1
    walk_at "rd"
    refine iteB (fun c2 => ?_) (fun c2 => ?_)
    · have c2 : ¬ (xs.length : Int) ≤ 6 := by simpa using c2
      walk_at "rd"
      exact mk_xi2 (up _ (.l (nl fun ns e2 h2 => by subst e2; rw [List.length_map] at c2; omega)))
    have c2 : (xs.length : Int) ≤ 6 := by simpa using c2
    walk_at "rd"
    refine for_list (xs := xs) (fun i σ H' => H' = H ∧ (∀ x ∈ xs.take i, BT x 1 64) ∧ ∃ v : Option V, σ = [some (.ref a), some (.ref l), some s, some f, some r, some e, some k, v]) ⟨rfl, by simp, _, rfl⟩ ?_ ?_ ?_
    · rintro i σ H' _ ⟨rfl, _⟩
      exact SqL.of hl
    · rintro i y σ H' hy ⟨rfl, hb, v, rfl⟩
      walk_at "rd"
      refine use_check_part (oxs y (List.mem_of_getElem? hy)) (fun b => ?_) (fun b => ?_)
      · walk_at "rd"
        refine ⟨fun z hz => ?_, _, rfl⟩
        rw [take_one hy] at hz
        rcases List.mem_append.mp hz with h | h
        · exact hb z h
        · rw [List.mem_singleton.mp h]
          exact b
      · exact up _ (.l (nl fun ns e2 h2 => b (by
          obtain ⟨n, hn, e3⟩ := List.mem_map.mp (e2 ▸ List.mem_of_getElem? hy)
          exact ⟨n, e3.symm, h2.2.2 n hn⟩)))
    · rintro σ H' ⟨rfl, hb, v, rfl⟩
      rw [List.take_length] at hb
      obtain ⟨ns, rfl, hn⟩ := all_ints hb
      have lg : LG H' (.ref l) ns := by
        rw [List.length_map] at c1 c2
        exact ⟨l, rfl, hl, by omega, by omega, hn⟩
      have l0 : 0 < ns.length := by
        rw [List.length_map] at c1
        omega
      walk_at "rd"
      refine ⟨_, _, rfl, SqL.of hl, l0, fun m hm hm2 => ?_⟩
      have sz : BT s m 64 ↔ SZ ns s := ⟨fun ⟨i, e, h1, h2⟩ => ⟨i, e, fun n hn => Int.le_trans (hm2 n hn) h1, h2⟩, fun ⟨i, e, h1, h2⟩ => ⟨i, e, h1 m hm, h2⟩⟩
      walk_at "rd"
      refine use_check_part os (fun b1 => ?_) (fun b => up _ (.s lg fun z => b (sz.2 z)))
      have b1 := sz.1 b1
      walk_at "rd"
      refine use_check_part of (fun b2 => ?_) (fun b => up _ (.f lg b1 b))
      walk_at "rd"
      refine use_check_part or_ (fun b3 => ?_) (fun b => up _ (.r lg b1 b2 b))
      walk_at "rd"
      refine use_check_part oe (fun b4 => ?_) (fun b => up _ (.e lg b1 b2 b3 b))
      walk_at "rd"
      refine use_check_part ok (fun b5 => ?_) (fun b => up _ (.k lg b1 b2 b3 b4 b))
      walk_at "rd"
      refine ⟨_, _, rfl, .inl ⟨SqL.of hl, ?_⟩⟩
      intro t n0
      generalize eG0 : upd _ t _ = G0
      obtain ⟨g0, ht⟩ := gen_new n0 eG0
      clear eG0
      have ha0 := g0 _ _ ha
      walk_at "rd"
      generalize eG1 : upd _ _ _ = G1
      obtain ⟨g1, h1⟩ := gen_st eG1
      clear eG1
      try simp only [pf_Settings_0, pf_Settings_1, pf_Settings_2, pf_Settings_3, pf_Settings_4, pf_Settings_5] at h1
      walk_at "rd"
      generalize eG2 : upd _ _ _ = G2
      obtain ⟨g2, h2⟩ := gen_st eG2
      clear eG2
      try simp only [pf_Settings_0, pf_Settings_1, pf_Settings_2, pf_Settings_3, pf_Settings_4, pf_Settings_5] at h2
      walk_at "rd"
      generalize eG3 : upd _ _ _ = G3
      obtain ⟨g3, h3⟩ := gen_st eG3
      clear eG3
      try simp only [pf_Settings_0, pf_Settings_1, pf_Settings_2, pf_Settings_3, pf_Settings_4, pf_Settings_5] at h3
      walk_at "rd"
      generalize eG4 : upd _ _ _ = G4
      obtain ⟨g4, h4⟩ := gen_st eG4
      clear eG4
      try simp only [pf_Settings_0, pf_Settings_1, pf_Settings_2, pf_Settings_3, pf_Settings_4, pf_Settings_5] at h4
      walk_at "rd"
      generalize eG5 : upd _ _ _ = G5
      obtain ⟨g5, h5⟩ := gen_st eG5
      clear eG5
      try simp only [pf_Settings_0, pf_Settings_1, pf_Settings_2, pf_Settings_3, pf_Settings_4, pf_Settings_5] at h5
      walk_at "rd"
      generalize eG6 : upd _ _ _ = G6
      obtain ⟨g6, h6⟩ := gen_st eG6
      clear eG6
      try simp only [pf_Settings_0, pf_Settings_1, pf_Settings_2, pf_Settings_3, pf_Settings_4, pf_Settings_5] at h6
      exact q G6 ((((((g0.sb.trans g1).trans g2).trans g3).trans g4).trans g5).trans g6) ⟨ns, lg, b1, b2, b3, b4, b5⟩

/-- a value in the place of lengths that is none; objects keep F -/
inductive OdL (F : Addr → Prop) (H : Hp) : V → Prop
  | non : OdL F H .non
  | int (i : Int) : OdL F H (.int i)
  | str (s : Str) : OdL F H (.str s)
  | tup {a : Addr} {xs : List V} (f : F a) (h : H a = some (.tup xs)) : OdL F H (.ref a)
  | dct {a : Addr} {xs : List (Key × V)} (f : F a) (h : H a = some (.dK xs)) : OdL F H (.ref a)
  | lst {a : Addr} {xs : List V} (f : F a) (h : H a = some (.lst xs)) (z : xs.length ≤ 1000) (o : ∀ x ∈ xs, Ov F H x) (b : ∀ ns : List Int, xs = ns.map V.int → ¬ (0 < ns.length ∧ ns.length ≤ 6 ∧ ∀ n ∈ ns, 1 ≤ n ∧ n ≤ 64)) : OdL F H (.ref a)
theorem OdL.mono {F G : Addr → Prop} {H H' : Hp} {v : V} (h : OdL F H v) (k : ∀ a o, F a → H a = some o → H' a = some o) (g : ∀ a, F a → G a) : OdL G H' v := by
  cases h with
  | non => exact .non
  | int i => exact .int i
  | str s => exact .str s
  | tup f h => exact .tup (g _ f) (k _ _ f h)
  | dct f h => exact .dct (g _ f) (k _ _ f h)
  | lst f h z o b => exact .lst (g _ f) (k _ _ f h) z (fun x hx => (o x hx).mono k g) b
theorem OdL.lv {F : Addr → Prop} {H : Hp} {v : V} (h : OdL F H v) : LV Any H v := by
  have up : ∀ a, F a → Any a := fun _ _ => True.intro
  have kp : ∀ a o, F a → H a = some o → H a = some o := fun _ _ _ e => e
  cases h with
  | non => exact ⟨.non, fun _ _ e => by cases e⟩
  | int i => exact ⟨.int i, fun _ _ e => by cases e⟩
  | str s => exact ⟨.str s, fun _ _ e => by cases e⟩
  | tup f h => exact ⟨.tup True.intro h, fun a xs e h2 => by cases e; rw [h] at h2; cases h2⟩
  | dct f h => exact ⟨.dct True.intro h, fun a xs e h2 => by cases e; rw [h] at h2; cases h2⟩
  | lst f h z o b => exact ⟨.lst True.intro h, fun a xs e h2 => by cases e; rw [h] at h2; cases h2; exact ⟨z, fun x hx => (o x hx).mono kp up⟩⟩
theorem OdL.bad {F : Addr → Prop} {H : Hp} {v : V} (h : OdL F H v) (ns : List Int) : ¬ LG H v ns := fun ⟨l, e, h2, h3⟩ => by
  subst e
  cases h with
  | tup f h => rw [h] at h2; cases h2
  | dct f h => rw [h] at h2; cases h2
  | lst f h z o b => rw [h] at h2; cases h2; exact b ns rfl h3
/-- what is right at a place -/
def InR (p : Prt) (i : Nat) (j : Int) : Prop := match i with
  | 1 => (∀ n ∈ p.lens, n ≤ j) ∧ j ≤ 64
  | 2 => 2 ≤ j ∧ j ≤ 8
  | 3 => 1 ≤ j ∧ j ≤ 16
  | 4 => 1 ≤ j ∧ j ≤ 40
  | 5 => 1 ≤ j ∧ j ≤ 100
  | _ => False
/-- what is none at a place -/
def Od (F : Addr → Prop) (H : Hp) (p : Prt) (i : Nat) (v : V) : Prop := (i = 0 → OdL F H v) ∧ (i ≠ 0 → Ov F H v ∧ ∀ j, v = .int j → ¬ InR p i j)
theorem Od.mono {F G : Addr → Prop} {H H' : Hp} {p : Prt} {i : Nat} {v : V} (h : Od F H p i v) (k : ∀ a o, F a → H a = some o → H' a = some o) (g : ∀ a, F a → G a) : Od G H' p i v :=
  ⟨fun e => (h.1 e).mono k g, fun e => ⟨(h.2 e).1.mono k g, (h.2 e).2⟩⟩
theorem bad_mem {xs : List V} {x : V} (hx : x ∈ xs) (h : ∀ n, x = .int n → ¬ (1 ≤ n ∧ n ≤ 64)) : ∀ ns : List Int, xs = ns.map V.int → ¬ (0 < ns.length ∧ ns.length ≤ 6 ∧ ∀ n ∈ ns, 1 ≤ n ∧ n ≤ 64) := fun ns e z => by
  subst e
  obtain ⟨n, hn, rfl⟩ := List.mem_map.mp hx
  exact h n rfl (z.2.2 n hn)
theorem bad_len {xs : List V} (h : xs.length = 0 ∨ 6 < xs.length) : ∀ ns : List Int, xs = ns.map V.int → ¬ (0 < ns.length ∧ ns.length ≤ 6 ∧ ∀ n ∈ ns, 1 ≤ n ∧ n ≤ 64) := fun ns e z => by
  subst e
  rw [List.length_map] at h
  omega
theorem ov0 {F : Addr → Prop} {H : Hp} : ∀ y ∈ ([] : List V), Ov F H y := fun y h => (nomatch h)
theorem ov1 {F : Addr → Prop} {H : Hp} {x : V} {xs : List V} (h : Ov F H x) (r : ∀ y ∈ xs, Ov F H y) : ∀ y ∈ x :: xs, Ov F H y := fun y hy => by
  rcases List.mem_cons.mp hy with rfl | hy
  · exact h
  · exact r y hy
theorem inR_le {p : Prt} (ok : p.Ok) {i : Nat} {j : Int} (h : InR p i j) : 1 ≤ j ∧ j ≤ 100 := by
  match i, h with
  | 1, h =>
    obtain ⟨x, hx⟩ := List.exists_mem_of_length_pos ok.l0
    have h1 := h.1 x hx
    have h2 := (ok.le x hx).1
    have h3 := h.2
    omega
  | 2, h => have h : 2 ≤ j ∧ j ≤ 8 := h; omega
  | 3, h => have h : 1 ≤ j ∧ j ≤ 16 := h; omega
  | 4, h => have h : 1 ≤ j ∧ j ≤ 40 := h; omega
  | 5, h => have h : 1 ≤ j ∧ j ≤ 100 := h; omega
/-- the odd values of all places but the first -/
theorem od_int {F : Addr → Prop} {H : Hp} {p : Prt} {i : Nat} {v : V} (h0 : (i : Int) ≠ 0) (o : Ov F H v) (n : ∀ j, v = .int j → ¬ InR p i j) : Od F H p i v := ⟨fun e => absurd (by rw [e]; rfl) h0, fun _ => ⟨o, n⟩⟩
@[irreducible] def sp_law_odd : Sp := fun vs H Q _ => ∃ (s a : Addr) (i : Nat) (p : Prt), vs = [.ref s, .ref a, .int (i : Int)] ∧ Src H s ∧ PrtAt H a p ∧ p.Ok ∧ i < 6 ∧
  ∀ v H', SB s H H' → Src H' s → (∀ F : Addr → Prop, (∀ b, H b = none → F b) → Od F H' p i v) → Q v H'
theorem use_odd {s a : Addr} {i : Nat} {p : Prt} {H : Hp} {Q : VK} {E : XK} (hs : Src H s) (ha : PrtAt H a p) (ok : p.Ok) (hi : i < 6) (k : ∀ v H', SB s H H' → Src H' s → (∀ F : Addr → Prop, (∀ b, H b = none → F b) → Od F H' p i v) → Q v H') :
  sp_law_odd [.ref s, .ref a, .int (i : Int)] H Q E := by unfold sp_law_odd; exact ⟨s, a, i, p, rfl, hs, ha, ok, hi, k⟩
theorem b_law_odd {K : PySem.W.Frag} {fd : FuncData} (F : F_law_odd K fd) : Binds K fd P_law_odd [] := FunD.bindsN F fun _ _ _ _ _ _ us hl => match us, hl with | [_, _, _], _ => rfl
theorem ok_law_odd (T : Txt K mg D) : FnOk P w K mg base CX0 4 (He.fAd K ("_law_odd", none)) (D D_law_odd) P_law_odd sp_law_odd := by
  refine T.d_law_odd.ok sc_law_odd (fun vs H Q E h => ?_) (fun cdv A outer s H vs Q E hr h => ?_)
  · unfold sp_law_odd at h
    first | (obtain ⟨rfl, _⟩ := h; rfl) | (obtain ⟨_, rfl, _⟩ := h; rfl) | (obtain ⟨_, _, rfl, _⟩ := h; rfl) | (obtain ⟨_, _, _, rfl, _⟩ := h; rfl) | (obtain ⟨_, _, _, _, rfl, _⟩ := h; rfl) | (obtain ⟨_, _, _, _, _, rfl, _⟩ := h; rfl) | (obtain ⟨_, _, _, _, _, _, rfl, _⟩ := h; rfl) | (obtain ⟨_, _, _, _, _, _, _, rfl, _⟩ := h; rfl) | (obtain ⟨_, _, _, _, _, _, _, _, rfl, _⟩ := h; rfl) | (obtain ⟨_, _, _, _, _, _, _, _, _, rfl, _⟩ := h; rfl) | (obtain ⟨_, _, _, _, _, _, _, _, _, _, rfl, _⟩ := h; rfl) | (obtain ⟨_, _, _, _, _, _, _, _, _, _, _, rfl, _⟩ := h; rfl)
  · refine ⟨_, PSs.nox (pss_cons (ps_set (i := 3) sc_law_odd.nd rfl (Or.inl rfl) (pe_lst (pa_cons pe_non (pa_cons pe_bl (pa_cons pe_str (pa_cons (pe_lst (pa_cons pe_int pa_nil)) (pa_cons (pe_tup (pa_cons pe_int pa_nil)) (pa_cons pe_dnewK (pa_cons (pe_un un_neg pe_int) (pa_cons (pe_powc (c := 1000000000000000000000000000000) (by decide)) (pa_cons pe_bl pa_nil)))))))))))
      (pss_cons (ps_if (pt_cmpR op_eq (pv 2) pe_int (nomark _)) (pss_one (ps_set (i := 3) sc_law_odd.nd rfl (Or.inl rfl) (pe_lst (pa_cons pe_non (pa_cons pe_int (pa_cons pe_str (pa_cons (pe_tup (pa_cons pe_int (pa_cons pe_int pa_nil))) (pa_cons pe_dnewK (pa_cons (pe_lst pa_nil) (pa_cons (pe_op op_rep (pe_lst (pa_cons pe_int pa_nil)) pe_int) (pa_cons (pe_lst (pa_cons pe_int pa_nil)) (pa_cons (pe_lst (pa_cons pe_int (pa_cons pe_int pa_nil))) (pa_cons (pe_lst (pa_cons pe_bl pa_nil)) (pa_cons (pe_lst (pa_cons pe_int (pa_cons pe_non pa_nil))) (pa_cons (pe_lst (pa_cons pe_int (pa_cons pe_str pa_nil))) (pa_cons (pe_lst (pa_cons (pe_lst (pa_cons pe_int pa_nil)) pa_nil)) (pa_cons (pe_lst (pa_cons pe_int (pa_cons (pe_un un_neg pe_int) pa_nil))) pa_nil))))))))))))))))) (pss_one (ps_if (pt_cmpR op_eq (pv 2) pe_int (nomark _)) (pss_one (ps_set (i := 3) sc_law_odd.nd rfl (Or.inl rfl) (pe_op (op_catSK (K := K)) (pv 3) (pe_lst (pa_cons (pe_op op_sub (pe_callB (cr_maxK (K := K) rfl) (by rfl) T.n_max (by decide +kernel) (pa_cons (pe_ix (ix_listK (K := K)) (pv 1) pe_int (fun _ _ => rfl)) pa_nil)) pe_int) (pa_cons pe_int (pa_cons pe_int pa_nil))))))) (pss_one (ps_set (i := 3) sc_law_odd.nd rfl (Or.inl rfl) (pe_op (op_catSK (K := K)) (pv 3) (pe_lst (pa_cons (pe_ix (ix_listK (K := K)) (pe_lst (pa_cons pe_int (pa_cons pe_int (pa_cons pe_int (pa_cons pe_int (pa_cons pe_int (pa_cons pe_int pa_nil))))))) (pv 2) (fun _ _ => rfl)) (pa_cons (pe_ix (ix_listK (K := K)) (pe_lst (pa_cons pe_int (pa_cons pe_int (pa_cons pe_int (pa_cons pe_int (pa_cons pe_int (pa_cons pe_int pa_nil))))))) (pv 2) (fun _ _ => rfl)) pa_nil)))))))))
      (pss_one (ps_ret (pe_call (ok_law_pick T) (hr.mono (by decide)) rfl T.g_law_pick T.d_law_pick.kp (b_law_pick T.d_law_pick) .nil pass0 (pa_cons (pv 0) (pa_cons (pv 3) pa_nil))))))), ?_⟩
    unfold sp_law_odd at h
    obtain ⟨s, a, i, p, rfl, hs, hp, ok, hi, k⟩ := h
    obtain ⟨l, ha, hl⟩ := id hp
    obtain ⟨a0, b0, c0, hs0⟩ := id hs
    have m0 : Same H H := Same.refl _
    walk_at "rd"
    intro p1 np1
    generalize eGp1 : upd _ p1 _ = Gp1
    obtain ⟨gp1, cp1⟩ := gen_new np1 eGp1
    clear eGp1
    have fp1 : H p1 = none := m0.free np1
    have mp1 : Same H Gp1 := m0.trans gp1
    walk_at "rd"
    intro p2 np2
    generalize eGp2 : upd _ p2 _ = Gp2
    obtain ⟨gp2, cp2⟩ := gen_new np2 eGp2
    clear eGp2
    have fp2 : H p2 = none := mp1.free np2
    have mp2 : Same H Gp2 := mp1.trans gp2
    walk_at "rd"
    intro p3 np3
    generalize eGp3 : upd _ p3 _ = Gp3
    obtain ⟨gp3, cp3⟩ := gen_new np3 eGp3
    clear eGp3
    have fp3 : H p3 = none := mp2.free np3
    have mp3 : Same H Gp3 := mp2.trans gp3
    walk_at "rd"
    intro p4 np4
    generalize eGp4 : upd _ p4 _ = Gp4
    obtain ⟨gp4, cp4⟩ := gen_new np4 eGp4
    clear eGp4
    have fp4 : H p4 = none := mp3.free np4
    have mp4 : Same H Gp4 := mp3.trans gp4
    walk_at "rd"
    refine iteB (fun cc => ?_) (fun cc => ?_)
    · have i0 : (i : Int) = 0 := by have := of_decide_eq_true cc; injection this
      obtain rfl : i = 0 := by omega
      walk_at "rd"
      intro t1 nt1
      generalize eGt1 : upd _ t1 _ = Gt1
      obtain ⟨gt1, ct1⟩ := gen_new nt1 eGt1
      clear eGt1
      have ft1 : H t1 = none := mp4.free nt1
      have mt1 : Same H Gt1 := mp4.trans gt1
      walk_at "rd"
      intro d1 nd1
      generalize eGd1 : upd _ d1 _ = Gd1
      obtain ⟨gd1, cd1⟩ := gen_new nd1 eGd1
      clear eGd1
      have fd1 : H d1 = none := mt1.free nd1
      have md1 : Same H Gd1 := mt1.trans gd1
      walk_at "rd"
      intro e1 ne1
      generalize eGe1 : upd _ e1 _ = Ge1
      obtain ⟨ge1, ce1⟩ := gen_new ne1 eGe1
      clear eGe1
      have fe1 : H e1 = none := md1.free ne1
      have me1 : Same H Ge1 := md1.trans ge1
      walk_at "rd"
      intro r0 nr0
      generalize eGr0 : upd _ r0 _ = Gr0
      obtain ⟨gr0, cr0⟩ := gen_new nr0 eGr0
      clear eGr0
      have fr0 : H r0 = none := me1.free nr0
      have mr0 : Same H Gr0 := me1.trans gr0
      walk_at "rd"
      refine ⟨_, 7, _, rfl, rfl, cr0, by decide, by decide, szl (Nat.le_of_ble_eq_true rfl), ?_⟩
      intro r1 nr1
      generalize eGr1 : upd _ r1 _ = Gr1
      obtain ⟨gr1, cr1⟩ := gen_new nr1 eGr1
      clear eGr1
      have fr1 : H r1 = none := mr0.free nr1
      have mr1 : Same H Gr1 := mr0.trans gr1
      walk_at "rd"
      intro z0 nz0
      generalize eGz0 : upd _ z0 _ = Gz0
      obtain ⟨gz0, cz0⟩ := gen_new nz0 eGz0
      clear eGz0
      have fz0 : H z0 = none := mr1.free nz0
      have mz0 : Same H Gz0 := mr1.trans gz0
      walk_at "rd"
      intro z1 nz1
      generalize eGz1 : upd _ z1 _ = Gz1
      obtain ⟨gz1, cz1⟩ := gen_new nz1 eGz1
      clear eGz1
      have fz1 : H z1 = none := mz0.free nz1
      have mz1 : Same H Gz1 := mz0.trans gz1
      walk_at "rd"
      intro z2 nz2
      generalize eGz2 : upd _ z2 _ = Gz2
      obtain ⟨gz2, cz2⟩ := gen_new nz2 eGz2
      clear eGz2
      have fz2 : H z2 = none := mz1.free nz2
      have mz2 : Same H Gz2 := mz1.trans gz2
      walk_at "rd"
      intro z3 nz3
      generalize eGz3 : upd _ z3 _ = Gz3
      obtain ⟨gz3, cz3⟩ := gen_new nz3 eGz3
      clear eGz3
      have fz3 : H z3 = none := mz2.free nz3
      have mz3 : Same H Gz3 := mz2.trans gz3
      walk_at "rd"
      intro z4 nz4
      generalize eGz4 : upd _ z4 _ = Gz4
      obtain ⟨gz4, cz4⟩ := gen_new nz4 eGz4
      clear eGz4
      have fz4 : H z4 = none := mz3.free nz4
      have mz4 : Same H Gz4 := mz3.trans gz4
      walk_at "rd"
      intro i5 ni5
      generalize eGi5 : upd _ i5 _ = Gi5
      obtain ⟨gi5, ci5⟩ := gen_new ni5 eGi5
      clear eGi5
      have fi5 : H i5 = none := mz4.free ni5
      have mi5 : Same H Gi5 := mz4.trans gi5
      walk_at "rd"
      intro o5 no5
      generalize eGo5 : upd _ o5 _ = Go5
      obtain ⟨go5, co5⟩ := gen_new no5 eGo5
      clear eGo5
      have fo5 : H o5 = none := mi5.free no5
      have mo5 : Same H Go5 := mi5.trans go5
      walk_at "rd"
      intro z6 nz6
      generalize eGz6 : upd _ z6 _ = Gz6
      obtain ⟨gz6, cz6⟩ := gen_new nz6 eGz6
      clear eGz6
      have fz6 : H z6 = none := mo5.free nz6
      have mz6 : Same H Gz6 := mo5.trans gz6
      walk_at "rd"
      intro L nL
      generalize eGL : upd _ L _ = GL
      obtain ⟨gL, cL⟩ := gen_new nL eGL
      clear eGL
      have fL : H L = none := mz6.free nL
      have mL : Same H GL := mz6.trans gL
      walk_at "rd"
      have ep1 := gL _ _ (gz6 _ _ (go5 _ _ (gi5 _ _ (gz4 _ _ (gz3 _ _ (gz2 _ _ (gz1 _ _ (gz0 _ _ (gr1 _ _ (gr0 _ _ (ge1 _ _ (gd1 _ _ (gt1 _ _ (gp4 _ _ (gp3 _ _ (gp2 _ _ cp1))))))))))))))))
      have ep2 := gL _ _ (gz6 _ _ (go5 _ _ (gi5 _ _ (gz4 _ _ (gz3 _ _ (gz2 _ _ (gz1 _ _ (gz0 _ _ (gr1 _ _ (gr0 _ _ (ge1 _ _ (gd1 _ _ (gt1 _ _ (gp4 _ _ (gp3 _ _ cp2)))))))))))))))
      have ep3 := gL _ _ (gz6 _ _ (go5 _ _ (gi5 _ _ (gz4 _ _ (gz3 _ _ (gz2 _ _ (gz1 _ _ (gz0 _ _ (gr1 _ _ (gr0 _ _ (ge1 _ _ (gd1 _ _ (gt1 _ _ (gp4 _ _ cp3))))))))))))))
      have ep4 := gL _ _ (gz6 _ _ (go5 _ _ (gi5 _ _ (gz4 _ _ (gz3 _ _ (gz2 _ _ (gz1 _ _ (gz0 _ _ (gr1 _ _ (gr0 _ _ (ge1 _ _ (gd1 _ _ (gt1 _ _ cp4)))))))))))))
      have et1 := gL _ _ (gz6 _ _ (go5 _ _ (gi5 _ _ (gz4 _ _ (gz3 _ _ (gz2 _ _ (gz1 _ _ (gz0 _ _ (gr1 _ _ (gr0 _ _ (ge1 _ _ (gd1 _ _ ct1))))))))))))
      have ed1 := gL _ _ (gz6 _ _ (go5 _ _ (gi5 _ _ (gz4 _ _ (gz3 _ _ (gz2 _ _ (gz1 _ _ (gz0 _ _ (gr1 _ _ (gr0 _ _ (ge1 _ _ cd1)))))))))))
      have ee1 := gL _ _ (gz6 _ _ (go5 _ _ (gi5 _ _ (gz4 _ _ (gz3 _ _ (gz2 _ _ (gz1 _ _ (gz0 _ _ (gr1 _ _ (gr0 _ _ ce1))))))))))
      have er0 := gL _ _ (gz6 _ _ (go5 _ _ (gi5 _ _ (gz4 _ _ (gz3 _ _ (gz2 _ _ (gz1 _ _ (gz0 _ _ (gr1 _ _ cr0)))))))))
      have er1 := gL _ _ (gz6 _ _ (go5 _ _ (gi5 _ _ (gz4 _ _ (gz3 _ _ (gz2 _ _ (gz1 _ _ (gz0 _ _ cr1))))))))
      have ez0 := gL _ _ (gz6 _ _ (go5 _ _ (gi5 _ _ (gz4 _ _ (gz3 _ _ (gz2 _ _ (gz1 _ _ cz0)))))))
      have ez1 := gL _ _ (gz6 _ _ (go5 _ _ (gi5 _ _ (gz4 _ _ (gz3 _ _ (gz2 _ _ cz1))))))
      have ez2 := gL _ _ (gz6 _ _ (go5 _ _ (gi5 _ _ (gz4 _ _ (gz3 _ _ cz2)))))
      have ez3 := gL _ _ (gz6 _ _ (go5 _ _ (gi5 _ _ (gz4 _ _ cz3))))
      have ez4 := gL _ _ (gz6 _ _ (go5 _ _ (gi5 _ _ cz4)))
      have ei5 := gL _ _ (gz6 _ _ (go5 _ _ ci5))
      have eo5 := gL _ _ (gz6 _ _ co5)
      have ez6 := gL _ _ cz6
      have eL := cL
      refine use_pick eL (ne_of_none hs0 fL).symm (by walk_at "sd") ⟨_, _, _, mL _ _ hs0⟩ fun v HB hv sB hsB => ?_
      have fin : SB s H HB := mL.sb.trans sB
      refine k v HB fin hsB fun F hF => ?_
      have hp1 := sB _ _ (ne_of_none hs0 fp1).symm ep1
      have hp2 := sB _ _ (ne_of_none hs0 fp2).symm ep2
      have hp3 := sB _ _ (ne_of_none hs0 fp3).symm ep3
      have hp4 := sB _ _ (ne_of_none hs0 fp4).symm ep4
      have ht1 := sB _ _ (ne_of_none hs0 ft1).symm et1
      have hd1 := sB _ _ (ne_of_none hs0 fd1).symm ed1
      have he1 := sB _ _ (ne_of_none hs0 fe1).symm ee1
      have hr0 := sB _ _ (ne_of_none hs0 fr0).symm er0
      have hr1 := sB _ _ (ne_of_none hs0 fr1).symm er1
      have hz0 := sB _ _ (ne_of_none hs0 fz0).symm ez0
      have hz1 := sB _ _ (ne_of_none hs0 fz1).symm ez1
      have hz2 := sB _ _ (ne_of_none hs0 fz2).symm ez2
      have hz3 := sB _ _ (ne_of_none hs0 fz3).symm ez3
      have hz4 := sB _ _ (ne_of_none hs0 fz4).symm ez4
      have hi5 := sB _ _ (ne_of_none hs0 fi5).symm ei5
      have ho5 := sB _ _ (ne_of_none hs0 fo5).symm eo5
      have hz6 := sB _ _ (ne_of_none hs0 fz6).symm ez6
      have hL := sB _ _ (ne_of_none hs0 fL).symm eL
      simp only [List.mem_cons, List.mem_append, List.mem_nil_iff, or_false, or_assoc, List.cons_append, List.nil_append, List.append_nil] at hv
      rcases hv with rfl | rfl | rfl | rfl | rfl | rfl | rfl | rfl | rfl | rfl | rfl | rfl | rfl | rfl
      · exact ⟨fun _ => .non, fun z => absurd rfl z⟩
      · exact ⟨fun _ => .int 5, fun z => absurd rfl z⟩
      · exact ⟨fun _ => .str _, fun z => absurd rfl z⟩
      · exact ⟨fun _ => .tup (hF _ ft1) ht1, fun z => absurd rfl z⟩
      · exact ⟨fun _ => .dct (hF _ fd1) hd1, fun z => absurd rfl z⟩
      · exact ⟨fun _ => .lst (hF _ fe1) he1 (Nat.le_of_ble_eq_true rfl) ov0 (bad_len (.inl rfl)), fun z => absurd rfl z⟩
      · exact ⟨fun _ => .lst (hF _ fr1) hr1 (Nat.le_of_ble_eq_true rfl) (ov1 (.int 1) (ov1 (.int 1) (ov1 (.int 1) (ov1 (.int 1) (ov1 (.int 1) (ov1 (.int 1) (ov1 (.int 1) ov0))))))) (bad_len (.inr (by decide))), fun z => absurd rfl z⟩
      · exact ⟨fun _ => .lst (hF _ fz0) hz0 (Nat.le_of_ble_eq_true rfl) (ov1 (.int 0) ov0) (bad_mem (x := .int 0) (by simp) fun n e => by cases e; decide), fun z => absurd rfl z⟩
      · exact ⟨fun _ => .lst (hF _ fz1) hz1 (Nat.le_of_ble_eq_true rfl) (ov1 (.int 1) (ov1 (.int 65) ov0)) (bad_mem (x := .int 65) (by simp) fun n e => by cases e; decide), fun z => absurd rfl z⟩
      · exact ⟨fun _ => .lst (hF _ fz2) hz2 (Nat.le_of_ble_eq_true rfl) (ov1 (.bl true) ov0) (bad_mem (x := .bl true) (by simp) fun n e => by cases e), fun z => absurd rfl z⟩
      · exact ⟨fun _ => .lst (hF _ fz3) hz3 (Nat.le_of_ble_eq_true rfl) (ov1 (.int 1) (ov1 .non ov0)) (bad_mem (x := .non) (by simp) fun n e => by cases e), fun z => absurd rfl z⟩
      · exact ⟨fun _ => .lst (hF _ fz4) hz4 (Nat.le_of_ble_eq_true rfl) (ov1 (.int 1) (ov1 (.str _) ov0)) (bad_mem (x := .str "1") (by simp) fun n e => by cases e), fun z => absurd rfl z⟩
      · exact ⟨fun _ => .lst (hF _ fo5) ho5 (Nat.le_of_ble_eq_true rfl) (ov1 (.lst (hF _ fi5) hi5) ov0) (bad_mem (x := .ref i5) (by simp) fun n e => by cases e), fun z => absurd rfl z⟩
      · exact ⟨fun _ => .lst (hF _ fz6) hz6 (Nat.le_of_ble_eq_true rfl) (ov1 (.int 1) (ov1 (.int (-3)) ov0)) (bad_mem (x := .int (-3)) (by simp) fun n e => by cases e; decide), fun z => absurd rfl z⟩
    · have i0 : (i : Int) ≠ 0 := fun z => by rw [z] at cc; rw [decide_eq_true rfl] at cc; cases cc
      walk_at "rd"
      refine iteB (fun cc => ?_) (fun cc => ?_)
      · have i1 : (i : Int) = 1 := by have := of_decide_eq_true cc; injection this
        obtain rfl : i = 1 := by omega
        have ha4 := mp4 _ _ ha
        have hl4 := mp4 _ _ hl
        walk_at "rd"
        refine ⟨_, _, rfl, SqL.of hl4, ok.l0, fun m hm hm2 => ?_⟩
        walk_at "rd"
        intro x1 nx1
        generalize eGx1 : upd _ x1 _ = Gx1
        obtain ⟨gx1, cx1⟩ := gen_new nx1 eGx1
        clear eGx1
        have fx1 : H x1 = none := mp4.free nx1
        have mx1 : Same H Gx1 := mp4.trans gx1
        walk_at "rd"
        refine ⟨_, _, _, _, rfl, rfl, SqL.of (gx1 _ _ cp4), SqL.of cx1, Nat.le_of_ble_eq_true rfl, fun L GL nL gL cL => ?_⟩
        have fL : H L = none := mx1.free nL
        have mL : Same H GL := mx1.trans gL
        walk_at "rd"
        have ep1 := gL _ _ (gx1 _ _ (gp4 _ _ (gp3 _ _ (gp2 _ _ cp1))))
        have ep2 := gL _ _ (gx1 _ _ (gp4 _ _ (gp3 _ _ cp2)))
        have ep3 := gL _ _ (gx1 _ _ (gp4 _ _ cp3))
        have ep4 := gL _ _ (gx1 _ _ cp4)
        have ex1 := gL _ _ cx1
        have eL := cL
        refine use_pick eL (ne_of_none hs0 fL).symm (by walk_at "sd") ⟨_, _, _, mL _ _ hs0⟩ fun v HB hv sB hsB => ?_
        have fin : SB s H HB := mL.sb.trans sB
        refine k v HB fin hsB fun F hF => ?_
        have hp1 := sB _ _ (ne_of_none hs0 fp1).symm ep1
        have hp2 := sB _ _ (ne_of_none hs0 fp2).symm ep2
        have hp3 := sB _ _ (ne_of_none hs0 fp3).symm ep3
        have hp4 := sB _ _ (ne_of_none hs0 fp4).symm ep4
        have hx1 := sB _ _ (ne_of_none hs0 fx1).symm ex1
        have hL := sB _ _ (ne_of_none hs0 fL).symm eL
        simp only [List.mem_cons, List.mem_append, List.mem_nil_iff, or_false, or_assoc, List.cons_append, List.nil_append, List.append_nil] at hv
        rcases hv with rfl | rfl | rfl | rfl | rfl | rfl | rfl | rfl | rfl | rfl | rfl | rfl
        · exact od_int i0 .non (fun j e => by cases e)
        · exact od_int i0 (.bl true) (fun j e => by cases e)
        · exact od_int i0 (.str _) (fun j e => by cases e)
        · exact od_int i0 (.lst (hF _ fp1) hp1) (fun j e => by cases e)
        · exact od_int i0 (.tup (hF _ fp2) hp2) (fun j e => by cases e)
        · exact od_int i0 (.dct (hF _ fp3) hp3) (fun j e => by cases e)
        · exact od_int i0 (.int _) (fun j e z => by cases e; have := inR_le ok z; omega)
        · exact od_int i0 (.int _) (fun j e z => by cases e; have := inR_le ok z; omega)
        · exact od_int i0 (.bl false) (fun j e => by cases e)
        · exact od_int i0 (.int _) (fun j e z => by cases e; have z : (∀ n ∈ p.lens, n ≤ m - 1) ∧ m - 1 ≤ 64 := z; have := z.1 m hm; omega)
        · exact od_int i0 (.int _) (fun j e z => by cases e; have z : (∀ n ∈ p.lens, n ≤ 65) ∧ (65 : Int) ≤ 64 := z; omega)
        · exact od_int i0 (.int _) (fun j e z => by cases e; have := inR_le ok z; omega)
      · have i1 : i = 2 ∨ i = 3 ∨ i = 4 ∨ i = 5 := by
          have : (i : Int) ≠ 1 := fun z => by rw [z] at cc; rw [decide_eq_true rfl] at cc; cases cc
          omega
        rcases i1 with rfl | rfl | rfl | rfl
        · walk_at "rd"
          intro x1 nx1
          generalize eGx1 : upd _ x1 _ = Gx1
          obtain ⟨gx1, cx1⟩ := gen_new nx1 eGx1
          clear eGx1
          have fx1 : H x1 = none := mp4.free nx1
          have mx1 : Same H Gx1 := mp4.trans gx1
          walk_at "rd"
          intro x2 nx2
          generalize eGx2 : upd _ x2 _ = Gx2
          obtain ⟨gx2, cx2⟩ := gen_new nx2 eGx2
          clear eGx2
          have fx2 : H x2 = none := mx1.free nx2
          have mx2 : Same H Gx2 := mx1.trans gx2
          walk_at "rd"
          intro x3 nx3
          generalize eGx3 : upd _ x3 _ = Gx3
          obtain ⟨gx3, cx3⟩ := gen_new nx3 eGx3
          clear eGx3
          have fx3 : H x3 = none := mx2.free nx3
          have mx3 : Same H Gx3 := mx2.trans gx3
          walk_at "rd"
          refine ⟨_, _, _, _, rfl, rfl, SqL.of (gx3 _ _ (gx2 _ _ (gx1 _ _ cp4))), SqL.of cx3, Nat.le_of_ble_eq_true rfl, fun L GL nL gL cL => ?_⟩
          have fL : H L = none := mx3.free nL
          have mL : Same H GL := mx3.trans gL
          walk_at "rd"
          have ep1 := gL _ _ (gx3 _ _ (gx2 _ _ (gx1 _ _ (gp4 _ _ (gp3 _ _ (gp2 _ _ cp1))))))
          have ep2 := gL _ _ (gx3 _ _ (gx2 _ _ (gx1 _ _ (gp4 _ _ (gp3 _ _ cp2)))))
          have ep3 := gL _ _ (gx3 _ _ (gx2 _ _ (gx1 _ _ (gp4 _ _ cp3))))
          have ep4 := gL _ _ (gx3 _ _ (gx2 _ _ (gx1 _ _ cp4)))
          have ex1 := gL _ _ (gx3 _ _ (gx2 _ _ cx1))
          have ex2 := gL _ _ (gx3 _ _ cx2)
          have ex3 := gL _ _ cx3
          have eL := cL
          refine use_pick eL (ne_of_none hs0 fL).symm (by walk_at "sd") ⟨_, _, _, mL _ _ hs0⟩ fun v HB hv sB hsB => ?_
          have fin : SB s H HB := mL.sb.trans sB
          refine k v HB fin hsB fun F hF => ?_
          have hp1 := sB _ _ (ne_of_none hs0 fp1).symm ep1
          have hp2 := sB _ _ (ne_of_none hs0 fp2).symm ep2
          have hp3 := sB _ _ (ne_of_none hs0 fp3).symm ep3
          have hp4 := sB _ _ (ne_of_none hs0 fp4).symm ep4
          have hx1 := sB _ _ (ne_of_none hs0 fx1).symm ex1
          have hx2 := sB _ _ (ne_of_none hs0 fx2).symm ex2
          have hx3 := sB _ _ (ne_of_none hs0 fx3).symm ex3
          have hL := sB _ _ (ne_of_none hs0 fL).symm eL
          simp only [List.mem_cons, List.mem_append, List.mem_nil_iff, or_false, or_assoc, List.cons_append, List.nil_append, List.append_nil] at hv
          rcases hv with rfl | rfl | rfl | rfl | rfl | rfl | rfl | rfl | rfl | rfl | rfl
          · exact od_int i0 .non (fun j e => by cases e)
          · exact od_int i0 (.bl true) (fun j e => by cases e)
          · exact od_int i0 (.str _) (fun j e => by cases e)
          · exact od_int i0 (.lst (hF _ fp1) hp1) (fun j e => by cases e)
          · exact od_int i0 (.tup (hF _ fp2) hp2) (fun j e => by cases e)
          · exact od_int i0 (.dct (hF _ fp3) hp3) (fun j e => by cases e)
          · exact od_int i0 (.int _) (fun j e z => by cases e; have := inR_le ok z; omega)
          · exact od_int i0 (.int _) (fun j e z => by cases e; have := inR_le ok z; omega)
          · exact od_int i0 (.bl false) (fun j e => by cases e)
          · exact od_int i0 (.int _) (fun j e z => by cases e; have z : (2 : Int) ≤ 1 ∧ (1 : Int) ≤ 8 := z; omega)
          · exact od_int i0 (.int _) (fun j e z => by cases e; have z : (2 : Int) ≤ 9 ∧ (9 : Int) ≤ 8 := z; omega)
        · walk_at "rd"
          intro x1 nx1
          generalize eGx1 : upd _ x1 _ = Gx1
          obtain ⟨gx1, cx1⟩ := gen_new nx1 eGx1
          clear eGx1
          have fx1 : H x1 = none := mp4.free nx1
          have mx1 : Same H Gx1 := mp4.trans gx1
          walk_at "rd"
          intro x2 nx2
          generalize eGx2 : upd _ x2 _ = Gx2
          obtain ⟨gx2, cx2⟩ := gen_new nx2 eGx2
          clear eGx2
          have fx2 : H x2 = none := mx1.free nx2
          have mx2 : Same H Gx2 := mx1.trans gx2
          walk_at "rd"
          intro x3 nx3
          generalize eGx3 : upd _ x3 _ = Gx3
          obtain ⟨gx3, cx3⟩ := gen_new nx3 eGx3
          clear eGx3
          have fx3 : H x3 = none := mx2.free nx3
          have mx3 : Same H Gx3 := mx2.trans gx3
          walk_at "rd"
          refine ⟨_, _, _, _, rfl, rfl, SqL.of (gx3 _ _ (gx2 _ _ (gx1 _ _ cp4))), SqL.of cx3, Nat.le_of_ble_eq_true rfl, fun L GL nL gL cL => ?_⟩
          have fL : H L = none := mx3.free nL
          have mL : Same H GL := mx3.trans gL
          walk_at "rd"
          have ep1 := gL _ _ (gx3 _ _ (gx2 _ _ (gx1 _ _ (gp4 _ _ (gp3 _ _ (gp2 _ _ cp1))))))
          have ep2 := gL _ _ (gx3 _ _ (gx2 _ _ (gx1 _ _ (gp4 _ _ (gp3 _ _ cp2)))))
          have ep3 := gL _ _ (gx3 _ _ (gx2 _ _ (gx1 _ _ (gp4 _ _ cp3))))
          have ep4 := gL _ _ (gx3 _ _ (gx2 _ _ (gx1 _ _ cp4)))
          have ex1 := gL _ _ (gx3 _ _ (gx2 _ _ cx1))
          have ex2 := gL _ _ (gx3 _ _ cx2)
          have ex3 := gL _ _ cx3
          have eL := cL
          refine use_pick eL (ne_of_none hs0 fL).symm (by walk_at "sd") ⟨_, _, _, mL _ _ hs0⟩ fun v HB hv sB hsB => ?_
          have fin : SB s H HB := mL.sb.trans sB
          refine k v HB fin hsB fun F hF => ?_
          have hp1 := sB _ _ (ne_of_none hs0 fp1).symm ep1
          have hp2 := sB _ _ (ne_of_none hs0 fp2).symm ep2
          have hp3 := sB _ _ (ne_of_none hs0 fp3).symm ep3
          have hp4 := sB _ _ (ne_of_none hs0 fp4).symm ep4
          have hx1 := sB _ _ (ne_of_none hs0 fx1).symm ex1
          have hx2 := sB _ _ (ne_of_none hs0 fx2).symm ex2
          have hx3 := sB _ _ (ne_of_none hs0 fx3).symm ex3
          have hL := sB _ _ (ne_of_none hs0 fL).symm eL
          simp only [List.mem_cons, List.mem_append, List.mem_nil_iff, or_false, or_assoc, List.cons_append, List.nil_append, List.append_nil] at hv
          rcases hv with rfl | rfl | rfl | rfl | rfl | rfl | rfl | rfl | rfl | rfl | rfl
          · exact od_int i0 .non (fun j e => by cases e)
          · exact od_int i0 (.bl true) (fun j e => by cases e)
          · exact od_int i0 (.str _) (fun j e => by cases e)
          · exact od_int i0 (.lst (hF _ fp1) hp1) (fun j e => by cases e)
          · exact od_int i0 (.tup (hF _ fp2) hp2) (fun j e => by cases e)
          · exact od_int i0 (.dct (hF _ fp3) hp3) (fun j e => by cases e)
          · exact od_int i0 (.int _) (fun j e z => by cases e; have := inR_le ok z; omega)
          · exact od_int i0 (.int _) (fun j e z => by cases e; have := inR_le ok z; omega)
          · exact od_int i0 (.bl false) (fun j e => by cases e)
          · exact od_int i0 (.int _) (fun j e z => by cases e; have z : (1 : Int) ≤ 0 ∧ (0 : Int) ≤ 16 := z; omega)
          · exact od_int i0 (.int _) (fun j e z => by cases e; have z : (1 : Int) ≤ 17 ∧ (17 : Int) ≤ 16 := z; omega)
        · walk_at "rd"
          intro x1 nx1
          generalize eGx1 : upd _ x1 _ = Gx1
          obtain ⟨gx1, cx1⟩ := gen_new nx1 eGx1
          clear eGx1
          have fx1 : H x1 = none := mp4.free nx1
          have mx1 : Same H Gx1 := mp4.trans gx1
          walk_at "rd"
          intro x2 nx2
          generalize eGx2 : upd _ x2 _ = Gx2
          obtain ⟨gx2, cx2⟩ := gen_new nx2 eGx2
          clear eGx2
          have fx2 : H x2 = none := mx1.free nx2
          have mx2 : Same H Gx2 := mx1.trans gx2
          walk_at "rd"
          intro x3 nx3
          generalize eGx3 : upd _ x3 _ = Gx3
          obtain ⟨gx3, cx3⟩ := gen_new nx3 eGx3
          clear eGx3
          have fx3 : H x3 = none := mx2.free nx3
          have mx3 : Same H Gx3 := mx2.trans gx3
          walk_at "rd"
          refine ⟨_, _, _, _, rfl, rfl, SqL.of (gx3 _ _ (gx2 _ _ (gx1 _ _ cp4))), SqL.of cx3, Nat.le_of_ble_eq_true rfl, fun L GL nL gL cL => ?_⟩
          have fL : H L = none := mx3.free nL
          have mL : Same H GL := mx3.trans gL
          walk_at "rd"
          have ep1 := gL _ _ (gx3 _ _ (gx2 _ _ (gx1 _ _ (gp4 _ _ (gp3 _ _ (gp2 _ _ cp1))))))
          have ep2 := gL _ _ (gx3 _ _ (gx2 _ _ (gx1 _ _ (gp4 _ _ (gp3 _ _ cp2)))))
          have ep3 := gL _ _ (gx3 _ _ (gx2 _ _ (gx1 _ _ (gp4 _ _ cp3))))
          have ep4 := gL _ _ (gx3 _ _ (gx2 _ _ (gx1 _ _ cp4)))
          have ex1 := gL _ _ (gx3 _ _ (gx2 _ _ cx1))
          have ex2 := gL _ _ (gx3 _ _ cx2)
          have ex3 := gL _ _ cx3
          have eL := cL
          refine use_pick eL (ne_of_none hs0 fL).symm (by walk_at "sd") ⟨_, _, _, mL _ _ hs0⟩ fun v HB hv sB hsB => ?_
          have fin : SB s H HB := mL.sb.trans sB
          refine k v HB fin hsB fun F hF => ?_
          have hp1 := sB _ _ (ne_of_none hs0 fp1).symm ep1
          have hp2 := sB _ _ (ne_of_none hs0 fp2).symm ep2
          have hp3 := sB _ _ (ne_of_none hs0 fp3).symm ep3
          have hp4 := sB _ _ (ne_of_none hs0 fp4).symm ep4
          have hx1 := sB _ _ (ne_of_none hs0 fx1).symm ex1
          have hx2 := sB _ _ (ne_of_none hs0 fx2).symm ex2
          have hx3 := sB _ _ (ne_of_none hs0 fx3).symm ex3
          have hL := sB _ _ (ne_of_none hs0 fL).symm eL
          simp only [List.mem_cons, List.mem_append, List.mem_nil_iff, or_false, or_assoc, List.cons_append, List.nil_append, List.append_nil] at hv
          rcases hv with rfl | rfl | rfl | rfl | rfl | rfl | rfl | rfl | rfl | rfl | rfl
          · exact od_int i0 .non (fun j e => by cases e)
          · exact od_int i0 (.bl true) (fun j e => by cases e)
          · exact od_int i0 (.str _) (fun j e => by cases e)
          · exact od_int i0 (.lst (hF _ fp1) hp1) (fun j e => by cases e)
          · exact od_int i0 (.tup (hF _ fp2) hp2) (fun j e => by cases e)
          · exact od_int i0 (.dct (hF _ fp3) hp3) (fun j e => by cases e)
          · exact od_int i0 (.int _) (fun j e z => by cases e; have := inR_le ok z; omega)
          · exact od_int i0 (.int _) (fun j e z => by cases e; have := inR_le ok z; omega)
          · exact od_int i0 (.bl false) (fun j e => by cases e)
          · exact od_int i0 (.int _) (fun j e z => by cases e; have z : (1 : Int) ≤ 0 ∧ (0 : Int) ≤ 40 := z; omega)
          · exact od_int i0 (.int _) (fun j e z => by cases e; have z : (1 : Int) ≤ 41 ∧ (41 : Int) ≤ 40 := z; omega)
        · walk_at "rd"
          intro x1 nx1
          generalize eGx1 : upd _ x1 _ = Gx1
          obtain ⟨gx1, cx1⟩ := gen_new nx1 eGx1
          clear eGx1
          have fx1 : H x1 = none := mp4.free nx1
          have mx1 : Same H Gx1 := mp4.trans gx1
          walk_at "rd"
          intro x2 nx2
          generalize eGx2 : upd _ x2 _ = Gx2
          obtain ⟨gx2, cx2⟩ := gen_new nx2 eGx2
          clear eGx2
          have fx2 : H x2 = none := mx1.free nx2
          have mx2 : Same H Gx2 := mx1.trans gx2
          walk_at "rd"
          intro x3 nx3
          generalize eGx3 : upd _ x3 _ = Gx3
          obtain ⟨gx3, cx3⟩ := gen_new nx3 eGx3
          clear eGx3
          have fx3 : H x3 = none := mx2.free nx3
          have mx3 : Same H Gx3 := mx2.trans gx3
          walk_at "rd"
          refine ⟨_, _, _, _, rfl, rfl, SqL.of (gx3 _ _ (gx2 _ _ (gx1 _ _ cp4))), SqL.of cx3, Nat.le_of_ble_eq_true rfl, fun L GL nL gL cL => ?_⟩
          have fL : H L = none := mx3.free nL
          have mL : Same H GL := mx3.trans gL
          walk_at "rd"
          have ep1 := gL _ _ (gx3 _ _ (gx2 _ _ (gx1 _ _ (gp4 _ _ (gp3 _ _ (gp2 _ _ cp1))))))
          have ep2 := gL _ _ (gx3 _ _ (gx2 _ _ (gx1 _ _ (gp4 _ _ (gp3 _ _ cp2)))))
          have ep3 := gL _ _ (gx3 _ _ (gx2 _ _ (gx1 _ _ (gp4 _ _ cp3))))
          have ep4 := gL _ _ (gx3 _ _ (gx2 _ _ (gx1 _ _ cp4)))
          have ex1 := gL _ _ (gx3 _ _ (gx2 _ _ cx1))
          have ex2 := gL _ _ (gx3 _ _ cx2)
          have ex3 := gL _ _ cx3
          have eL := cL
          refine use_pick eL (ne_of_none hs0 fL).symm (by walk_at "sd") ⟨_, _, _, mL _ _ hs0⟩ fun v HB hv sB hsB => ?_
          have fin : SB s H HB := mL.sb.trans sB
          refine k v HB fin hsB fun F hF => ?_
          have hp1 := sB _ _ (ne_of_none hs0 fp1).symm ep1
          have hp2 := sB _ _ (ne_of_none hs0 fp2).symm ep2
          have hp3 := sB _ _ (ne_of_none hs0 fp3).symm ep3
          have hp4 := sB _ _ (ne_of_none hs0 fp4).symm ep4
          have hx1 := sB _ _ (ne_of_none hs0 fx1).symm ex1
          have hx2 := sB _ _ (ne_of_none hs0 fx2).symm ex2
          have hx3 := sB _ _ (ne_of_none hs0 fx3).symm ex3
          have hL := sB _ _ (ne_of_none hs0 fL).symm eL
          simp only [List.mem_cons, List.mem_append, List.mem_nil_iff, or_false, or_assoc, List.cons_append, List.nil_append, List.append_nil] at hv
          rcases hv with rfl | rfl | rfl | rfl | rfl | rfl | rfl | rfl | rfl | rfl | rfl
          · exact od_int i0 .non (fun j e => by cases e)
          · exact od_int i0 (.bl true) (fun j e => by cases e)
          · exact od_int i0 (.str _) (fun j e => by cases e)
          · exact od_int i0 (.lst (hF _ fp1) hp1) (fun j e => by cases e)
          · exact od_int i0 (.tup (hF _ fp2) hp2) (fun j e => by cases e)
          · exact od_int i0 (.dct (hF _ fp3) hp3) (fun j e => by cases e)
          · exact od_int i0 (.int _) (fun j e z => by cases e; have := inR_le ok z; omega)
          · exact od_int i0 (.int _) (fun j e z => by cases e; have := inR_le ok z; omega)
          · exact od_int i0 (.bl false) (fun j e => by cases e)
          · exact od_int i0 (.int _) (fun j e z => by cases e; have z : (1 : Int) ≤ 0 ∧ (0 : Int) ≤ 100 := z; omega)
          · exact od_int i0 (.int _) (fun j e z => by cases e; have z : (1 : Int) ≤ 101 ∧ (101 : Int) ≤ 100 := z; omega)

theorem Ov.back {H G : Hp} {v : V} {a : Addr} {xs : List V} (o : Ov Any H v) (s : Same H G) (e : v = .ref a) (h : G a = some (.lst xs)) : H a = some (.lst xs) := by
  cases o with
  | non => cases e
  | bl b => cases e
  | int i => cases e
  | str s => cases e
  | lst f h2 => cases e; have := s _ _ h2; rw [h] at this; cases this; exact h2
  | tup f h2 => cases e; have := s _ _ h2; rw [h] at this; cases this
  | dct f h2 => cases e; have := s _ _ h2; rw [h] at this; cases this
theorem Ov.same {H G : Hp} {v : V} (o : Ov Any H v) (s : Same H G) : Ov Any G v := o.mono (fun _ _ _ h => s _ _ h) fun _ h => h
theorem LV.same {H G : Hp} {L : V} (o : LV Any H L) (s : Same H G) : LV Any G L := ⟨o.1.same s, fun a xs e h => ⟨(o.2 a xs e (o.1.back s e h)).1, fun x hx => ((o.2 a xs e (o.1.back s e h)).2 x hx).same s⟩⟩
theorem LG.back {H G : Hp} {L : V} {ns : List Int} (o : LV Any H L) (s : Same H G) (g : LG G L ns) : LG H L ns := let ⟨l, e, h, r⟩ := g; ⟨l, e, o.1.back s e h, r⟩
theorem LG.same {H G : Hp} {L : V} {ns : List Int} (s : Same H G) (g : LG H L ns) : LG G L ns := let ⟨l, e, h, r⟩ := g; ⟨l, e, s _ _ h, r⟩
theorem AG.back {H G : Hp} {L s f r e k : V} (o : LV Any H L) (c : Same H G) (g : AG G L s f r e k) : AG H L s f r e k := let ⟨ns, g1, g2⟩ := g; ⟨ns, g1.back o c, g2⟩
theorem FB.back {H G : Hp} {L s f r e k : V} {w : Str} (o : LV Any H L) (c : Same H G) (g : FB G L s f r e k w) : FB H L s f r e k w := by
  cases g with
  | l h => exact .l fun ns z => h ns (z.same c)
  | s g h => exact .s (g.back o c) h
  | f g g1 h => exact .f (g.back o c) g1 h
  | r g g1 g2 h => exact .r (g.back o c) g1 g2 h
  | e g g1 g2 g3 h => exact .e (g.back o c) g1 g2 g3 h
  | k g g1 g2 g3 g4 h => exact .k (g.back o c) g1 g2 g3 g4 h
@[irreducible] def sp_law_said : Sp := fun vs H Q _ => ∃ (a : Addr) (L s f r e k : V), vs = [.ref a] ∧ H a = some (.lst [L, s, f, r, e, k]) ∧ (LV Any H L ∧ Ov Any H s ∧ Ov Any H f ∧ Ov Any H r ∧ Ov Any H e ∧ Ov Any H k) ∧
  ∀ (w : Str) (H' : Hp), Same H H' → ((AG H L s f r e k ∧ w = "none") ∨ FB H L s f r e k w) → Q (.str w) H'
theorem use_said {a : Addr} {L s f r e k : V} {H : Hp} {Q : VK} {E : XK} (h : H a = some (.lst [L, s, f, r, e, k])) (o : LV Any H L ∧ Ov Any H s ∧ Ov Any H f ∧ Ov Any H r ∧ Ov Any H e ∧ Ov Any H k)
  (q : ∀ (w : Str) (H' : Hp), Same H H' → ((AG H L s f r e k ∧ w = "none") ∨ FB H L s f r e k w) → Q (.str w) H') : sp_law_said [.ref a] H Q E := by unfold sp_law_said; exact ⟨a, L, s, f, r, e, k, rfl, h, o, q⟩
theorem b_law_said {K : PySem.W.Frag} {fd : FuncData} (F : F_law_said K fd) : Binds K fd P_law_said [] := FunD.bindsN F fun _ _ _ _ _ _ us hl => match us, hl with | [_], _ => rfl
theorem ok_law_said (T : Txt K mg D) : FnOk P w K mg base CX0 6 (He.fAd K ("_law_said", none)) (D D_law_said) P_law_said sp_law_said := by
  refine T.d_law_said.ok sc_law_said (fun vs H Q E h => ?_) (fun cdv A outer s H vs Q E hr h => ?_)
  · unfold sp_law_said at h
    first | (obtain ⟨rfl, _⟩ := h; rfl) | (obtain ⟨_, rfl, _⟩ := h; rfl) | (obtain ⟨_, _, rfl, _⟩ := h; rfl) | (obtain ⟨_, _, _, rfl, _⟩ := h; rfl) | (obtain ⟨_, _, _, _, rfl, _⟩ := h; rfl) | (obtain ⟨_, _, _, _, _, rfl, _⟩ := h; rfl) | (obtain ⟨_, _, _, _, _, _, rfl, _⟩ := h; rfl) | (obtain ⟨_, _, _, _, _, _, _, rfl, _⟩ := h; rfl) | (obtain ⟨_, _, _, _, _, _, _, _, rfl, _⟩ := h; rfl) | (obtain ⟨_, _, _, _, _, _, _, _, _, rfl, _⟩ := h; rfl) | (obtain ⟨_, _, _, _, _, _, _, _, _, _, rfl, _⟩ := h; rfl) | (obtain ⟨_, _, _, _, _, _, _, _, _, _, _, rfl, _⟩ := h; rfl)
  · refine ⟨_, PSs.nox (pss_cons (ps_tryN rfl rfl takes0 (fun W pn xe tk po => (pss_one (ps_expr (pe_makeKS T.mk_Settings (ok_Settings___init__ T) (hr.mono (by decide)) rfl T.g_Settings (b_Settings___init__ T.d_Settings___init__) (fun σ => passAt tk σ) (pa_cons (pe_ix (ix_listK (K := K)) (pv 0) pe_int (fun _ _ => rfl)) (pa_cons (pe_ix (ix_listK (K := K)) (pv 0) pe_int (fun _ _ => rfl)) pa_nil)) (pk_cons (pe_ix (ix_listK (K := K)) (pv 0) pe_int (fun _ _ => rfl)) (pk_cons (pe_ix (ix_listK (K := K)) (pv 0) pe_int (fun _ _ => rfl)) (pk_cons (pe_ix (ix_listK (K := K)) (pv 0) pe_int (fun _ _ => rfl)) (pk_cons (pe_ix (ix_listK (K := K)) (pv 0) pe_int (fun _ _ => rfl)) pk_nil)))))))) (HdsN.named (i := 1) sc_law_said.nd rfl rfl ⟨rfl, by decide, Or.inl T.g_InvalidSettings⟩ (fun ex oe cl dd pn hz hf => (pss_one (ps_ret (pe_ifExp (PW.pt (pw_and (pt_val (pe_callB (call_isLe hz hf) (by rfl) T.n_isinstance (by decide +kernel) (pa_cons (pv 1) (pa_cons (pe_glob (v := .ref (He.ga K "StoreError")) rfl T.g_StoreError rfl) pa_nil)))) (pw_and1 (pt_not (pt_val (pe_callB (call_isLe hz hf) (by rfl) T.n_isinstance (by decide +kernel) (pa_cons (pv 1) (pa_cons (pe_glob (v := .ref (He.ga K "InvalidText")) rfl T.g_InvalidText rfl) pa_nil)))))))) (pe_xf T.le_InvalidSettings.xf T.ln_InvalidSettings_part hz hf (pv 1)) pe_str)))) (HdsN.bare ⟨rfl, by decide, Or.inl T.g_StoreError⟩ (fun ex oe cl dd pn hz hf => (pss_one (ps_ret pe_str))) HdsN.nil)))
      (pss_one (ps_ret pe_str))), ?_⟩
    unfold sp_law_said at h
    obtain ⟨a, L, s, f, r, e, k, rfl, ha, o, q⟩ := h
    walk_at "rd"
    intro x dx n ndx nex
    generalize eG : upd (upd _ dx _) x _ = G
    obtain ⟨sg, c⟩ := gen_mk n ndx eG
    clear eG
    refine use_set_init c ⟨o.1.same sg, o.2.1.same sg, o.2.2.1.same sg, o.2.2.2.1.same sg, o.2.2.2.2.1.same sg, o.2.2.2.2.2.same sg⟩ (fun H2 s2 ag => ?_) (fun w d H2 fb s2 hd => ?_)
    · walk_at "rd"
      exact q "none" H2 (same_sb_new sg s2 n) (.inl ⟨ag.back o.1 sg, rfl⟩)
    · refine ⟨true, T.xm_InvalidSettings_InvalidSettings, fun _ ex nex => ?_, fun z => by cases z⟩
      walk_at "rd"
      refine ⟨_, _, d, _, _, rfl, rfl, rfl, hd, T.le_InvalidSettings, T.ic_InvalidSettings, T.kk_InvalidSettings_StoreError, ?_⟩
      walk_at "rd"
      refine ⟨_, _, d, _, _, rfl, rfl, rfl, hd, T.le_InvalidSettings, T.ic_InvalidSettings, T.kk_InvalidSettings_InvalidText, ?_⟩
      walk_at "s1"
      walk_at "s1"
      refine ⟨rfl, rfl, d, _, _, rfl, hd, rfl, ?_⟩
      exact q w H2 (same_sb_new sg s2 n) (.inr (fb.back o.1 sg))

@[irreducible] def sp_law_right : Sp := fun vs H Q _ => ∃ (s : Addr), vs = [.ref s] ∧ Src H s ∧ ∀ H', SB s H H' → Src H' s → Q (.bl true) H'
theorem use_right {s : Addr} {H : Hp} {Q : VK} {E : XK} (h : Src H s) (k : ∀ H', SB s H H' → Src H' s → Q (.bl true) H') : sp_law_right [.ref s] H Q E := by unfold sp_law_right; exact ⟨s, rfl, h, k⟩
@[irreducible] def sp_law (K : PySem.W.Frag) : Sp := fun vs H Q _ => ∃ (a : Addr) (ns : List Int), vs = [.ref a] ∧ SqL K H a (ns.map V.int) ∧ ns.length ≤ 63 ∧ ∀ H', Q (.bl true) H'
def wsN : Nat → Str
  | 0 => "lengths"
  | 1 => "size"
  | 2 => "fanout"
  | 3 => "records"
  | 4 => "every"
  | 5 => "keep"
  | _ => "none"
def wsL : List V := [.str "lengths", .str "size", .str "fanout", .str "records", .str "every", .str "keep"]
theorem wsL_at {m : Nat} {i : Int} (hi : i = (m : Int)) (h : m < 6) : atI wsL i = some (.str (wsN m)) := by
  subst hi
  match m, h with
  | 0, _ => rfl
  | 1, _ => rfl
  | 2, _ => rfl
  | 3, _ => rfl
  | 4, _ => rfl
  | 5, _ => rfl
def gdL (l : Addr) (p : Prt) : List V := [.ref l, .int p.size, .int p.fan, .int p.rec_, .int p.every, .int p.keep]
/-- the part at a place is right -/
def An (H : Hp) (L s f r e k : V) : Nat → Prop
  | 0 => ∃ ns, LG H L ns
  | 1 => ∀ ns, LG H L ns → SZ ns s
  | 2 => BT f 2 8
  | 3 => BT r 1 16
  | 4 => BT e 1 40
  | 5 => BT k 1 100
  | _ => True
theorem ints_map {xs ys : List Int} (h : xs.map V.int = ys.map V.int) : xs = ys := (List.map_inj_right (fun _ _ z => by injection z)).mp h
theorem LG.uniq {H : Hp} {L : V} {ns ms : List Int} (h : LG H L ns) (g : LG H L ms) : ns = ms := by
  obtain ⟨l, rfl, h1, _⟩ := h
  obtain ⟨l2, e, h2, _⟩ := g
  cases e
  rw [h1] at h2
  injection h2 with h2
  injection h2 with h2
  exact ints_map h2
theorem FB.idx {H : Hp} {L s f r e k : V} {w : Str} (h : FB H L s f r e k w) : ∃ i, w = wsN i ∧ ¬ An H L s f r e k i ∧ ∀ j, j < i → An H L s f r e k j := by
  have a1 : ∀ {ns}, LG H L ns → SZ ns s → ∀ ms, LG H L ms → SZ ms s := fun g z ms g2 => by rw [← g.uniq g2]; exact z
  cases h with
  | l h => exact ⟨0, rfl, fun ⟨ns, z⟩ => h ns z, fun j hj => by omega⟩
  | @s ns g h => exact ⟨1, rfl, fun z => h (z ns g), fun j hj => by
      obtain rfl : j = 0 := by omega
      exact ⟨ns, g⟩⟩
  | @f ns g g1 h => exact ⟨2, rfl, h, fun j hj => by
      match j, hj with
      | 0, _ => exact ⟨ns, g⟩
      | 1, _ => exact a1 g g1⟩
  | @r ns g g1 g2 h => exact ⟨3, rfl, h, fun j hj => by
      match j, hj with
      | 0, _ => exact ⟨ns, g⟩
      | 1, _ => exact a1 g g1
      | 2, _ => exact g2⟩
  | @e ns g g1 g2 g3 h => exact ⟨4, rfl, h, fun j hj => by
      match j, hj with
      | 0, _ => exact ⟨ns, g⟩
      | 1, _ => exact a1 g g1
      | 2, _ => exact g2
      | 3, _ => exact g3⟩
  | @k ns g g1 g2 g3 g4 h => exact ⟨5, rfl, h, fun j hj => by
      match j, hj with
      | 0, _ => exact ⟨ns, g⟩
      | 1, _ => exact a1 g g1
      | 2, _ => exact g2
      | 3, _ => exact g3
      | 4, _ => exact g4⟩
theorem AG.an {H : Hp} {L s f r e k : V} (h : AG H L s f r e k) : ∀ i, An H L s f r e k i := by
  obtain ⟨ns, g, g1, g2, g3, g4, g5⟩ := h
  intro i
  match i with
  | 0 => exact ⟨ns, g⟩
  | 1 => exact fun ms g' => by rw [← g.uniq g']; exact g1
  | 2 => exact g2
  | 3 => exact g3
  | 4 => exact g4
  | 5 => exact g5
  | i + 6 => exact True.intro
theorem said_at {H : Hp} {L s f r e k : V} {w : Str} (h : (AG H L s f r e k ∧ w = "none") ∨ FB H L s f r e k w) {m : Nat} (hm : ¬ An H L s f r e k m) (hj : ∀ j, j < m → An H L s f r e k j) : w = wsN m := by
  rcases h with ⟨h, _⟩ | h
  · exact absurd (h.an m) hm
  · obtain ⟨i, e, h1, h2⟩ := h.idx
    rcases Nat.lt_trichotomy i m with z | z | z
    · exact absurd (hj i z) h1
    · rw [← z]; exact e
    · exact absurd (h2 m z) hm
theorem said_none {H : Hp} {L s f r e k : V} {w : Str} (h : (AG H L s f r e k ∧ w = "none") ∨ FB H L s f r e k w) (ha : AG H L s f r e k) : w = "none" := by
  rcases h with ⟨_, h⟩ | h
  · exact h
  · obtain ⟨i, e, h1, h2⟩ := h.idx
    exact absurd (ha.an i) h1
theorem lg_prt {H : Hp} {l : Addr} {p : Prt} (hl : H l = some (.lst (p.lens.map V.int))) (ok : p.Ok) : LG H (.ref l) p.lens := ⟨l, rfl, hl, ok.l0, ok.l1, fun n hn => by have := ok.le n hn; have := ok.s1; omega⟩
theorem sz_prt {p : Prt} (ok : p.Ok) : SZ p.lens (.int p.size) := ⟨_, rfl, fun n hn => (ok.le n hn).2, ok.s1⟩
theorem ag_prt {H : Hp} {l : Addr} {p : Prt} (hl : H l = some (.lst (p.lens.map V.int))) (ok : p.Ok) : AG H (.ref l) (.int p.size) (.int p.fan) (.int p.rec_) (.int p.every) (.int p.keep) :=
  ⟨p.lens, lg_prt hl ok, sz_prt ok, ⟨_, rfl, ok.f⟩, ⟨_, rfl, ok.r⟩, ⟨_, rfl, ok.e⟩, ⟨_, rfl, ok.k⟩⟩
theorem lv_ints {H : Hp} {l : Addr} {ns : List Int} (hl : H l = some (.lst (ns.map V.int))) (hz : ns.length ≤ 1000) : LV Any H (.ref l) := ⟨.lst True.intro hl, fun a xs e h => by
  cases e
  rw [hl] at h
  cases h
  exact ⟨by rw [List.length_map]; exact hz, fun x hx => by
    obtain ⟨n, _, rfl⟩ := List.mem_map.mp hx
    exact .int n⟩⟩
/-- the entries: those at the places B are none -/
def Ent (F : Addr → Prop) (G : Hp) (p : Prt) (l : Addr) (B : List Nat) (ys : List V) : Prop := ys.length = 6 ∧ ∀ i, i < 6 → ∃ v, ys[i]? = some v ∧ ((i ∈ B ∧ Od F G p i v) ∨ (i ∉ B ∧ (gdL l p)[i]? = some v))
theorem Ent.mono {F : Addr → Prop} {G G' : Hp} {p : Prt} {l : Addr} {B : List Nat} {ys : List V} (h : Ent F G p l B ys) (k : ∀ a o, F a → G a = some o → G' a = some o) : Ent F G' p l B ys := ⟨h.1, fun i hi => by
  obtain ⟨v, h1, h2⟩ := h.2 i hi
  exact ⟨v, h1, h2.imp (fun ⟨x, y⟩ => ⟨x, y.mono k fun _ z => z⟩) fun z => z⟩⟩
theorem Ent.start (F : Addr → Prop) (G : Hp) (p : Prt) (l : Addr) : Ent F G p l [] (gdL l p) := ⟨rfl, fun i hi => ⟨(gdL l p)[i]'(by simpa [gdL] using hi), List.getElem?_eq_getElem _, .inr ⟨by simp, List.getElem?_eq_getElem _⟩⟩⟩
theorem Ent.put {F : Addr → Prop} {G : Hp} {p : Prt} {l : Addr} {B : List Nat} {ys : List V} (h : Ent F G p l B ys) {b : Nat} (hb : b < 6) {v : V} (o : Od F G p b v) : Ent F G p l (B ++ [b]) (ys.set b v) := ⟨by rw [List.length_set]; exact h.1, fun i hi => by
  by_cases e : i = b
  · subst e
    exact ⟨v, by rw [List.getElem?_set_self (by rw [h.1]; exact hi)], .inl ⟨by simp, o⟩⟩
  · obtain ⟨u, h1, h2⟩ := h.2 i hi
    refine ⟨u, by rw [List.getElem?_set_ne (fun z => e z.symm)]; exact h1, h2.imp (fun ⟨x, y⟩ => ⟨List.mem_append_left _ x, y⟩) fun ⟨x, y⟩ => ⟨fun z => ?_, y⟩⟩
    rcases List.mem_append.mp z with z | z
    · exact x z
    · exact e (List.mem_singleton.mp z)⟩
theorem ixN_nat {n j : Nat} (h : j < n) : ixN n (j : Int) = some j := by
  unfold ixN
  rw [if_pos (by omega), if_pos (by omega), Int.toNat_natCast]
theorem prt_ne {s a : Addr} {H2 H6 : Hp} {p : Prt} (hpk : ∀ H'', SB s H2 H'' → PrtAt H'' a p) (f : SB s H2 H6) : ∃ l, l ≠ s ∧ a ≠ s ∧ H6 a = some (.lst (gdL l p)) ∧ H6 l = some (.lst (p.lens.map V.int)) := by
  obtain ⟨l, h1, h2⟩ := hpk (upd H6 s (.tup [])) fun b o n h => by rw [upd_ne n]; exact f b o n h
  have na : a ≠ s := fun z => by rw [z, upd_same] at h1; cases h1
  have nl : l ≠ s := fun z => by rw [z, upd_same] at h2; cases h2
  rw [upd_ne na] at h1
  rw [upd_ne nl] at h2
  exact ⟨l, nl, na, h1, h2⟩
theorem bl_eqS {x : Str} {H : Hp} {Q : VK} (q : Q (.bl true) H) : Q (.bl (decide (V.str x = V.str x))) H := by rw [decide_eq_true rfl]; exact q
theorem ne_eqS {x : Str} {H : Hp} {Q : VK} (q : Q (.bl false) H) : rNe (V.str x) (V.str x) H Q := by
  refine ⟨rfl, ?_⟩
  rw [decide_eq_true rfl]
  exact q
theorem six {ys : List V} (h : ys.length = 6) : ∃ a b c d e f : V, ys = [a, b, c, d, e, f] := by
  match ys, h with
  | [a, b, c, d, e, f], _ => exact ⟨a, b, c, d, e, f, rfl⟩
theorem Od.ov {F : Addr → Prop} {H : Hp} {p : Prt} {i : Nat} {v : V} (h : Od F H p i v) (h0 : i ≠ 0) : Ov Any H v := (h.2 h0).1.mono (fun _ _ _ e => e) fun _ _ => True.intro
theorem Ent.kinds {F : Addr → Prop} {G : Hp} {p : Prt} {l : Addr} {B : List Nat} {L s f r e k : V} (h : Ent F G p l B [L, s, f, r, e, k]) (hl : G l = some (.lst (p.lens.map V.int))) (ok : p.Ok) : LV Any G L ∧ Ov Any G s ∧ Ov Any G f ∧ Ov Any G r ∧ Ov Any G e ∧ Ov Any G k := by
  refine ⟨?_, ?_, ?_, ?_, ?_, ?_⟩
  · obtain ⟨v, h1, h2⟩ := h.2 0 (by decide)
    cases h1
    rcases h2 with ⟨_, z⟩ | ⟨_, z⟩
    · exact (z.1 rfl).lv
    · cases z
      exact lv_ints hl (by have := ok.l1; omega)
  · obtain ⟨v, h1, h2⟩ := h.2 1 (by decide)
    cases h1
    rcases h2 with ⟨_, z⟩ | ⟨_, z⟩
    · exact z.ov (by decide)
    · cases z
      exact .int _
  · obtain ⟨v, h1, h2⟩ := h.2 2 (by decide)
    cases h1
    rcases h2 with ⟨_, z⟩ | ⟨_, z⟩
    · exact z.ov (by decide)
    · cases z
      exact .int _
  · obtain ⟨v, h1, h2⟩ := h.2 3 (by decide)
    cases h1
    rcases h2 with ⟨_, z⟩ | ⟨_, z⟩
    · exact z.ov (by decide)
    · cases z
      exact .int _
  · obtain ⟨v, h1, h2⟩ := h.2 4 (by decide)
    cases h1
    rcases h2 with ⟨_, z⟩ | ⟨_, z⟩
    · exact z.ov (by decide)
    · cases z
      exact .int _
  · obtain ⟨v, h1, h2⟩ := h.2 5 (by decide)
    cases h1
    rcases h2 with ⟨_, z⟩ | ⟨_, z⟩
    · exact z.ov (by decide)
    · cases z
      exact .int _
theorem Ent.an {F : Addr → Prop} {G : Hp} {p : Prt} {l : Addr} {B : List Nat} {L s f r e k : V} (h : Ent F G p l B [L, s, f, r, e, k]) (hl : G l = some (.lst (p.lens.map V.int))) (ok : p.Ok) {j : Nat} (hj : ∀ i, i ≤ j → i ∉ B) : An G L s f r e k j := by
  have gd : ∀ i, i ≤ j → i < 6 → ([L, s, f, r, e, k] : List V)[i]? = (gdL l p)[i]? := fun i hi h6 => by
    obtain ⟨v, h1, h2⟩ := h.2 i h6
    rcases h2 with ⟨z, _⟩ | ⟨_, z⟩
    · exact absurd z (hj i hi)
    · rw [h1, z]
  match j, gd with
  | 0, gd => cases gd 0 (Nat.le_refl _) (by decide); exact ⟨_, lg_prt hl ok⟩
  | 1, gd =>
    cases gd 0 (by decide) (by decide)
    cases gd 1 (by decide) (by decide)
    exact fun ns g => by rw [← (lg_prt hl ok).uniq g]; exact sz_prt ok
  | 2, gd => cases gd 2 (Nat.le_refl _) (by decide); exact ⟨_, rfl, ok.f⟩
  | 3, gd => cases gd 3 (Nat.le_refl _) (by decide); exact ⟨_, rfl, ok.r⟩
  | 4, gd => cases gd 4 (Nat.le_refl _) (by decide); exact ⟨_, rfl, ok.e⟩
  | 5, gd => cases gd 5 (Nat.le_refl _) (by decide); exact ⟨_, rfl, ok.k⟩
  | j + 6, _ => exact True.intro
theorem Ent.bad {F : Addr → Prop} {G : Hp} {p : Prt} {l : Addr} {B : List Nat} {L s f r e k : V} (h : Ent F G p l B [L, s, f, r, e, k]) (hl : G l = some (.lst (p.lens.map V.int))) (ok : p.Ok) {m : Nat} (hm : m ∈ B) (h6 : m < 6) (hlt : ∀ j ∈ B, m ≤ j) : ¬ An G L s f r e k m := by
  obtain ⟨v, h1, h2⟩ := h.2 m h6
  have od : Od F G p m v := by
    rcases h2 with ⟨_, z⟩ | ⟨z, _⟩
    · exact z
    · exact absurd hm z
  match m, h1, od, h6, hlt with
  | 0, h1, od, _, _ =>
    cases h1
    exact fun ⟨ns, z⟩ => (od.1 rfl).bad ns z
  | 1, h1, od, _, hlt =>
    cases h1
    obtain ⟨u, g1, g2⟩ := h.2 0 (by decide)
    cases g1
    rcases g2 with ⟨z, _⟩ | ⟨_, z⟩
    · have := hlt 0 z
      omega
    · cases z
      intro z
      obtain ⟨i, rfl, z1, z2⟩ := z _ (lg_prt hl ok)
      exact (od.2 (by decide)).2 i rfl ⟨z1, z2⟩
  | 2, h1, od, _, _ => cases h1; exact fun ⟨i, e, z⟩ => (od.2 (by decide)).2 i e z
  | 3, h1, od, _, _ => cases h1; exact fun ⟨i, e, z⟩ => (od.2 (by decide)).2 i e z
  | 4, h1, od, _, _ => cases h1; exact fun ⟨i, e, z⟩ => (od.2 (by decide)).2 i e z
  | 5, h1, od, _, _ => cases h1; exact fun ⟨i, e, z⟩ => (od.2 (by decide)).2 i e z
theorem b_law_right {K : PySem.W.Frag} {fd : FuncData} (F : F_law_right K fd) : Binds K fd P_law_right [] := FunD.bindsN F fun _ _ _ _ _ _ us hl => match us, hl with | [_], _ => rfl
theorem ok_law_right (T : Txt K mg D) : FnOk P w K mg base CX0 7 (He.fAd K ("_law_right", none)) (D D_law_right) P_law_right sp_law_right := by
  refine T.d_law_right.ok sc_law_right (fun vs H Q E h => ?_) (fun cdv A outer s H vs Q E hr h => ?_)
  · unfold sp_law_right at h
    first | (obtain ⟨rfl, _⟩ := h; rfl) | (obtain ⟨_, rfl, _⟩ := h; rfl) | (obtain ⟨_, _, rfl, _⟩ := h; rfl) | (obtain ⟨_, _, _, rfl, _⟩ := h; rfl) | (obtain ⟨_, _, _, _, rfl, _⟩ := h; rfl) | (obtain ⟨_, _, _, _, _, rfl, _⟩ := h; rfl) | (obtain ⟨_, _, _, _, _, _, rfl, _⟩ := h; rfl) | (obtain ⟨_, _, _, _, _, _, _, rfl, _⟩ := h; rfl) | (obtain ⟨_, _, _, _, _, _, _, _, rfl, _⟩ := h; rfl) | (obtain ⟨_, _, _, _, _, _, _, _, _, rfl, _⟩ := h; rfl) | (obtain ⟨_, _, _, _, _, _, _, _, _, _, rfl, _⟩ := h; rfl) | (obtain ⟨_, _, _, _, _, _, _, _, _, _, _, rfl, _⟩ := h; rfl)
  · refine ⟨_, PSs.nox (pss_cons (ps_set (i := 1) sc_law_right.nd rfl (Or.inl rfl) (pe_lst (pa_cons pe_str (pa_cons pe_str (pa_cons pe_str (pa_cons pe_str (pa_cons pe_str (pa_cons pe_str pa_nil))))))))
      (pss_cons (ps_for PassesOwn.never rfl (pi_range1 (by rfl) T.n_range (pa_cons pe_int pa_nil)) (pg_name (i := 2) sc_law_right.nd rfl (Or.inl rfl)) (pss_cons (ps_set (i := 3) sc_law_right.nd rfl (Or.inl rfl) (pe_call (ok_law_parts T) (hr.mono (by decide)) rfl T.g_law_parts T.d_law_parts.kp (b_law_parts T.d_law_parts) .nil pass0 (pa_cons (pv 0) pa_nil)))
      (pss_cons (ps_if (pt_cmpR op_ne (pe_call (ok_law_said T) (hr.mono (by decide)) rfl T.g_law_said T.d_law_said.kp (b_law_said T.d_law_said) .nil pass0 (pa_cons (pv 3) pa_nil)) pe_str (nomark _)) (pss_one (ps_ret pe_bl)) pss_nil)
      (pss_cons (ps_set (i := 4) sc_law_right.nd rfl (Or.inl rfl) (pe_lst (pa_cons (pe_call (ok_law_draw T) (hr.mono (by decide)) rfl T.g_law_draw T.d_law_draw.kp (b_law_draw T.d_law_draw) .nil pass0 (pa_cons (pv 0) (pa_cons pe_int pa_nil))) pa_nil)))
      (Evl.pss_cut (ps_if (pt_cmpR op_eq (pe_call (ok_law_draw T) (hr.mono (by decide)) rfl T.g_law_draw T.d_law_draw.kp (b_law_draw T.d_law_draw) .nil pass0 (pa_cons (pv 0) (pa_cons pe_int pa_nil))) pe_int (nomark _)) (pss_one (ps_expr (pe_bm PySem.F.plainAttrs_list PySem.F.slot_list_append PySem.F.type_list_append mt_append (pv 4) (pa_cons (pe_call (ok_law_draw T) (hr.mono (by decide)) rfl T.g_law_draw T.d_law_draw.kp (b_law_draw T.d_law_draw) .nil pass0 (pa_cons (pv 0) (pa_cons pe_int pa_nil))) pa_nil)))) pss_nil)
      (pss_cons (ps_set (i := 5) sc_law_right.nd rfl (Or.inl rfl) (pe_callTy (call_listK (K := K)) (by rfl) T.n_list (by decide +kernel) (pa_cons (pv 3) pa_nil)))
      (pss_cons (ps_for PassesOwn.never rfl (pi_list (pv 4)) (pg_name (i := 6) sc_law_right.nd rfl (Or.inl rfl)) (pss_one (ps_asg (pe_call (ok_law_odd T) (hr.mono (by decide)) rfl T.g_law_odd T.d_law_odd.kp (b_law_odd T.d_law_odd) .nil pass0 (pa_cons (pv 0) (pa_cons (pv 3) (pa_cons (pv 6) pa_nil)))) (pg_sub (pv 5) (pv 6) set_list))))
      (pss_one (ps_if (pt_cmpR op_ne (pe_call (ok_law_said T) (hr.mono (by decide)) rfl T.g_law_said T.d_law_said.kp (b_law_said T.d_law_said) .nil pass0 (pa_cons (pv 5) pa_nil)) (pe_ix (ix_listK (K := K)) (pv 1) (pe_callB (cr_minK (K := K) rfl) (by rfl) T.n_min (by decide +kernel) (pa_cons (pv 4) pa_nil)) (fun _ _ => rfl)) (nomark _)) (pss_one (ps_ret pe_bl)) pss_nil)))))))))
      (pss_one (ps_ret (pe_and (pe_cmpR op_eq (pe_call (ok_law_said T) (hr.mono (by decide)) rfl T.g_law_said T.d_law_said.kp (b_law_said T.d_law_said) .nil pass0 (pa_cons (pe_lst (pa_cons (pe_op op_rep (pe_lst (pa_cons pe_int pa_nil)) pe_int) (pa_cons pe_int (pa_cons pe_int (pa_cons pe_int (pa_cons pe_int (pa_cons pe_int pa_nil))))))) pa_nil)) pe_str (nomark _)) (pe_one (pe_cmpR op_eq (pe_call (ok_law_said T) (hr.mono (by decide)) rfl T.g_law_said T.d_law_said.kp (b_law_said T.d_law_said) .nil pass0 (pa_cons (pe_lst (pa_cons (pe_lst (pa_cons pe_int pa_nil)) (pa_cons pe_int (pa_cons pe_int (pa_cons pe_int (pa_cons pe_int (pa_cons pe_int pa_nil))))))) pa_nil)) pe_str (nomark _)))))))), ?_⟩
    unfold sp_law_right at h
    obtain ⟨s, rfl, hs, k⟩ := h
    obtain ⟨a0, b0, c0, hs0⟩ := id hs
    walk_at "rd"
    intro w n0
    generalize eG0 : upd _ w _ = G0
    obtain ⟨g0, cw⟩ := gen_new n0 eG0
    clear eG0
    have nws : w ≠ s := (ne_of_none hs0 n0).symm
    walk_at "rd"
    refine for_range (lo := 0) (n := 8) (fun i σ H1 => ∃ v2 v3 v4 v5 v6, σ = [some (.ref s), some (.ref w), v2, v3, v4, v5, v6] ∧ SB s G0 H1 ∧ Src H1 s) ⟨_, _, _, _, _, rfl, SB.refl, _, _, _, g0 _ _ hs0⟩ ?_ ?_
    · rintro i σ H1 hi ⟨v2, v3, v4, v5, v6, rfl, f1, hs1⟩
      walk_at "rd"
      refine use_parts hs1 fun a H2 p f2 hs2 ok hp hpk => ?_
      obtain ⟨l, ha, hl⟩ := id hp
      walk_at "rd"
      refine use_said ha ⟨lv_ints hl (by have := ok.l1; omega), .int _, .int _, .int _, .int _, .int _⟩ fun x H3 s3 hx => ?_
      obtain rfl := said_none hx (ag_prt hl ok)
      have ha3 := s3 _ _ ha
      have hl3 := s3 _ _ hl
      have hs3 : Src H3 s := let ⟨a1, b1, c1, e1⟩ := hs2; ⟨a1, b1, c1, s3 _ _ e1⟩
      walk_at "rd"
      refine use_draw (by omega) (by omega) hs3 fun b1 H4 b1a b1b s4 hs4 => ?_
      obtain ⟨a4, b4, c4, hs40⟩ := id hs4
      walk_at "rd"
      intro q n5
      generalize eH5 : upd _ q _ = H5
      obtain ⟨s5, c5⟩ := gen_new n5 eH5
      clear eH5
      have nqs : q ≠ s := (ne_of_none hs40 n5).symm
      have hs5 : Src H5 s := ⟨_, _, _, s5 _ _ hs40⟩
      have f5 : SB s H2 H5 := (s3.sb.trans s4).trans s5.sb
      have hp5 : PrtAt H5 a p := hpk _ f5
      have nH2q : H2 q = none := (s3.sb.trans s4).free nqs n5
      walk_at "rd"
      refine ⟨fun σ' H' => ∃ bs : List Nat, σ' = [some (.ref s), some (.ref w), some (.int (0 + (i : Int))), some (.ref a), some (.ref q), v5, v6] ∧ 0 < bs.length ∧ bs.length ≤ 2 ∧ (∀ b ∈ bs, b < 6) ∧ H' q = some (.lst ((bs.map fun b : Nat => (b : Int)).map V.int)) ∧ SX [s, q] H5 H' ∧ Src H' s, ?_, ?_⟩
      · walk_at "rd"
        refine use_draw (by omega) (by omega) hs5 fun b2 H6 b2a b2b s6 hs6 => ?_
        have c6 := s6 _ _ nqs c5
        walk_at "rd"
        refine iteB (fun cc => ?_) (fun cc => ?_)
        · walk_at "rd"
          refine ⟨.inl ⟨rfl, _, SqL.of c6⟩, ?_⟩
          walk_at "rd"
          refine use_draw (by omega) (by omega) hs6 fun b3 H7 b3a b3b s7 hs7 => ?_
          have c7 := s7 _ _ nqs c6
          obtain ⟨a7, b7, c7', hs70⟩ := id hs7
          refine ⟨_, _, _, rfl, rfl, c7, szlt (Nat.le_of_ble_eq_true rfl), ?_⟩
          refine ⟨[b1.toNat, b3.toNat], rfl, Nat.le_of_ble_eq_true rfl, Nat.le_of_ble_eq_true rfl, fun b hb => ?_, ?_, ((s6.trans s7).sx (by simp)).upd (by simp), ⟨_, _, _, by rw [upd_ne nqs.symm]; exact hs70⟩⟩
          · rcases List.mem_cons.mp hb with rfl | hb
            · omega
            · rw [List.mem_singleton.mp hb]; omega
          · rw [upd_same]
            show some (HO.lst [V.int b1, V.int b3]) = some (HO.lst [V.int ((b1.toNat : Nat) : Int), V.int ((b3.toNat : Nat) : Int)])
            rw [Int.toNat_of_nonneg b1a, Int.toNat_of_nonneg b3a]
        · walk_at "rd"
          refine ⟨[b1.toNat], rfl, Nat.le_of_ble_eq_true rfl, Nat.le_of_ble_eq_true rfl, fun b hb => by rw [List.mem_singleton.mp hb]; omega, ?_, s6.sx (by simp), hs6⟩
          rw [c6]
          show some (HO.lst [V.int b1]) = some (HO.lst [V.int ((b1.toNat : Nat) : Int)])
          rw [Int.toNat_of_nonneg b1a]
      rintro σ H6 ⟨bs, rfl, l0, l2, hb6, c6, f6, hs6⟩
      have f26 : SB s H2 H6 := fun b o hb ho => f6 _ _ (by simp [hb, ne_of_none ho nH2q]) (f5 _ _ hb ho)
      have hp6 := hpk _ f26
      obtain ⟨l6, nls, nas, ha6, hl6⟩ := prt_ne hpk f26
      obtain ⟨a6, b6, c6', hs60⟩ := id hs6
      walk_at "rd"
      intro t n7
      generalize eH7 : upd _ t _ = H7
      obtain ⟨s7, c7⟩ := gen_new n7 eH7
      clear eH7
      have nts : t ≠ s := (ne_of_none hs60 n7).symm
      have ntq : t ≠ q := (ne_of_none c6 n7).symm
      have hs7 : Src H7 s := ⟨_, _, _, s7 _ _ hs60⟩
      have q7 := s7 _ _ c6
      have nlt : l6 ≠ t := ne_of_none hl6 n7
      have nat : a ≠ t := ne_of_none ha6 n7
      have nqt := ntq.symm
      walk_at "rd"
      refine for_list (xs := (bs.map fun b : Nat => (b : Int)).map V.int) (fun j σ G => ∃ (v : Option V) (ys : List V), σ = [some (.ref s), some (.ref w), some (.int (0 + (i : Int))), some (.ref a), some (.ref q), some (.ref t), v] ∧ Ent (fun b => b ≠ s ∧ b ≠ t) G p l6 (bs.take j) ys ∧ G t = some (.lst ys) ∧ SX [s, t] H7 G ∧ Src G s)
        ⟨_, _, rfl, Ent.start _ _ _ _, c7, SX.refl, hs7⟩ ?_ ?_ ?_
      · rintro j σ G hj ⟨v, ys, rfl, _, _, fx, _⟩
        exact SqL.of (fx _ _ (by simp [nqs, ntq.symm]) q7)
      · rintro j x σ G hx ⟨v, ys, rfl, ent, ct, fx, hsG⟩
        obtain ⟨z, hz, rfl⟩ := map_some hx
        rw [List.getElem?_map] at hz
        obtain ⟨b, hb, rfl⟩ := Option.map_eq_some_iff.mp hz
        have hb6' := hb6 b (List.mem_of_getElem? hb)
        obtain ⟨aG, bG, cG, hsG0⟩ := id hsG
        walk_at "rd"
        refine use_odd hsG ⟨l6, fx _ _ (by simp [nas, nat]) (s7 _ _ ha6), fx _ _ (by simp [nls, nlt]) (s7 _ _ hl6)⟩ ok hb6' fun v GB sB hsB od => ?_
        have od := od (fun b => b ≠ s ∧ b ≠ t) fun c hc => ⟨(ne_of_none hsG0 hc).symm, (ne_of_none ct hc).symm⟩
        have ent := ent.mono (G' := GB) fun c o hc ho => sB _ _ hc.1 ho
        have ct := sB _ _ nts ct
        obtain ⟨aB, bB, cB, hsB0⟩ := id hsB
        walk_at "rd"
        refine ⟨_, _, _, b, rfl, rfl, ct, by rw [ent.1]; exact ixN_nat hb6', ?_⟩
        refine ⟨_, _, rfl, ?_, upd_same, (fx.trans (sB.sx (by simp))).upd (by simp), ⟨_, _, _, by rw [upd_ne nts.symm]; exact hsB0⟩⟩
        rw [List.take_succ, hb]
        exact (ent.put hb6' od).mono fun c o hc ho => by rw [upd_ne hc.2]; exact ho
      · rintro σ G ⟨v, ys, rfl, ent, ct, fx, hsG⟩
        rw [List.take_of_length_le (by simp)] at ent
        obtain ⟨L, x1, x2, x3, x4, x5, rfl⟩ := six ent.1
        have hlG := fx _ _ (by simp [nls, nlt]) (s7 _ _ hl6)
        obtain ⟨aG, bG, cG, hsG0⟩ := id hsG
        have nqG := fx _ _ (by simp [nqs, nqt]) q7
        walk_at "rd"
        refine use_said ct (ent.kinds hlG ok) fun x G2 sG hx => ?_
        have nqG2 := sG _ _ nqG
        have fG2 : SB s G0 G2 := fun c o hc ho => by
          have h2 := f2 _ _ hc (f1 _ _ hc ho)
          have h6 := f26 _ _ hc h2
          exact sG _ _ (fx _ _ (by simp [hc, ne_of_none h6 n7]) (s7 _ _ h6))
        have cw2 := fG2 _ _ nws cw
        walk_at "rd"
        refine ⟨_, _, rfl, SqL.of nqG2, by rw [List.length_map]; exact l0, fun m hm hm2 => ?_⟩
        obtain ⟨mb, hmb, rfl⟩ := List.mem_map.mp hm
        have hlt : ∀ j ∈ bs, mb ≤ j := fun j hj => by
          have := hm2 (j : Int) (List.mem_map.mpr ⟨j, hj, rfl⟩)
          omega
        refine ⟨_, _, _, _, rfl, rfl, SqL.of cw2, wsL_at rfl (hb6 mb hmb), ?_⟩
        obtain rfl := said_at hx (ent.bad hlG ok hmb (hb6 mb hmb) hlt) fun j hj => ent.an hlG ok fun i hi hib => by have := hlt i hib; omega
        refine ne_eqS ?_
        walk_at "rd"
        obtain ⟨aG2, bG2, cG2, hsG2⟩ := id hsG
        exact ⟨_, _, _, _, _, rfl, fG2, _, _, _, sG _ _ hsG2⟩
    · rintro σ H1 ⟨v2, v3, v4, v5, v6, rfl, f1, hs1⟩
      walk_at "rd"
      intro q1 m1
      generalize eJ1 : upd _ q1 _ = J1
      obtain ⟨r1, d1⟩ := gen_new m1 eJ1
      clear eJ1
      walk_at "rd"
      refine ⟨_, 6, _, rfl, rfl, d1, by decide, by decide, szl (Nat.le_of_ble_eq_true rfl), ?_⟩
      intro q2 m2
      generalize eJ2 : upd _ q2 _ = J2
      obtain ⟨r2, d2⟩ := gen_new m2 eJ2
      clear eJ2
      walk_at "rd"
      intro q3 m3
      generalize eJ3 : upd _ q3 _ = J3
      obtain ⟨r3, d3⟩ := gen_new m3 eJ3
      clear eJ3
      have d23 := r3 _ _ d2
      walk_at "rd"
      refine use_said d3 ⟨lv_ints (ns := [64, 64, 64, 64, 64, 64]) d23 (by decide), .int _, .int _, .int _, .int _, .int _⟩ fun x J4 s4 hx => ?_
      obtain rfl := said_none hx ⟨[64, 64, 64, 64, 64, 64], ⟨q2, rfl, d23, by decide, by decide, by decide⟩, ⟨_, rfl, by decide, by decide⟩, ⟨_, rfl, by decide, by decide⟩, ⟨_, rfl, by decide, by decide⟩, ⟨_, rfl, by decide, by decide⟩, ⟨_, rfl, by decide, by decide⟩⟩
      walk_at "rd"
      intro q5 m5
      generalize eJ5 : upd _ q5 _ = J5
      obtain ⟨r5, d5⟩ := gen_new m5 eJ5
      clear eJ5
      walk_at "rd"
      intro q6 m6
      generalize eJ6 : upd _ q6 _ = J6
      obtain ⟨r6, d6⟩ := gen_new m6 eJ6
      clear eJ6
      have d56 := r6 _ _ d5
      walk_at "rd"
      refine use_said d6 ⟨lv_ints (ns := [1]) d56 (by decide), .int _, .int _, .int _, .int _, .int _⟩ fun x J7 s7 hx => ?_
      obtain rfl := said_none hx ⟨[1], ⟨q5, rfl, d56, by decide, by decide, by decide⟩, ⟨_, rfl, by decide, by decide⟩, ⟨_, rfl, by decide, by decide⟩, ⟨_, rfl, by decide, by decide⟩, ⟨_, rfl, by decide, by decide⟩, ⟨_, rfl, by decide, by decide⟩⟩
      walk_at "rd"
      refine bl_eqS ?_
      obtain ⟨a1, b1, c1, hs10⟩ := id hs1
      exact k J7 ((((((((g0.sb.trans f1).trans r1.sb).trans r2.sb).trans r3.sb).trans s4.sb).trans r5.sb).trans r6.sb).trans s7.sb) ⟨_, _, _, s7 _ _ (r6 _ _ (r5 _ _ (s4 _ _ (r3 _ _ (r2 _ _ (r1 _ _ hs10))))))⟩

theorem b_law {K : PySem.W.Frag} {fd : FuncData} (F : F_law K fd) : Binds K fd P_law [] := FunD.bindsN F fun _ _ _ _ _ _ us hl => match us, hl with | [_], _ => rfl
theorem ok_law (T : Txt K mg D) : FnOk P w K mg base CX0 8 (He.fAd K ("law", none)) (D D_law) P_law (sp_law K) := by
  refine T.d_law.ok sc_law (fun vs H Q E h => ?_) (fun cdv A outer s H vs Q E hr h => ?_)
  · unfold sp_law at h
    first | (obtain ⟨rfl, _⟩ := h; rfl) | (obtain ⟨_, rfl, _⟩ := h; rfl) | (obtain ⟨_, _, rfl, _⟩ := h; rfl) | (obtain ⟨_, _, _, rfl, _⟩ := h; rfl) | (obtain ⟨_, _, _, _, rfl, _⟩ := h; rfl) | (obtain ⟨_, _, _, _, _, rfl, _⟩ := h; rfl) | (obtain ⟨_, _, _, _, _, _, rfl, _⟩ := h; rfl) | (obtain ⟨_, _, _, _, _, _, _, rfl, _⟩ := h; rfl) | (obtain ⟨_, _, _, _, _, _, _, _, rfl, _⟩ := h; rfl) | (obtain ⟨_, _, _, _, _, _, _, _, _, rfl, _⟩ := h; rfl) | (obtain ⟨_, _, _, _, _, _, _, _, _, _, rfl, _⟩ := h; rfl) | (obtain ⟨_, _, _, _, _, _, _, _, _, _, _, rfl, _⟩ := h; rfl)
  · refine ⟨_, PSs.nox (pss_cons (ps_for PassesOwn.never rfl (pi_range1 (by rfl) T.n_range (pa_cons (pe_callB (call_max2 rfl) (by rfl) T.n_max (by decide +kernel) (pa_cons pe_int (pa_cons (pe_callB (call_min2 rfl) (by rfl) T.n_min (by decide +kernel) (pa_cons pe_int (pa_cons (pe_callB (call_lenK (K := K)) (by rfl) T.n_len (by decide +kernel) (pa_cons (pv 0) pa_nil)) pa_nil))) pa_nil))) pa_nil)) (pg_name (i := 1) sc_law.nd rfl (Or.inl rfl)) (pss_cons (ps_set (i := 2) sc_law.nd rfl (Or.inl rfl) (pe_call (ok_law_source T) (hr.mono (by decide)) rfl T.g_law_source T.d_law_source.kp (b_law_source T.d_law_source) .nil pass0 (pa_cons (pv 0) (pa_cons (pv 1) pa_nil))))
      (pss_one (ps_if (pt_not (pt_val (pe_call (ok_law_right T) (hr.mono (by decide)) rfl T.g_law_right T.d_law_right.kp (b_law_right T.d_law_right) .nil pass0 (pa_cons (pv 2) pa_nil)))) (pss_one (ps_ret pe_bl)) pss_nil))))
      (pss_one (ps_ret pe_bl))), ?_⟩
    unfold sp_law at h
    obtain ⟨a, ns, rfl, hS, hl, k⟩ := h
    walk_at "rd"
    refine ⟨_, _, rfl, .inl hS, ?_⟩
    walk_at "rd"
    generalize hn : Int.toNat _ = n
    have hn2 : n ≤ 63 := by
      subst hn
      simp only [List.length_map]
      (repeat' split) <;> omega
    refine for_range (lo := 0) (n := n) (fun i σ H' => ∃ v1 v2, σ = [some (.ref a), v1, v2] ∧ Same H H') ⟨_, _, rfl, Same.refl _⟩ ?_ ?_
    · rintro i σ H1 hi ⟨v1, v2, rfl, f1⟩
      walk_at "rd"
      refine use_source (f1.seq hS) (by omega) fun s H2 n2 s2 h2 => ?_
      walk_at "rd"
      refine use_right h2 fun H3 s3 h3 => ?_
      walk_at "rd"
      exact same_sb_new (f1.trans s2) s3 (f1.free n2)
    · rintro σ H1 ⟨v1, v2, rfl, f1⟩
      walk_at "rd"
      exact k _

end
end KR
open PySem PySem.W PySem.Calls PyProof.Rows in
set_option maxRecDepth 100000 in
set_option maxHeartbeats 0 in
theorem PySem.Challenge.cw_keeprows_k02_settings_refused_holds : PySem.Challenge.rw_keeprows_k02_settings_refused.Holds := by
  w_on; o_law
  refine HandSHeadRun.head_any (r := OpenLaw.row PySem.Challenge.rw_keeprows_k02_settings_refused) (q := view (OpenLaw.row PySem.Challenge.rw_keeprows_k02_settings_refused).prog [25]) (H := KR.hk) (ob := KR.ob) (M := 4000) (loose := KR.looseN) (d := HandSHeadRun.topDef (OpenLaw.row PySem.Challenge.rw_keeprows_k02_settings_refused).prog 25) (kwd := []) KR.ob_eq
    (by kernel_rfl) (fun s => by kernel_rfl) KR.run (by kernel_rfl) (by kernel_rfl) (by kernel_rfl) (by rfl) (by first | assumption | decide +kernel) (by decide +kernel) ⟨rfl, rfl, rfl, rfl, rfl, by decide +kernel⟩ ?hw ?hc
  case hw => w_witness2
  case hc =>
    refine L2.walk_ofE (l := PySem.Challenge.rw_keeprows_k02_settings_refused) (n := 63) (k := 8) (x := "script") (CX := L2.CX0) rfl (by decide) (by kernel_rfl) ⟨rfl, by decide, by decide⟩ ?F (fun _ _ _ _ z => z)
    intro w mg fa h Y G hmg0
    obtain ⟨K, KX, c, cx⟩ := Y
    have hmg : mg ("law" : PySem.Str) = some (.ref fa) := by
      have e : (HandSHeadRun.topDef (OpenLaw.row PySem.Challenge.rw_keeprows_k02_settings_refused).prog 25).name = ("law" : PySem.Str) := by kernel_rfl
      rw [← e]
      exact hmg0
    obtain ⟨D, T⟩ := KR.txt_of KX G c cx
    have e1 := hmg.symm.trans T.g_law
    cases e1
    exact ⟨K, D KR.D_law, KR.sp_law K, KX, fun s v => L2.FunD.bindsA (ps := ["script"]) T.d_law (fun _ _ _ _ _ _ us hl => match us, hl with | [_], _ => rfl) s [v] rfl, fun H a ns hl _ hS => by unfold KR.sp_law; exact ⟨a, ns, rfl, hS, hl, fun _ => rfl⟩, fun base _ _ => KR.ok_law T⟩
