import PyProof.Rows.All
import Wide.All
import OpenK.AllK
import Wide.FinOn
import HandS.ForMost
import HandS.Exc
import HandS.TryOnly
import HandS.TryMany
import HandS.WordsExc
import HandS.Defaults
import HandS.MakeKwOnly
import HandS.IsInst
import HandS.Sort
import HandS.OwnEq
import HandS.NoneIn
import HandS.Conv
import HandS.Flow
import HandS.Wide
import HandS.Evl
import HandS.Style
import HandS.Head0
import HandS.Head1
import HandS.Head2
import HandS.HeadEnd
import HandS.HeadHook1
import HandS.HeadHook2
import KE.KStateDown
import PyProof.LongRange
import HandS.ExcOwn
import HandS.ExcInit
import HandS.TryMany
import HandS.ExcField
import KE.KExcInit
import KE.KExcIs
import HandS.Lambda
import HandS.EndBits
import HandS.EndTab
import HandS.HeadWalk
import HandS.HeadHook4
import HandS.Nested
import HandS.NestedK
import PySem.Challenge.RW_keeprows_k11_heap_pages_refused
set_option Elab.async false
set_option linter.all false
set_option maxRecDepth 100000
set_option maxHeartbeats 16000000
set_option pp.deepTerms false
set_option pp.deepTerms.threshold 2
namespace KR
open PySem PySem.Spec PyProof.Rows L2
/-! ### small rules -/
theorem iteB {c : Bool} {A B : Prop} (h1 : c = true → A) (h2 : c = false → B) : if c = true then A else B := by
  cases c with
  | true => exact h1 rfl
  | false => exact h2 rfl
theorem iteT_of {c : Bool} {A B : Prop} (h : c = true) (a : A) : if c = true then A else B := by subst h; exact iteT a
theorem iteF_of {c : Bool} {A B : Prop} (h : c = false) (b : B) : if c = true then A else B := by subst h; exact iteF b
@[irreducible] def rIsiI (K : PySem.W.Frag) : List V → Hp → VK → Prop := rIsi K
theorem call_isiI {X : Cx} : CallR X (.builtin "isinstance") (rIsiI X.K) := by unfold rIsiI; exact call_isi
theorem isi_int {K : PySem.W.Frag} {H : Hp} {i : Int} {Q : VK} (q : Q (.bl true) H) : rIsiI K [.int i, .ty "int"] H Q := by
  unfold rIsiI; exact ⟨_, _, _, _, true, rfl, .ty _, .base (.int i), kit_ty (by decide +kernel), q⟩
theorem isi_bool {K : PySem.W.Frag} {H : Hp} {i : Int} {Q : VK} (q : Q (.bl false) H) : rIsiI K [.int i, .ty "bool"] H Q := by
  unfold rIsiI; exact ⟨_, _, _, _, false, rfl, .ty _, .base (.int i), kit_ty (by decide +kernel), q⟩
theorem isi_list {K : PySem.W.Frag} {H : Hp} {a : Addr} {xs : List V} {Q : VK} (h : H a = some (.lst xs)) (q : Q (.bl true) H) : rIsiI K [.ref a, .ty "list"] H Q := by
  unfold rIsiI; exact ⟨_, _, _, _, true, rfl, .ty _, .base (.lst h), kit_ty (by decide +kernel), q⟩
theorem pe_le {X : Cx} {e : Expr} {t t' : TE} (h : PE X e t) (k : ∀ σ H Q, t' σ H Q → t σ H Q) : PE X e t' := ⟨fun pins s σ H Q I hw => h.run pins s σ H Q I (k σ H Q hw)⟩
theorem pe_powc {X : Cx} {a b c : Int} {i j : Nat} {p1 p2 pos : Pos} (h : 0 ≤ b ∧ b ≤ 1000000 ∧ a.natAbs < 2 ^ 64 ∧ a ^ b.toNat = c) :
    PE X (.BinOp (.Constant (.int a) i p1) .Pow (.Constant (.int b) j p2) pos) (tC (.int c)) :=
  pe_le (pe_op op_pow pe_int pe_int) fun σ H Q q => ⟨a, b, rfl, rfl, ⟨h.1, h.2.1, h.2.2.1⟩, (show Q (.int (a ^ b.toNat)) H by rw [h.2.2.2]; exact q)⟩
theorem pe_globi {X : Cx} {x : Str} {i : Int} {pos : Pos} (hm : ∃ t, X.mg x = some (.int i t)) (hg : Gl X x := by rfl) (hd : (x == ("__debug__" : Str)) = false := by decide) : PE X (.Name x pos) (tC (.int i)) := by
  obtain ⟨t, h⟩ := hm
  exact pe_glob hg h ⟨t, rfl⟩ hd
/-! ### side conditions of numbers -/
theorem log2_lt {n : Nat} {k : Nat} (h : n < 2 ^ k) (hk : 0 < k) : n.log2 < k := by
  by_cases hn : n = 0
  · subst hn; simpa using hk
  · exact (Nat.log2_lt hn).2 h
theorem cdw {i j : Int} (h0 : 0 < j) (h1 : j ≤ 1000000000000000000000000000000000000000000) : CDivW i j :=
  ⟨h0, log2_lt (Nat.lt_of_lt_of_le (Nat.lt_succ_of_le (show j.natAbs ≤ 1000000000000000000000000000000000000000000 by omega)) (by decide +kernel)) (by decide)⟩
theorem cdv {i j : Int} (h0 : 0 < j) (h1 : j < 1073741824) : CDiv i j := ⟨h0, h1⟩
theorem cml {i j : Int} (h0 : -18446744073709551616 < i) (h1 : i < 18446744073709551616) : CMul i j := .inl ⟨h0, h1⟩
theorem cmr {i j : Int} (h0 : -18446744073709551616 < j) (h1 : j < 18446744073709551616) : CMul i j := .inr ⟨h0, h1⟩
/-! ### heaps: what was tracked stands, but for one address -/
def SB (s : Addr) (H H' : Hp) : Prop := ∀ b o, b ≠ s → H b = some o → H' b = some o
theorem SB.refl {s : Addr} {H : Hp} : SB s H H := fun _ _ _ h => h
theorem SB.trans {s : Addr} {H H1 H2 : Hp} (a : SB s H H1) (b : SB s H1 H2) : SB s H H2 := fun c o n h => b c o n (a c o n h)
theorem _root_.L2.Same.sb {s : Addr} {H H' : Hp} (a : Same H H') : SB s H H' := fun c o _ h => a c o h
theorem SB.free {s : Addr} {H H' : Hp} (e : SB s H H') {l : Addr} (n : l ≠ s) (h : H' l = none) : H l = none := by
  cases q : H l with
  | none => rfl
  | some o => rw [e l o n q] at h; cases h
theorem SB.upd {s : Addr} {H : Hp} {o : HO} : SB s H (upd H s o) := fun b u n h => by rw [upd_ne n]; exact h
theorem same_new {H : Hp} {p : Addr} {o : HO} (h : H p = none) : Same H (upd H p o) := fun b u e => by rw [upd_ne (ne_of_none e h)]; exact e
theorem gen_new {H H' : Hp} {p : Addr} {o : HO} (n : H p = none) (e : upd H p o = H') : Same H H' ∧ H' p = some o := by
  subst e
  exact ⟨same_new n, upd_same⟩
/-- a new object, its heap a letter -/
theorem new_obj {H : Hp} {o : HO} {R : Addr → Hp → Prop} (h : ∀ p H', H p = none → Same H H' → H' p = some o → R p H') : ∀ p, H p = none → R p (upd H p o) :=
  fun p hp => h p _ hp (same_new hp) upd_same
theorem new_ref {H : Hp} {o : HO} {Q : VK} (h : ∀ p H', H p = none → Same H H' → H' p = some o → Q (.ref p) H') : ∀ p, H p = none → Q (.ref p) (upd H p o) :=
  fun p hp => h p _ hp (same_new hp) upd_same
theorem hp_same {H H' : Hp} {a : Addr} {o : HO} (s : Same H H') (h : H a = some o) : H' a = some o := s a o h
theorem hp_sb {s a : Addr} {H H' : Hp} {o : HO} (e : SB s H H') (n : a ≠ s) (h : H a = some o) : H' a = some o := e a o n h
end KR
namespace KR
open PySem PySem.Spec PyProof.Rows L2 MeetsSeq
/-! ### list + list where the left one may be of the written part -/
theorem add_any {l b : Addr} {items items2 : Array Value} {n n2 : Nat} {sl sl2 : Array (Option Value)} (hz : items.size + items2.size ≤ sizeLine) :
    Meets (Builtin.«list.__add__» ⟨[.ref l, .ref b], []⟩) (fun _ R s =>
      (s.heap.get? l = some ⟨.type "list", none, .seq items n, sl⟩ ∧ s.heap.get? b = some ⟨.type "list", none, .seq items2 n2, sl2⟩) ∧
      R (.ok (.ret (Value.ref s.heap.objs.size))) { s with heap := s.heap.push { cls := Value.type "list", data := Data.seq (items ++ items2) } }) :=
  .of_wp fun prog w A R s h => by
    obtain ⟨hp, g, d, tk, os⟩ := s
    obtain ⟨⟨e1, e2⟩, h⟩ := h
    have f1 := AutoSeq1.idx_int
    have f2 := AutoSeq1.sub_tuple_tuple
    have f3 := AutoSeq1.sub_list_list
    have f4 := AutoSeq1.sub_tuple_list
    have f5 := AutoSeq1.sub_list_tuple
    wp_walk using wpAny_loadPart' e1, wpAny_loadPart' e2
    exact ⟨_, rfl, h⟩
def rCatS (K : PySem.W.Frag) : R2 := fun x y H Q => ∃ l b xs zs, x = .ref l ∧ y = .ref b ∧ SqL K H l xs ∧ SqL K H b zs ∧ xs.length + zs.length ≤ 100000 ∧
  ∀ p H', H p = none → Same H H' → H' p = some (.lst (xs ++ zs)) → Q (.ref p) H'
theorem op_catS {X : Cx} : OpR X (binaryOp .Add) (rCatS X.K) := by
  intro pins s σ H x y v u Q I rx ry h
  obtain ⟨l, b, xs, zs, rfl, rfl, hl, hb, hz, q⟩ := h
  cases rx
  cases ry
  obtain ⟨its, r, ⟨o, n, e, ec, ed, es⟩, _⟩ := I.list hl
  obtain ⟨its2, r2, ⟨o2, n2, e2, ec2, ed2, es2⟩, _⟩ := I.list hb
  obtain ⟨c, d, dt, sl⟩ := o
  obtain ⟨c2, d2, dt2, sl2⟩ := o2
  dsimp only at ec ed es ec2 ed2 es2
  subst ec ed es ec2 ed2 es2
  have hlen : its.length + its2.length ≤ sizeLine := by
    rw [← r.length, ← r2.length]
    exact Nat.le_trans hz (by decide)
  refine concat_meets ⟨_, e, rfl⟩ ⟨_, e2, rfl⟩ noFill_list_add seq_list_add F.slot_list_add F.entry_list_add (F.args_list_add_2 _ _) (add_any (by rw [List.size_toArray, List.size_toArray]; exact hlen)) ⟨⟨e, e2⟩, ?_⟩
  have ea : its.toArray ++ its2.toArray = (its ++ its2).toArray := by simp
  rw [ea]
  have hn := I.fresh
  have J := I.lnew (t' := s.toks) (r.append r2) (by rw [List.length_append]; exact Nat.le_trans hz (by decide))
  exact ⟨.ref _, _, J, rfl, q _ _ hn (same_new hn) upd_same⟩
end KR
namespace KR
open PySem PySem.Spec PyProof.Rows L2
/-! ### frames -/
def SX (X : List Addr) (H H' : Hp) : Prop := ∀ b o, b ∉ X → H b = some o → H' b = some o
theorem SX.refl {X : List Addr} {H : Hp} : SX X H H := fun _ _ _ h => h
theorem SX.trans {X : List Addr} {H H1 H2 : Hp} (a : SX X H H1) (b : SX X H1 H2) : SX X H H2 := fun c o n h => b c o n (a c o n h)
theorem SX.mono {X Y : List Addr} {H H1 : Hp} (a : SX X H H1) (h : ∀ x ∈ X, x ∈ Y) : SX Y H H1 := fun c o n q => a c o (fun z => n (h c z)) q
theorem SB.sx {s : Addr} {X : List Addr} {H H1 : Hp} (a : SB s H H1) (h : s ∈ X) : SX X H H1 := fun c o n q => a c o (fun z => n (z ▸ h)) q
theorem _root_.L2.Same.sx {X : List Addr} {H H1 : Hp} (a : Same H H1) : SX X H H1 := fun c o _ q => a c o q
theorem SX.sb {s : Addr} {H H1 : Hp} (a : SX [s] H H1) : SB s H H1 := fun c o n q => a c o (by simpa using n) q
theorem SX.upd {X : List Addr} {H H' : Hp} {p : Addr} {o : HO} (a : SX X H H') (h : p ∈ X) : SX X H (upd H' p o) := fun c u n q => by
  have e : c ≠ p := fun z => n (by rw [z]; exact h)
  rw [upd_ne e]; exact a c u n q
theorem SX.mut {X : List Addr} {H H' : Hp} {p : Addr} {o : HO} (a : SX X H H') (h : H p = none) : SX X H (L2.upd H' p o) := fun c u n q => by
  rw [upd_ne (ne_of_none q h)]; exact a c u n q
theorem SB.mut {s : Addr} {H H' : Hp} {p : Addr} {o : HO} (a : SB s H H') (h : H p = none) : SB s H (L2.upd H' p o) := fun c u n q => by
  rw [upd_ne (ne_of_none q h)]; exact a c u n q
theorem _root_.L2.Same.mut {H H' : Hp} {p : Addr} {o : HO} (a : Same H H') (h : H p = none) : Same H (L2.upd H' p o) := fun c u q => by
  rw [upd_ne (ne_of_none q h)]; exact a c u q
theorem SX.drop {X : List Addr} {H H' : Hp} {p : Addr} (a : SX (p :: X) H H') (h : H p = none) : SX X H H' := fun c u n q => by
  refine a c u (fun z => ?_) q
  rcases List.mem_cons.mp z with e | e
  · rw [e, h] at q; cases q
  · exact n e
theorem szl {n : Nat} (h : n ≤ 100000) : n ≤ sizeLine := Nat.le_trans h (by decide)
theorem szlt {n : Nat} (h : n ≤ 100000) : n < sizeLine := Nat.lt_of_le_of_lt h (by decide)
theorem atI_int {xs : List V} {i : Int} {j : Nat} {v : V} (hi : i = (j : Int)) (h : xs[j]? = some v) : atI xs i = some v := by subst hi; exact atI_nat h
theorem at_of_lt {xs : List V} {i : Int} (h0 : 0 ≤ i) (h1 : i < xs.length) : ∃ v, v ∈ xs ∧ atI xs i = some v ∧ xs[i.toNat]? = some v := by
  have h : i.toNat < xs.length := by omega
  refine ⟨xs[i.toNat], List.getElem_mem h, ?_, List.getElem?_eq_getElem h⟩
  have e : i = (i.toNat : Int) := by omega
  exact atI_int (xs := xs) (v := xs[i.toNat]) e (List.getElem?_eq_getElem h)
theorem map_some {ns : List Int} {i : Nat} {v : V} (h : (ns.map V.int)[i]? = some v) : ∃ z, ns[i]? = some z ∧ v = .int z := by
  rw [List.getElem?_map] at h
  cases e : ns[i]? with
  | none => rw [e] at h; cases h
  | some z => rw [e] at h; exact ⟨z, rfl, (Option.some.inj h).symm⟩
theorem gen_st {H H' : Hp} {a : Addr} {o : HO} (e : upd H a o = H') : SB a H H' ∧ H' a = some o := by subst e; exact ⟨SB.upd, upd_same⟩
theorem lt1000 {n : Nat} (h : Nat.ble (n + 1) 1000 = true) : n < 1000 := Nat.le_of_ble_eq_true h
theorem kb_of {K : PySem.W.Frag} {x qual : Str} {params : Arguments} {body : List Stmt} {scope : Scope} {f : Addr} {fd : FuncData} {ps : List Str} (F : FunD K x qual params body scope [] [] f fd) (n : Nat) (ks : List Str)
    (g : {α : Type} → List α → List α → List α) (hrel : ∀ {vs zs : List V} {us ws : List Value}, Vals vs us → Vals zs ws → vs.length = n → zs.length = ks.length → Vals (g vs zs) (g us ws))
    (h : ∀ (kV doc pm : Value) (an : Option Addr) (cdv ct : Value) (us ws : List Value), us.length = n → ws.length = ks.length → bindArgs (PySem.W.fnOf x qual params body scope .none kV doc pm an cdv ct) ⟨us, ks.zip ws⟩ = pure (ps.zip (g us ws)))
    (hb : ∀ {vs zs : List V} {us ws : List Value}, Vals vs us → Vals zs ws → Vals (g vs zs) (g us ws)) :
    KBn K fd ps n ks (fun us ws => g us ws) (fun vs zs => g vs zs) := by
  obtain ⟨oc, od, dV, kV, doc, pm, an, cdv, ct, osl, rfl, lk, hcd, hD, hK⟩ := F.ex
  rcases hD with ⟨_, rfl⟩ | ⟨e, _⟩
  · exact ⟨fun s us ws _ l1 l2 => BindsTo.of_eq (h kV doc pm an cdv ct us ws l1 l2), fun r1 r2 => hb r1 r2⟩
  · exact absurd rfl e
/-- keywords in the parameters' order -/
theorem kb_app {K : PySem.W.Frag} {x qual : Str} {params : Arguments} {body : List Stmt} {scope : Scope} {f : Addr} {fd : FuncData} {ps : List Str} (F : FunD K x qual params body scope [] [] f fd) (n : Nat) (ks : List Str)
    (h : ∀ (kV doc pm : Value) (an : Option Addr) (cdv ct : Value) (us ws : List Value), us.length = n → ws.length = ks.length → bindArgs (PySem.W.fnOf x qual params body scope .none kV doc pm an cdv ct) ⟨us, ks.zip ws⟩ = pure (ps.zip (us ++ ws))) :
    KBn K fd ps n ks (fun us ws => us ++ ws) (fun vs zs => vs ++ zs) := kb_of F n ks (fun a b => a ++ b) (fun r1 r2 _ _ => r1.append r2) h fun r1 r2 => r1.append r2
theorem gen_mk {H H' : Hp} {x dx : Addr} {o u : HO} (n : H x = none) (nd : H dx = none) (e : upd (upd H dx u) x o = H') : Same H H' ∧ H' x = some o := by
  subst e
  exact ⟨fun b v h => by rw [upd_ne (ne_of_none h n), upd_ne (ne_of_none h nd)]; exact h, upd_same⟩
theorem same_sb_new {H H1 H2 : Hp} {x : Addr} (a : Same H H1) (b : SB x H1 H2) (n : H x = none) : Same H H2 := fun c o h => b c o (ne_of_none h n) (a c o h)
/-! ### the head's facts, and a further Bool -/
def obsB (n : Nat) (fa : List He.Fa) (fn : List He.DefD) (ex : PySem.W.Frag → Bool) (g : Addr → Option Obj) : He.AlD :=
  ((He.obsD fa fn (He.frG g (He.asD g n))).1 && ex (He.frG g (He.asD g n)), (He.obsD fa fn (He.frG g (He.asD g n))).2)
def hookB (n : Nat) (fa : List He.Fa) (fn : List He.DefD) (ex : PySem.W.Frag → Bool) : PySem.W.Hook where
  α := He.AlD
  obs := fun s => obsB n fa fn ex s.heap.get?
  val := fun _ => He.valD fn
  says := fun _ h => ∃ K : PySem.W.Frag, K.In h ∧ He.SaysD fa fn K ∧ ex K = true
  of := fun _ s e => by
    refine ⟨He.frG s.heap.get? (He.asD s.heap.get? n), He.frG_in, ?_⟩
    have e1 : ((He.obsD fa fn (He.frG s.heap.get? (He.asD s.heap.get? n))).1 && ex (He.frG s.heap.get? (He.asD s.heap.get? n))) = true := congrArg (fun z : He.AlD => z.1) e
    have e2 : (obsB n fa fn ex s.heap.get?).2 = (He.valD fn).2 := congrArg (fun z : He.AlD => z.2) e
    obtain ⟨h1, h2⟩ := He.ba e1
    exact ⟨Prod.ext h1 e2, h2⟩
  keeps := fun _ _ _ h k => by
    obtain ⟨K, hK, c⟩ := h
    exact ⟨K, PySem.W.Frag.In.keeps hK k, c⟩
theorem obsB_eq {n : Nat} {fa : List He.Fa} {fn : List He.DefD} {ex : PySem.W.Frag → Bool} {g : Addr → Option Obj} {s : Shared} (h : ∀ a, g a = s.heap.get? a) : obsB n fa fn ex g = (hookB n fa fn ex).obs s := by
  have e : g = s.heap.get? := funext h
  subst e
  rfl
/-- what isinstance wants of a class -/
structure IsC (K : PySem.W.Frag) (C : Addr) : Prop where
  cl : PySem.W.findIn K (.ref C) "__class__" = some (some (.builtin "object.__class__"))
  g : PySem.W.specialIn K (.builtin "object.__class__") "__get__" = some (some (.builtin "getset_descriptor.__get__"))
  t : PySem.W.takesIn K (.builtin "object.__class__") = some true
  m : PySem.W.mroIn K C (.type "object") = some true
def isCB (C : Str) (K : PySem.W.Frag) : Bool :=
  decide (PySem.W.findIn K (.ref (He.ga K C)) "__class__" = some (some (.builtin "object.__class__"))) && (decide (PySem.W.specialIn K (.builtin "object.__class__") "__get__" = some (some (.builtin "getset_descriptor.__get__"))) &&
    (decide (PySem.W.takesIn K (.builtin "object.__class__") = some true) && decide (PySem.W.mroIn K (He.ga K C) (.type "object") = some true)))
theorem isCB_ok {C : Str} {K : PySem.W.Frag} (h : isCB C K = true) : IsC K (He.ga K C) := by
  unfold isCB at h
  obtain ⟨h1, h⟩ := He.ba h
  obtain ⟨h2, h⟩ := He.ba h
  obtain ⟨h3, h4⟩ := He.ba h
  exact ⟨of_decide_eq_true h1, of_decide_eq_true h2, of_decide_eq_true h3, of_decide_eq_true h4⟩
def kitB1 (ty : String) (C : Str) (b : Bool) (K : PySem.W.Frag) : Bool := decide (PySem.W.kitOne K (.type ty) (.ref (He.ga K C)) = some b)
def kitB2 (C : Str) (ty : String) (b : Bool) (K : PySem.W.Frag) : Bool := decide (PySem.W.kitOne K (.ref (He.ga K C)) (.type ty) = some b)
def kitB3 (C D : Str) (b : Bool) (K : PySem.W.Frag) : Bool := decide (PySem.W.kitOne K (.ref (He.ga K C)) (.ref (He.ga K D)) = some b)
theorem isi_own {K : PySem.W.Frag} {H : Hp} {a C dx D : Addr} {fs : List (Str × V)} {b : Bool} {Q : VK} (h : H a = some (.ins C dx fs)) (c : Cls K C) (i : IsC K C) (k : PySem.W.kitOne K (.ref C) (.ref D) = some b) (q : Q (.bl b) H) :
    rIsiI K [.ref a, .ref D] H Q := by
  unfold rIsiI; exact ⟨_, _, _, _, b, rfl, .own _, .base (.ins h c i.cl i.g i.t i.m), k, q⟩
theorem none_all {l : List Str} {fs : List (Str × V)} (h : (l.all fun x => (List.lookup x fs).isNone) = true) : ∀ x ∈ l, List.lookup x fs = none := fun x hx => by
  have := List.all_eq_true.mp h x hx
  exact Option.isNone_iff_eq_none.mp this
/-! ### data without bools: == is equality -/
mutual
def nbD : PyData → Bool
  | .none => true
  | .int _ => true
  | .str x => PyData.strOk x
  | .list xs => nbA xs
  | .tuple xs => nbA xs
  | .bool _ => false
  | .dict _ => false
def nbA : List PyData → Bool
  | [] => true
  | x :: xs => nbD x && nbA xs
end
mutual
theorem nb_lay : ∀ d : PyData, nbD d = true → PyData.canLay0 d = true
  | .none, _ => rfl
  | .int _, _ => rfl
  | .str x, h => h
  | .list xs, h => nb_layA xs h
  | .tuple xs, h => nb_layA xs h
  | .bool _, h => by cases h
  | .dict _, h => by cases h
theorem nb_layA : ∀ ds : List PyData, nbA ds = true → PyData.canLayAll0 ds = true
  | [], _ => rfl
  | x :: xs, h => by
    obtain ⟨h1, h2⟩ := He.ba (show (nbD x && nbA xs) = true from h)
    show (PyData.canLay0 x && PyData.canLayAll0 xs) = true
    rw [nb_lay x h1, nb_layA xs h2]
    rfl
end
mutual
theorem eqv_nb : ∀ d e : PyData, nbD d = true → nbD e = true → (PyData.eqv d e = true ↔ d = e)
  | .none, e, _, he => by cases e <;> simp_all [PyData.eqv, nbD]
  | .int i, e, _, he => by cases e <;> simp_all [PyData.eqv, nbD]
  | .str x, e, _, he => by cases e <;> simp_all [PyData.eqv, nbD]
  | .list xs, e, hd, he => by
    cases e with
    | list ys =>
      have k := eqv_nbA xs ys hd he
      constructor
      · intro h
        exact congrArg PyData.list (k.mp (by simpa [PyData.eqv] using h))
      · intro h
        injection h with h
        simpa [PyData.eqv] using k.mpr h
    | _ => simp_all [PyData.eqv, nbD]
  | .tuple xs, e, hd, he => by
    cases e with
    | tuple ys =>
      have k := eqv_nbA xs ys hd he
      constructor
      · intro h
        exact congrArg PyData.tuple (k.mp (by simpa [PyData.eqv] using h))
      · intro h
        injection h with h
        simpa [PyData.eqv] using k.mpr h
    | _ => simp_all [PyData.eqv, nbD]
  | .bool _, _, hd, _ => by cases hd
  | .dict _, _, hd, _ => by cases hd
theorem eqv_nbA : ∀ ds es : List PyData, nbA ds = true → nbA es = true → (PyData.eqvAll ds es = true ↔ ds = es)
  | [], [], _, _ => by simp [PyData.eqvAll]
  | [], _ :: _, _, _ => by simp [PyData.eqvAll]
  | _ :: _, [], _, _ => by simp [PyData.eqvAll]
  | x :: xs, y :: ys, hd, he => by
    obtain ⟨h1, h2⟩ := He.ba (show (nbD x && nbA xs) = true from hd)
    obtain ⟨h3, h4⟩ := He.ba (show (nbD y && nbA ys) = true from he)
    have k1 := eqv_nb x y h1 h3
    have k2 := eqv_nbA xs ys h2 h4
    simp only [PyData.eqvAll, Bool.and_eq_true, List.cons.injEq, k1, k2]
end
/-- d, without bools, not deep -/
def NB (d : PyData) : Prop := nbD d = true ∧ PyData.depth d ≤ 64
@[irreducible] def rEqN (K : PySem.W.Frag) : R2 := fun x y H Q => ∃ d e, Dp K H x d ∧ Dp K H y e ∧ NB d ∧ NB e ∧ ∀ b, (b = true ↔ d = e) → Q (.bl b) H
@[irreducible] def rNeN (K : PySem.W.Frag) : R2 := fun x y H Q => ∃ d e, Dp K H x d ∧ Dp K H y e ∧ NB d ∧ NB e ∧ ∀ b, (b = true ↔ ¬ d = e) → Q (.bl b) H
theorem NB.sh {d : PyData} (h : NB d) : SeqAt.shaped d = true := by
  unfold SeqAt.shaped
  rw [nb_lay d h.1, decide_eq_true h.2]
  rfl
theorem op_eqN {X : Cx} (hu : X.A.units + 64 < cLine) : OpR X (compareOp .Eq) (rEqN X.K) := by
  intro pins s σ H x y v u Q I rx ry h
  unfold rEqN at h
  obtain ⟨d, e, hd, he, n1, n2, q⟩ := h
  exact op_eqD hu pins s σ H x y v u Q I rx ry ⟨d, e, hd, he, n1.sh, n2.sh, q _ (eqv_nb d e n1.1 n2.1)⟩
theorem op_neN {X : Cx} (hu : X.A.units + 64 < cLine) : OpR X (compareOp .NotEq) (rNeN X.K) := by
  intro pins s σ H x y v u Q I rx ry h
  unfold rNeN at h
  obtain ⟨d, e, hd, he, n1, n2, q⟩ := h
  refine op_neD hu pins s σ H x y v u Q I rx ry ⟨d, e, hd, he, n1.sh, n2.sh, q _ ?_⟩
  have k := eqv_nb d e n1.1 n2.1
  cases hb : PyData.eqv d e with
  | true => rw [hb] at k; simp [k.mp rfl]
  | false => rw [hb] at k; simp at k; simp [k]
theorem use_eqN {K : PySem.W.Frag} {H : Hp} {x y : V} {d e : PyData} {Q : VK} (hx : Dp K H x d) (hy : Dp K H y e) (n1 : NB d) (n2 : NB e) (q : ∀ b, (b = true ↔ d = e) → Q (.bl b) H) : rEqN K x y H Q := by unfold rEqN; exact ⟨d, e, hx, hy, n1, n2, q⟩
theorem use_neN {K : PySem.W.Frag} {H : Hp} {x y : V} {d e : PyData} {Q : VK} (hx : Dp K H x d) (hy : Dp K H y e) (n1 : NB d) (n2 : NB e) (q : ∀ b, (b = true ↔ ¬ d = e) → Q (.bl b) H) : rNeN K x y H Q := by unfold rNeN; exact ⟨d, e, hx, hy, n1, n2, q⟩
/-! lists of pyi as data -/
def pyi (xs : List Int) : List PyData := xs.map PyData.int
theorem dp_pyi {K : PySem.W.Frag} {H : Hp} : ∀ xs : List Int, DpAll K H (xs.map V.int) (pyi xs)
  | [] => .nil
  | x :: xs => .cons (.int x) (dp_pyi xs)
theorem nb_ints : ∀ xs : List Int, nbA (pyi xs) = true
  | [] => rfl
  | x :: xs => by
    show (nbD (.int x) && nbA (pyi xs)) = true
    rw [nb_ints xs]
    rfl
theorem dep_ints : ∀ xs : List Int, PyData.depthAll (pyi xs) = 0
  | [] => rfl
  | x :: xs => by
    show max (PyData.depth (.int x)) (PyData.depthAll (pyi xs)) = 0
    rw [dep_ints xs]
    rfl
theorem nb_list (xs : List Int) : NB (.list (pyi xs)) := ⟨nb_ints xs, by show PyData.depthAll (pyi xs) + 1 ≤ 64; rw [dep_ints]; decide⟩
theorem nb_tup (xs : List Int) : NB (.tuple (pyi xs)) := ⟨nb_ints xs, by show PyData.depthAll (pyi xs) + 1 ≤ 64; rw [dep_ints]; decide⟩
theorem ints_inj {xs ys : List Int} (h : pyi xs = pyi ys) : xs = ys := by
  have := congrArg (fun z : List PyData => z.map fun d => match d with | .int i => i | _ => 0) h
  simpa [pyi, List.map_map, Function.comp_def] using this
theorem list_ints {xs ys : List Int} : PyData.list (pyi xs) = PyData.list (pyi ys) ↔ xs = ys := ⟨fun h => ints_inj (by injection h), fun h => by rw [h]⟩
theorem tup_ints {xs ys : List Int} : PyData.tuple (pyi xs) = PyData.tuple (pyi ys) ↔ xs = ys := ⟨fun h => ints_inj (by injection h), fun h => by rw [h]⟩
/-! ### the rules, the written part named (a comprehension's block has the def's) -/
section
variable {X : Cx} {K : PySem.W.Frag}
theorem ix_listK (h : X.K = K := by rfl) : IxR X (rIxL K) := h ▸ ix_list
theorem ix_tupK (h : X.K = K := by rfl) : IxR X (rIxT K) := h ▸ ix_tup
def rLenN (K : PySem.W.Frag) : List V → Hp → VK → Prop := fun xs H Q => ∃ p ys, xs = [.ref p] ∧ (SqL K H p ys ∨ SqT K H p ys) ∧ Q (.int ys.length) H
theorem call_lenK (h : X.K = K := by rfl) : CallR X (.builtin "len") (rLenN K) := h ▸ call_len_seq
def rListN (K : PySem.W.Frag) : List V → Hp → VK → Prop := fun xs H Q => ∃ p ys, xs = [.ref p] ∧ (SqL K H p ys ∨ SqT K H p ys) ∧ ∀ l, H l = none → Q (.ref l) (upd H l (.lst ys))
theorem call_listK (h : X.K = K := by rfl) : CallR X (.type "list") (rListN K) := h ▸ call_list_of
def rTupN (K : PySem.W.Frag) : List V → Hp → VK → Prop := fun xs H Q => ∃ p ys, xs = [.ref p] ∧ ((SqL K H p ys ∧ ∀ l, H l = none → Q (.ref l) (upd H l (.tup ys))) ∨ (SqT K H p ys ∧ Q (.ref p) H))
theorem call_tupK (h : X.K = K := by rfl) : CallR X (.type "tuple") (rTupN K) := h ▸ call_tuple_of
theorem op_catSK (h : X.K = K := by rfl) : OpR X (binaryOp .Add) (rCatS K) := h ▸ op_catS
theorem op_inK (h : X.K = K := by rfl) : OpR X (compareOp .In) (rIn K false) := h ▸ op_in_seq
theorem op_notInK (h : X.K = K := by rfl) : OpR X (compareOp .NotIn) (rIn K true) := h ▸ op_notIn_seq
theorem op_eqNK (hu : X.A.units + 64 < cLine) (h : X.K = K := by rfl) : OpR X (compareOp .Eq) (rEqN K) := h ▸ op_eqN hu
theorem op_neNK (hu : X.A.units + 64 < cLine) (h : X.K = K := by rfl) : OpR X (compareOp .NotEq) (rNeN K) := h ▸ op_neN hu
theorem sl_listK (h : X.K = K := by rfl) : SlR X (rSlL K) := h ▸ sl_list
theorem sl_tupK (h : X.K = K := by rfl) : SlR X (rSlT K) := h ▸ sl_tup
theorem cr_sumK (hc : X.calm = true) (h : X.K = K := by rfl) : CallR X (.builtin "sum") (rSum K) := h ▸ cr_sum hc
theorem cr_maxK (hc : X.calm = true) (h : X.K = K := by rfl) : CallR X (.builtin "max") (rMax K) := h ▸ cr_max hc
theorem cr_minK (hc : X.calm = true) (h : X.K = K := by rfl) : CallR X (.builtin "min") (rMin K) := h ▸ cr_min hc
theorem call_isiK2 (h : X.K = K := by rfl) : CallR X (.builtin "isinstance") (rIsiI K) := h ▸ call_isiI
theorem pe_fldK {e : Expr} {ta : TE} {f : Str} {pos : Pos} (he : PE X e ta) (hb : attributeBase e f X.env (eval e X.env) = eval e X.env) (h : X.K = K := by rfl) : PE X (.Attribute e f pos) (tFld K ta f) := h ▸ pe_fld he hb
end
end KR
namespace KR
open PySem PySem.Spec PyProof.Rows L2
/-! ### ranges of any size, by ones -/
theorem turn_long {P : Program} {w : World} {K : PySem.W.Frag} {tg : Expr} (j : Addr) (lo : Int) (n : Nat) : Turn P w K tg (Itr lo n) [j] j (fun i h => IsLongIter h j (lo + (i : Nat) * 1) ((n : Int) - (i : Nat)) 1) where
  mem := List.mem_singleton.mpr rfl
  obj := fun i h q b hb => by
    rw [List.mem_singleton.mp hb]
    exact ⟨_, q, fun v z => by
      have y : Data.fields _ = Data.cell v := z
      cases y⟩
  keep := fun i h h' q k => k j (List.mem_singleton.mpr rfl) _ q
  item := by
    intro Y e1 e2 e3 hc i pins s σ H E I fp q g
    subst e1 e2 e3
    obtain ⟨a0, a1, a2, a3, a4, a5⟩ := fp j (List.mem_singleton.mpr rfl)
    refine (Walks.longrange (prog := Y.prog) (w := Y.w) (I.ok.hd hc) j lo 1 n).item i s _ _ g q fun v h' tk hv q' kk => ?_
    obtain ⟨t, rfl⟩ := hv
    have J : Inv Y pins σ H { s with heap := h', toks := tk } := I.turned (fun b o hb e => kk b o (by simpa using hb) e) a0 a1 a3 a4 a5
    exact ⟨_, rfl, go_of (s := { s with heap := h', toks := tk }) (n := "longrange_iterator") q' rfl rfl (by decide) ⟨.int (lo + i), H, J, ⟨t, by rw [Int.mul_one]⟩, ⟨rfl, rfl⟩, q', fun b hb => (fp b hb).1⟩⟩
  done := by
    intro Y e1 e2 e3 hc i pins s σ H E I fp q g
    subst e1 e2 e3
    obtain ⟨a0, a1, a2, a3, a4, a5⟩ := fp j (List.mem_singleton.mpr rfl)
    have hle : n ≤ i := g
    exact wpAny_pyNext_long_end (I.ok.hd hc) q (by omega) fun h' eb => ⟨rfl, I.turned (t' := s.toks) (fun b o hb e => eb b o hb e) a0 a1 a3 a4 a5⟩
  self := fun _ _ _ _ _ q h => wpAny_pyIter_longiter q h
section
variable {X : Cx} {tg : Expr}
theorem long_it {pins : List (Addr × Obj)} {σ : L2.St} {H : Hp} {s : Shared} {R : It → Hp → Prop} {E : Value → Shared → Prop} {lo hi : Int} {t u v : Tok} {tk : Nat} (I : Inv X pins σ H s) (hb : Builtin.Range.small lo hi 1 = false)
    (q : R (Itr lo (hi - lo).toNat) H) : wpAny (model X.prog X.w) X.A (pyIter (.ref s.heap.objs.size)) (PIE X pins σ tg R) E { s with heap := s.heap.push { cls := .type "range", data := .fields #[.int lo t, .int hi u, .int 1 v] }, toks := tk } := by
  refine wpAny_pyIter_longrange (IsRange.new ..) hb ?_
  have J := I.kept (h' := s.heap.push { cls := .type "range", data := .fields #[.int lo t, .int hi u, .int 1 v] }) (t' := tk) fun b o e => Heap.get?_push_of_some _ e
  refine ⟨_, [_], _, _, H, rfl, J.kept (t' := tk) fun b o e => Heap.get?_push_of_some _ e, turn_long _ lo (hi - lo).toNat, ?_, fun b hb => ?_, q⟩
  · have f1 : lo + ((0 : Nat) : Int) * 1 = lo := by simp
    have f2 : (((hi - lo).toNat : Nat) : Int) - ((0 : Nat) : Int) = Builtin.Range.rangeSize lo hi 1 := by
      rw [rangeSize_one]
      split <;> omega
    show IsLongIter _ _ (lo + ((0 : Nat) : Int) * 1) ((((hi - lo).toNat : Nat) : Int) - ((0 : Nat) : Int)) 1
    rw [f1, f2]
    exact Heap.get?_push_size _ rfl
  · rw [List.mem_singleton.mp hb]
    exact J.fpOk (Nat.le_refl _) (J.hok.fresh (Nat.le_refl _))
/-- small with the bounds that the library's rule wants, or any size -/
theorem any_it {pins : List (Addr × Obj)} {σ : L2.St} {H : Hp} {s : Shared} {R : It → Hp → Prop} {E : Value → Shared → Prop} {lo hi : Int} {t u v : Tok} {tk : Nat} (I : Inv X pins σ H s)
    (q : R (Itr lo (hi - lo).toNat) H) : wpAny (model X.prog X.w) X.A (pyIter (.ref s.heap.objs.size)) (PIE X pins σ tg R) E { s with heap := s.heap.push { cls := .type "range", data := .fields #[.int lo t, .int hi u, .int 1 v] }, toks := tk } := by
  cases hb : Builtin.Range.small lo hi 1 with
  | false => exact long_it I hb q
  | true =>
    refine wpAny_pyIter_range (IsRange.new ..) hb ?_
    have J := I.kept (h' := s.heap.push { cls := .type "range", data := .fields #[.int lo t, .int hi u, .int 1 v] }) (t' := tk) fun b o e => Heap.get?_push_of_some _ e
    refine ⟨_, [_], _, _, H, rfl, J.kept (t' := tk) fun b o e => Heap.get?_push_of_some _ e, turn_range _ lo (hi - lo).toNat, ?_, fun b hb => ?_, q⟩
    · have f1 : lo + ((0 : Nat) : Int) * 1 = lo := by simp
      have f2 : (((hi - lo).toNat : Nat) : Int) - ((0 : Nat) : Int) = Builtin.Range.rangeSize lo hi 1 := by
        rw [rangeSize_one]
        split <;> omega
      show IsRangeIter _ _ (lo + ((0 : Nat) : Int) * 1) ((((hi - lo).toNat : Nat) : Int) - ((0 : Nat) : Int)) 1
      rw [f1, f2]
      exact Heap.get?_push_size _ rfl
    · rw [List.mem_singleton.mp hb]
      exact J.fpOk (Nat.le_refl _) (J.hok.fresh (Nat.le_refl _))
def iRngB (ta : TA) : TI := fun σ H R => ta σ H fun vs H1 => ∃ i j : Int, vs = [.int i, .int j] ∧ R (Itr i (j - i).toNat) H1
theorem pi_rangeB {a b : Expr} {ta : TA} {p pos : Pos} (hg : Gl X "range") (hm : X.mg "range" = none) (ha : PA X [a, b] ta) (hs : starEach [a, b] X.env = [(false, eval a X.env), (false, eval b X.env)] := by rfl) (hs2 : starEach [b] X.env = [(false, eval b X.env)] := by rfl) :
    PI X tg (.Call (.Name "range" p) [a, b] [] pos) (iRngB ta) := by
  refine ⟨fun pins s σ H R I h => ?_⟩
  refine Call_ (ld_blt I hg hm boot_range (PyProof.Rows.callWith_type1 (thn (ha.run pos pins s σ H _ I h) fun us s1 z => ?_) (by rw [hs, hs2]) (by rw [hs2]; rfl)))
  obtain ⟨vs, H1, I1, r1, i, j, e, q⟩ := z
  subst e
  obtain ⟨u1, u2, e, ⟨t, e1⟩, ⟨t', e2⟩⟩ := vals2 r1
  subst e e1 e2
  exact call_range_2 (any_it I1 q)
end
end KR
namespace PySem.W
open PySem PySem.Calls PyProof.Rows Builtin
section
variable {prog : Program} {w : World} {A : Around} {E : Value → Shared → Prop} {s : Shared} {K : Frag} {x C L f : Addr} {h₀ : Heap} {m : Str → Option Value} {ox : Obj} {od : Option Obj} {b tb : Value}
/-- != of an instance whose class has its own __eq__ and object's __ne__ -/
theorem ne_own {Q : Value → Shared → Prop} (hu : A.units + 1 < cLine) (X : K.In s.heap) (I : InstAt s.heap x ox C od) (hb : Looks (model prog w) s.heap (typeOf b) tb) (hn : notFirst K C tb = true)
    (hs : findIn K (.ref C) "__eq__" = some (some (.ref f))) (hf : isFn K (.ref f) = true) (hne : findIn K (.ref C) "__ne__" = some (some (.builtin "object.__ne__"))) (hob : mroIn K C (.type "object") = some true)
    (h : wpAny (model prog w) A.in1 (call (.ref f) [.ref x, b]) (fun v s' => ∃ r, v = .bool r ∧ Q (.bool (!r)) s') E s) : wpAny (model prog w) A (richCompare .NotEq (.ref x) b) Q E s := by
  have S : Slot "object" "__ne__" "object.__ne__" := F.cmp_object.ne
  have body : wpAny (model prog w) A.in1 (Builtin.«object.__ne__» ⟨[.ref x, b], []⟩) (fun fin s' => match fin with | .done g => wants (fun v s' => ∃ r, v = .bool r ∧ Q v s') E (.ok g) s' | .again c' => c'.quiet = true ∧ codeAny (model prog w) A c' (wants (fun v s' => ∃ r, v = .bool r ∧ Q v s') E) s') (fun e s' => wants (fun v s' => ∃ r, v = .bool r ∧ Q v s') E (.error e) s') s := by
    unfold Builtin.«object.__ne__»
    have hu1 : A.in1.units < cLine := hu
    refine wpAny_bind (wpAny_pure ?_)
    refine wpAny_bind (wpAny_cRoomFor hu1 ?_)
    refine wpAny_bind (ifBound_K X I hs hf (wpAny_mono h (fun v s' hv => ?_) fun _ _ e => e))
    obtain ⟨r, rfl, q⟩ := hv
    dsimp only
    refine wpAny_bind (wpAny_truthy_bool ?_)
    exact wpAny_pure ⟨_, rfl, q⟩
  have one : wpAny (model prog w) A (tryCompare (.ref x) "__ne__" b) (fun r s' => ∃ v, r = some v ∧ Q v s') E s := by
    unfold tryCompare
    refine wpAny_bind ?_
    simp only [callSpecialIfBound?, bindSpecialIfBound?]
    refine wpAny_holding (wpAny_bind (wpAny_bind (wpAny_bind (I.type.here ((looks_findIn X hne).here ?_)))))
    simp only [S.bind]
    refine wpAny_bind (wpAny_askSetting (wpAny_ite ?_))
    have hcall : wpAny (model prog w) A (call (.builtin "object.__ne__") [.ref x, b]) (fun v s' => ∃ r, v = .bool r ∧ Q v s') E s := by
      refine wpAny_call (codeAny_call_builtin S.plain F.cmpEntry_ne (check_slot F.cmpKind_ne F.cmpSplit_ne (I.type.andThen (looks_mroIn X hob)) (F.cmpArgs_ne _ _) body))
    have fin : wpAny (model prog w) A (call (.builtin "object.__ne__") ([.ref x] ++ [b]) >>= fun v => pure (some v)) (fun (r : Option Value) s' => wpAny (model prog w) A (match r with | some .notImplemented | none => pure none | some v => pure (some v)) (fun r s' => ∃ v, r = some v ∧ Q v s') E s') E s := by
      refine wpAny_bind (wpAny_mono hcall (fun v s' h' => ?_) fun _ _ h' => h')
      obtain ⟨r, rfl, q⟩ := h'
      exact wpAny_pure (wpAny_pure ⟨_, rfl, q⟩)
    split
    · exact wpAny_bind (wpAny_pure (wpAny_pure fin))
    · exact wpAny_tryCatch (wpAny_bind (wpAny_pure (wpAny_pure fin)))
  have hu0 : A.units < cLine := Nat.lt_of_succ_lt hu
  unfold richCompare
  simp only [oneThing_ref]
  refine wpAny_holding (wpAny_bind (wpAny_cRoomFor hu0 ?_))
  refine wpAny_bind (I.type.here (wpAny_bind (hb.here ?_)))
  split
  · rename_i q
    have e : subIn K tb (.ref C) = some false := by
      rcases Bool.or_eq_true_iff.mp hn with e | e
      · rw [beq_iff_eq.mp e] at q; simp at q
      · exact beq_iff_eq.mp e
    refine wpAny_bind ((looks_subIn X e).here ?_)
    simp only [Bool.false_eq_true, if_false]
    refine wpAny_bind (wpAny_mono one (fun r s' z => ?_) fun _ _ e => e)
    obtain ⟨v, rfl, hq⟩ := z
    exact wpAny_pure hq
  · refine wpAny_bind (wpAny_pure ?_)
    simp only [Bool.false_eq_true, if_false]
    refine wpAny_bind (wpAny_mono one (fun r s' z => ?_) fun _ _ e => e)
    obtain ⟨v, rfl, hq⟩ := z
    exact wpAny_pure hq
end
end PySem.W
namespace KR
open PySem PySem.Spec PyProof.Rows L2
/-- what == by an own __eq__ wants of the class -/
structure EqC (K : PySem.W.Frag) (C : Addr) : Prop where
  nf : ∀ t ∈ (["int", "NoneType", "bool", "str", "list", "tuple", "dict"] : List String), PySem.W.notFirst K C (.type t) = true
  ne : PySem.W.findIn K (.ref C) "__ne__" = some (some (.builtin "object.__ne__"))
  ob : PySem.W.mroIn K C (.type "object") = some true
def eqCB (C : Str) (K : PySem.W.Frag) : Bool :=
  ((["int", "NoneType", "bool", "str", "list", "tuple", "dict"] : List String).all fun t => PySem.W.notFirst K (He.ga K C) (.type t)) &&
    (decide (PySem.W.findIn K (.ref (He.ga K C)) "__ne__" = some (some (.builtin "object.__ne__"))) && decide (PySem.W.mroIn K (He.ga K C) (.type "object") = some true))
theorem eqCB_ok {C : Str} {K : PySem.W.Frag} (h : eqCB C K = true) : EqC K (He.ga K C) := by
  unfold eqCB at h
  obtain ⟨h1, h⟩ := He.ba h
  obtain ⟨h2, h3⟩ := He.ba h
  exact ⟨fun t ht => List.all_eq_true.mp h1 t ht, of_decide_eq_true h2, of_decide_eq_true h3⟩
/-- the other side: a plain value, a list, a tuple or an instance of the same class -/
def OthV (K : PySem.W.Frag) (C : Addr) (H : Hp) : V → Prop
  | .int _ | .non | .bl _ | .str _ => True
  | .ref b => (∃ xs, SqL K H b xs) ∨ (∃ xs, SqT K H b xs) ∨ ∃ dx fs, H b = some (.ins C dx fs)
  | _ => False
theorem OthV.looks {X : Cx} {C : Addr} {pins : List (Addr × Obj)} {s : Shared} {σ : L2.St} {H : Hp} {y : V} {u : Value} (ec : EqC X.K C) (I : Inv X pins σ H s) (o : OthV X.K C H y) (r : RelV y u) :
    ∃ tb, PySem.W.Looks (model X.prog X.w) s.heap (typeOf u) tb ∧ PySem.W.notFirst X.K C tb = true := by
  cases y with
  | non => cases r; exact ⟨_, .now, ec.nf "NoneType" (by decide)⟩
  | bl i => cases r; exact ⟨_, .now, ec.nf "bool" (by decide)⟩
  | int i => obtain ⟨t, rfl⟩ := r; exact ⟨_, .now, ec.nf "int" (by decide)⟩
  | str i => obtain ⟨t, rfl⟩ := r; exact ⟨_, .now, ec.nf "str" (by decide)⟩
  | ref b =>
    cases r
    rcases o with ⟨xs, h⟩ | ⟨xs, h⟩ | ⟨dx, fs, h⟩
    · obtain ⟨its, _, ⟨o, n, ho, hc, _⟩, _⟩ := I.list h
      exact ⟨_, by rw [← hc]; exact (PySem.W.Looks.ld ho).andThen .now, ec.nf "list" (by decide)⟩
    · obtain ⟨its, _, ⟨o, ho, hc, _⟩, _⟩ := I.tuple h
      exact ⟨_, by rw [← hc]; exact (PySem.W.Looks.ld ho).andThen .now, ec.nf "tuple" (by decide)⟩
    · obtain ⟨m, J, _⟩ := ins_get I.hok h
      obtain ⟨od, J, _⟩ := J.look
      exact ⟨.ref C, J.type, by simp [PySem.W.notFirst]⟩
  | _ => exact absurd o (by intro z; exact z)
/-- x == y, x != y by the own __eq__ with the promise sp -/
@[irreducible] def rEqO (K : PySem.W.Frag) (C : Addr) (sp : Sp) (E : XK) : R2 := fun x y H Q => ∃ a dx fs, x = .ref a ∧ H a = some (.ins C dx fs) ∧ OthV K C H y ∧ sp [x, y] H (fun v H' => ∃ b, v = .bl b ∧ Q (.bl b) H') E
@[irreducible] def rNeO (K : PySem.W.Frag) (C : Addr) (sp : Sp) (E : XK) : R2 := fun x y H Q => ∃ a dx fs, x = .ref a ∧ H a = some (.ins C dx fs) ∧ OthV K C H y ∧ sp [x, y] H (fun v H' => ∃ b, v = .bl b ∧ Q (.bl (!b)) H') E
theorem use_eqO {K : PySem.W.Frag} {C : Addr} {sp : Sp} {E : XK} {a dx : Addr} {fs : List (Str × V)} {y : V} {H : Hp} {Q : VK} (h : H a = some (.ins C dx fs)) (o : OthV K C H y) (k : sp [.ref a, y] H (fun v H' => ∃ b, v = .bl b ∧ Q (.bl b) H') E) : rEqO K C sp E (.ref a) y H Q := by
  unfold rEqO; exact ⟨a, dx, fs, rfl, h, o, k⟩
theorem use_neO {K : PySem.W.Frag} {C : Addr} {sp : Sp} {E : XK} {a dx : Addr} {fs : List (Str × V)} {y : V} {H : Hp} {Q : VK} (h : H a = some (.ins C dx fs)) (o : OthV K C H y) (k : sp [.ref a, y] H (fun v H' => ∃ b, v = .bl b ∧ Q (.bl (!b)) H') E) : rNeO K C sp E (.ref a) y H Q := by
  unfold rNeO; exact ⟨a, dx, fs, rfl, h, o, k⟩
section
variable {X : Cx} {CX : CXT} {C f : Addr} {fd : FuncData} {ps : List Str} {sp : Sp} {E : XK} {k : Nat}
theorem run_own {A : Around} {pins : List (Addr × Obj)} {σ : L2.St} {H : Hp} {s : Shared} {Q : VK} {us : List Value} {vs : List V} (hA : A.frames = X.A.frames) (F : FnOk X.prog X.w X.K X.mg X.base CX k f fd ps sp) (hr : Room k A) (hb : Binds X.K fd ps []) (hx : Passes CX X E)
    (I : Inv X pins σ H s) (r : Vals vs us) (h : sp vs H Q E) : wpAny (model X.prog X.w) A (call (.ref f) us) (EP X pins σ Q) X.xe s := by
  have hl : us.length = ps.length := by rw [← r.length]; exact F.len _ _ _ _ h
  have e0 : Env0 X.prog X.w X.K X.mg X.base A X.stack s H := by
    have e := I.env0
    exact ⟨by rw [hA]; exact e.frames, e.mod, e.bs, e.bsz, e.funs, e.frf, e.hok, e.bare⟩
  refine wpAny_call (codeAny_mono (F.run A X.stack s H ⟨us, []⟩ us vs Q E hr e0 (by
    have := hb s us I.kIn (by simpa using hl)
    simpa using this) r h) fun r s' hq => ?_)
  cases r with
  | error e => exact hx pins σ H s e s' I hq
  | ok fl =>
    cases fl with
    | ret u => exact I.after hq
    | next => exact False.elim hq
    | brk => exact False.elim hq
    | cont => exact False.elim hq
theorem op_eqO (F : FnOk X.prog X.w X.K X.mg X.base CX k f fd ps sp) (hm : Meth X.K C "__eq__" f) (ec : EqC X.K C) (hr : Room k X.A) (hb : Binds X.K fd ps []) (hx : Passes CX X E) : OpR X (compareOp .Eq) (rEqO X.K C sp E) := by
  intro pins s σ H x y v u Q I rx ry hq
  unfold rEqO at hq
  obtain ⟨a, dx, fs, rfl, ha, o, q⟩ := hq
  cases rx
  obtain ⟨mA, J, _⟩ := ins_get I.hok ha
  obtain ⟨od, J, _⟩ := J.look
  obtain ⟨tb, hl, hn⟩ := o.looks ec I ry
  obtain ⟨m, hF⟩ := I.fr
  show wpAny (model X.prog X.w) X.A (richCompare .Eq (.ref a) u) (EP X pins σ Q) X.xe s
  refine PySem.W.cmp_K (op := .Eq) hr.units0 hF I.ok.mod.kin J hl hn hm.at_ hm.fn ?_
  refine wpAny_mono (run_own rfl F hr hb hx I (.cons (show RelV (.ref a) (.ref a) from rfl) (.cons ry .nil)) q) (fun r s' hq => ?_) fun _ _ e => e
  obtain ⟨w, H', I', rw', b, rfl, q⟩ := hq
  cases rw'
  exact ⟨.bl b, H', I', rfl, q⟩
theorem op_neO (F : FnOk X.prog X.w X.K X.mg X.base CX k f fd ps sp) (hm : Meth X.K C "__eq__" f) (ec : EqC X.K C) (hr : Room (k + 1) X.A) (hb : Binds X.K fd ps []) (hx : Passes CX X E) : OpR X (compareOp .NotEq) (rNeO X.K C sp E) := by
  intro pins s σ H x y v u Q I rx ry hq
  unfold rNeO at hq
  obtain ⟨a, dx, fs, rfl, ha, o, q⟩ := hq
  cases rx
  obtain ⟨mA, J, _⟩ := ins_get I.hok ha
  obtain ⟨od, J, _⟩ := J.look
  obtain ⟨tb, hl, hn⟩ := o.looks ec I ry
  show wpAny (model X.prog X.w) X.A (richCompare .NotEq (.ref a) u) (EP X pins σ Q) X.xe s
  refine PySem.W.ne_own hr.in1.units0 I.kIn J hl hn hm.at_ hm.fn ec.ne ec.ob ?_
  refine wpAny_mono (run_own rfl F hr.in1 hb hx I (.cons (show RelV (.ref a) (.ref a) from rfl) (.cons ry .nil)) q) (fun r s' hq => ?_) fun _ _ e => e
  obtain ⟨w, H', I', rw', b, rfl, q⟩ := hq
  cases rw'
  exact ⟨b, rfl, .bl (!b), H', I', rfl, q⟩
end
end KR
namespace KR
open PySem PySem.Spec PyProof.Rows L2 Builtin Builtin.ObjectAttr
/-! ### the head's facts, the module of statics among the written objects -/
def frC (g : Addr → Option Obj) (n : Nat) : PySem.W.Frag := He.frG g (cStatics :: He.asD g n)
def obsC (n : Nat) (fa : List He.Fa) (fn : List He.DefD) (ex : PySem.W.Frag → Bool) (g : Addr → Option Obj) : He.AlD := ((He.obsD fa fn (frC g n)).1 && ex (frC g n), (He.obsD fa fn (frC g n)).2)
def hookC (n : Nat) (fa : List He.Fa) (fn : List He.DefD) (ex : PySem.W.Frag → Bool) : PySem.W.Hook where
  α := He.AlD
  obs := fun s => obsC n fa fn ex s.heap.get?
  val := fun _ => He.valD fn
  says := fun _ h => ∃ K : PySem.W.Frag, K.In h ∧ He.SaysD fa fn K ∧ ex K = true
  of := fun _ s e => by
    refine ⟨frC s.heap.get? n, He.frG_in, ?_⟩
    obtain ⟨h1, h2⟩ := He.ba (show ((He.obsD fa fn (frC s.heap.get? n)).1 && ex (frC s.heap.get? n)) = true from congrArg (fun z : He.AlD => z.1) e)
    exact ⟨Prod.ext h1 (show (obsC n fa fn ex s.heap.get?).2 = (He.valD fn).2 from congrArg (fun z : He.AlD => z.2) e), h2⟩
  keeps := fun _ _ _ h k => let ⟨K, hK, c⟩ := h; ⟨K, PySem.W.Frag.In.keeps hK k, c⟩
theorem obsC_eq {n : Nat} {fa : List He.Fa} {fn : List He.DefD} {ex : PySem.W.Frag → Bool} {g : Addr → Option Obj} {s : Shared} (h : ∀ a, g a = s.heap.get? a) : obsC n fa fn ex g = (hookC n fa fn ex).obs s := by
  obtain rfl : g = s.heap.get? := funext h
  rfl
/-! ### own exceptions over LookupError, whose own begin calls the base's begin by the base's name and sets one field -/
abbrev leT : List Value := [.type "LookupError", .type "Exception", .type "BaseException", .type "object"]
/-- what the written part tells of such a class -/
structure LeC (K : PySem.W.Frag) (C : Addr) : Prop where
  ini : PySem.W.excInitIn K C leT "LookupError.__new__" = true
  ovr : PySem.W.excOver K C leT = true
  hd : PySem.W.hasDictIn K C = true
  sa : PySem.W.findIn K (.ref C) "__setattr__" = some (some (.builtin "object.__setattr__"))
  ga : PySem.W.findIn K (.ref C) "__getattribute__" = some (some (.builtin "BaseException.__getattribute__"))
  gg : PySem.W.findIn K (.ref C) "__getattr__" = some none
  exC : PySem.W.subIn K (.ref C) (.type "BaseException") = some true
  tyC : PySem.W.typeIn K (.ref C) = some (.type "type")
  kC : PySem.W.keepIn K (.ref C) = true
def leCB (C : Str) (K : PySem.W.Frag) : Bool :=
  PySem.W.excInitIn K (He.ga K C) leT "LookupError.__new__" && (PySem.W.excOver K (He.ga K C) leT && (PySem.W.hasDictIn K (He.ga K C) && (decide (PySem.W.findIn K (.ref (He.ga K C)) "__setattr__" = some (some (.builtin "object.__setattr__"))) &&
    (decide (PySem.W.findIn K (.ref (He.ga K C)) "__getattribute__" = some (some (.builtin "BaseException.__getattribute__"))) && (decide (PySem.W.findIn K (.ref (He.ga K C)) "__getattr__" = some none) &&
    (decide (PySem.W.subIn K (.ref (He.ga K C)) (.type "BaseException") = some true) && (decide (PySem.W.typeIn K (.ref (He.ga K C)) = some (.type "type")) && PySem.W.keepIn K (.ref (He.ga K C)))))))))
theorem leCB_ok {C : Str} {K : PySem.W.Frag} (h : leCB C K = true) : LeC K (He.ga K C) := by
  unfold leCB at h
  obtain ⟨h1, h⟩ := He.ba h
  obtain ⟨h2, h⟩ := He.ba h
  obtain ⟨h3, h⟩ := He.ba h
  obtain ⟨h4, h⟩ := He.ba h
  obtain ⟨h5, h⟩ := He.ba h
  obtain ⟨h6, h⟩ := He.ba h
  obtain ⟨h7, h⟩ := He.ba h
  obtain ⟨h8, h9⟩ := He.ba h
  exact ⟨h1, h2, h3, of_decide_eq_true h4, of_decide_eq_true h5, of_decide_eq_true h6, of_decide_eq_true h7, of_decide_eq_true h8, h9⟩
/-- the base, whose begin is LookupError's -/
structure LeB (K : PySem.W.Frag) (B : Addr) : Prop where
  sp : PySem.W.specialIn K (.ref B) "__getattribute__" = some (some (.builtin "type.__getattribute__"))
  rd : PySem.W.readsIn K B (.type "type") = true
  ini : PySem.W.findCls K (.ref B) (.type "type") "__init__" = some (.val (.builtin "LookupError.__init__"))
def leBB (B : Str) (K : PySem.W.Frag) : Bool :=
  decide (PySem.W.specialIn K (.ref (He.ga K B)) "__getattribute__" = some (some (.builtin "type.__getattribute__"))) && (PySem.W.readsIn K (He.ga K B) (.type "type") &&
    (match PySem.W.findCls K (.ref (He.ga K B)) (.type "type") "__init__" with | some (.val (.builtin i)) => decide (i = "LookupError.__init__") | _ => false))
theorem leBB_ok {B : Str} {K : PySem.W.Frag} (h : leBB B K = true) : LeB K (He.ga K B) := by
  unfold leBB at h
  obtain ⟨h1, h⟩ := He.ba h
  obtain ⟨h2, h3⟩ := He.ba h
  refine ⟨of_decide_eq_true h1, h2, ?_⟩
  split at h3
  · rename_i i e
    rw [e, of_decide_eq_true h3]
  · cases h3
def leIB (C : Str) (K : PySem.W.Frag) : Bool := decide (PySem.W.findIn K (.ref (He.ga K C)) "__init__" = some (some (.ref (He.fAd K (C, some "__init__")))))
def leTB (C : Str) (K : PySem.W.Frag) : Bool := decide (PySem.W.typeIn K (.ref (He.fAd K (C, some "__init__"))) = some (.type "function"))
def leXB (C D : Str) (b : Bool) (K : PySem.W.Frag) : Bool := decide (PySem.W.exmOne K (.ref (He.ga K C)) (.ref (He.ga K D)) = some b)
def leNB (C f : Str) (K : PySem.W.Frag) : Bool := decide (PySem.W.findIn K (.ref (He.ga K C)) f = some none)
section
variable {X : Cx} {pins : List (Addr × Obj)} {σ : L2.St} {H : Hp} {s : Shared} {a C dx : Addr} {f : Str} {y : V} {u : Value} {Q : Unit → Shared → Prop} {E : Value → Shared → Prop} {A : Around}
abbrev exq (C t : Addr) (d : Option Addr) : Obj := { cls := .ref C, dict := d, data := .fields #[.ref t, .none, .none, .none, .bool false, .none] }
/-- the store into an exception that has no dict -/
theorem le_osa {prog : Program} {w : World} {R : Result → Shared → Prop} {K : PySem.W.Frag} {hp : Heap} {g : Array GenState} {d : Drawn} {t : Nat} {os : OsState} {x t0 : Addr} {tk : Tok} {v : Value}
    (Y : K.In hp) (T : LeC K C) (hx : hp.get? x = some (exq C t0 none)) (no : PySem.W.findIn K (.ref C) f = some none)
    (hq : ∀ h' tk' dx, (∀ b o, b ≠ x → hp.get? b = some o → h'.get? b = some o) → hp.objs.size ≤ dx → dx ≠ x → h'.get? x = some (exq C t0 (some dx)) → h'.Ns1 dx (fun z => if z = f then some v else none) → R (.ok (.ret .none)) ⟨h', g, d, tk', os⟩) :
    codeAny (model prog w) A (.call (.builtin "object.__setattr__") ⟨[.ref x, .str f tk, v], []⟩) R ⟨hp, g, d, t, os⟩ := by
  have hxs : x ≠ hp.objs.size := Nat.ne_of_lt (Heap.lt_size hx)
  have tk0 : PySem.W.takerIn K C f = some none := by unfold PySem.W.takerIn; rw [no]; rfl
  refine PySem.W.osa_openX (od := none) PySem.F.store_LookupError Y ⟨hx, rfl, rfl, trivial⟩ T.ovr tk0 fun b => ?_
  obtain ⟨cd, hc, hd'⟩ := PySem.W.any_some T.hd
  have hcl : PySem.W.Looks (model prog w) hp (classData C) cd := PySem.W.looks_clsIn Y hc
  show wpAny _ _ (storeInOwnDict (.ref x) (.ref C) (.str f tk) f v b) _ _ _
  refine wpAny_bind (wpAny_pure (wpAny_bind (PySem.W.instanceDict_exc (c2 := .none) hx hcl hd' ?_)))
  show wpAny _ _ (storeInDict hp.objs.size (.str f tk) f v) _ _ _
  refine PySem.HandSPX.store_in_new ?_ fun h' tk' hn' hs => ?_
  · exact ⟨_, #[], _, (Heap.get?_update_ne _ _ _ _ hxs.symm).trans (Heap.get?_push_at rfl rfl), rfl, fun e he => absurd he (by simp), fun _ => rfl⟩
  · refine hq h' tk' hp.objs.size (fun b o hb ho => ?_) (Nat.le_refl _) hxs.symm ?_ hn'
    · exact (hs.2 b (Nat.ne_of_lt (Heap.lt_size ho))).trans ((Heap.get?_update_ne _ _ _ _ hb).trans (Heap.get?_push_of_some _ ho))
    · exact (hs.2 x hxs).trans (Heap.get?_update_self _ (Heap.get?_push_of_some _ hx) rfl)
/-- self.f = y, the exception has no dict yet -/
theorem le_store (T : LeC X.K C) (I : Inv X pins σ H s) (e : H a = some (exo a C none)) (no : PySem.W.findIn X.K (.ref C) f = some none) (ry : RelV y u)
    (h : ∀ dx s', H dx = none → dx ≠ a → Inv X pins σ (upd (upd H dx (exd dx [(f, y)])) a (exo a C (some dx))) s' → Q () s') : wpAny (model X.prog X.w) A (setAttr (.ref a) f u) Q E s := by
  obtain ⟨tt, he⟩ := exo_at I.hok e
  obtain ⟨hp, g, dr, tk, os⟩ := s
  refine PySem.W.set_plain I.kIn (ox := exq C tt none) (od := none) ⟨he, rfl, rfl, trivial⟩ T.sa ?_
  refine le_osa I.kIn T he no fun h' tk' dx kp big dne hx hn => ?_
  have hnd : H dx = none := I.hok.fresh big
  have old : ∀ {b : Addr} {o : Obj}, hp.get? b = some o → b ≠ dx := fun {b o} q => Nat.ne_of_lt (Nat.lt_of_lt_of_le (Heap.lt_size q) big)
  have nea : ∀ {b : Addr}, H b = none → b ≠ a := fun {b} n z => by rw [z, e] at n; cases n
  have U : Un X.fs [] H (upd (upd H dx (exd dx [(f, y)])) a (exo a C (some dx))) hp h' := by
    refine ⟨fun b o q n _ _ => kp b o (nea n) q, fun b o q n _ _ => ⟨o.slots, kp b o (nea n) q⟩, fun b o q n _ => ?_, fun b o q _ => ?_, fun b xs q => ?_, fun b o v q => ?_, fun b ps q => ⟨#[], ?_⟩⟩
    · rw [upd_ne (nea n), upd_ne (old q)]
      exact n
    · by_cases hb : b = a
      · rw [hb]
        exact ⟨_, hx⟩
      · exact ⟨o, kp b o hb q⟩
    · rw [upd_ne (at_ne e q exo_tup), upd_ne (ne_of_none q hnd)]
      exact q
    · rw [upd_ne (at_ne e q exo_frz), upd_ne (ne_of_none q hnd)]
      exact q
    · rw [upd_ne (at_ne e q exo_tbl), upd_ne (ne_of_none q hnd), q]
      simp
  refine h dx _ hnd dne (I.un (t' := tk') U fun b o q => ?_)
  by_cases hb : b = a
  · subst hb
    rw [upd_same] at q
    cases q
    exact exo_ok hx
  rw [upd_ne hb] at q
  by_cases hd : b = dx
  · subst hd
    rw [upd_same] at q
    cases q
    exact exd_ok hn (relO_put (fs := []) ry fun _ => True.intro)
  rw [upd_ne hd] at q
  refine (I.hok b o q).stay (fun c v hc z => kp c v ?_ z) (fun c hc => ?_) (fun c xs hc => ?_)
  · rcases hc with hc | hc
    · rw [hc]
      exact hb
    · exact at_ne e hc exo_own
  · rw [upd_ne (at_ne e hc exo_own), upd_ne (ne_of_none hc hnd)]
    exact hc
  · rw [upd_ne (at_ne e hc exo_tup), upd_ne (ne_of_none hc hnd)]
    exact hc
/-- LookupError's begin on the exception -/
theorem le_begin {us : List Value} {Q : Value → Shared → Prop} (T : LeC X.K C) (I : Inv X pins σ H s) (e : H a = some (exo a C none)) (hl : us.length ≤ sizeLine) (h : ∀ s', Inv X pins σ H s' → Q .none s') :
    wpAny (model X.prog X.w) A (call (.builtin "LookupError.__init__") (.ref a :: us)) Q E s := by
  obtain ⟨nm, N, qn, bs, bm, hdct, sn, sub, ab, col, dd, k0, k1, k2, k3, k5, hC, hT⟩ := PySem.W.excInit_of I.kIn T.ini
  obtain ⟨tt, he⟩ := exo_at I.hok e
  obtain ⟨hp, g, dr, tk, os⟩ := s
  refine wpAny_call (PySem.HandSPX.init_base PySem.F.excBase_LookupError hT hC he hl fun h' t2 kp hx => ?_)
  have J := I.write (t' := tk) (x := a) (e := a) (o := exo a C none) (by rw [e]; exact True.intro) (.inl rfl) kp ⟨_, hx⟩ (exo_ok hx)
  rw [show upd H a (exo a C none) = H from funext fun b => by
    by_cases hb : b = a
    · rw [hb, upd_same, e]
    · rw [upd_ne hb]] at J
  exact h _ J
end
/-- B.__init__(self, ..) -/
def tLeI (K : PySem.W.Frag) (ta : TA) : TE := fun σ H Q => ta σ H fun vs H1 => ∃ (a C : Addr) (ws : List V), vs = .ref a :: ws ∧ ws.length ≤ 1000 ∧ LeC K C ∧ H1 a = some (exo a C none) ∧ Q .non H1
/-- self.f = e -/
def tLeS (K : PySem.W.Frag) (f : Str) (to te : TE) : TS := fun D σ H => te σ H fun y H1 => to σ H1 fun x H2 => ∃ a C : Addr, x = .ref a ∧ LeC K C ∧ PySem.W.findIn K (.ref C) f = some none ∧ H2 a = some (exo a C none) ∧
  ∀ dx, H2 dx = none → dx ≠ a → D.nx σ (upd (upd H2 dx (exd dx [(f, y)])) a (exo a C (some dx)))
/-- C(e, ..), C's begin keeping sp -/
def tLeM (C : Addr) (sp : Sp) (ta : TA) : L2.St → Hp → XK → Prop := fun σ H Q => ta σ H fun vs H1 => vs.length ≤ 1000 ∧ ∀ a, H1 a = none → sp (.ref a :: vs) (upd H1 a (exo a C none))
  (fun v H2 => v = .non ∧ ∃ (d : Addr) (fs : List (Str × V)), H2 a = some (exo a C (some d)) ∧ H2 d = some (exd d fs) ∧ H1 d = none ∧ Q (.ref C) (some d) (upd (del H2 a) d (.xd fs))) (fun _ _ _ => False)
section
variable {X : Cx} {o e : Expr} {es : List Expr} {to te : TE} {ta : TA} {f : Str} {p p' p1 p2 pos : Pos}
theorem pe_leI {B : Addr} {x : Str} {pl : Sem Bool} (T : LeB X.K B) (hg : Gl X x) (hm : X.mg x = some (.ref B)) (ha : PA X (e :: es) ta) (hdb : (x == ("__debug__" : Str)) = false := by decide)
    (hc : eval (.Call (.Attribute (.Name x p1) "__init__" p2) (e :: es) [] pos) X.env = (do
      let ov ← eval (.Name x p1) X.env
      standAt p2.atName
      let (f, first) ← holding [ov] (getMethod ov "__init__" pl)
      callWith pos f first (backTo pos (starEach (e :: es) X.env)) (backToKw pos (keywordEach [] X.env))) := by rfl)
    (he : starEach (e :: es) X.env = (false, eval e X.env) :: starEach es X.env := by rfl) (hpl : (backTo pos (starEach es X.env)).any (·.1) = false := by rfl) :
    PE X (.Call (.Attribute (.Name x p1) "__init__" p2) (e :: es) [] pos) (tLeI X.K ta) := by
  refine ⟨fun pins s σ H Q I h => ?_⟩
  refine PySem.W.methodCall_KW (ld_glob I hg hm ?_ hdb) hc
  refine PySem.W.method_cls I.kIn T.sp (PySem.W.cls_value I.kIn T.rd T.ini (by decide +kernel) ?_)
  show wpAny _ _ (callWith pos (Value.builtin "LookupError.__init__") [] (backTo pos (starEach (e :: es) X.env)) []) _ _ _
  refine PyProof.Rows.callWith_method1 (thn (ha.run pos pins _ σ H _ (I.tok _) h) fun us s1 hh => ?_) he hpl
  obtain ⟨vs, H1, I1, r1, a, C, ws, ev, hl, TC, ea, q⟩ := hh
  subst ev
  cases r1 with
  | @cons _ u0 _ ur ra rw' =>
    obtain rfl : u0 = Value.ref a := ra
    refine le_begin TC I1 ea (by rw [← Paired.length rw', sizeLine_eq]; omega) fun s' J => ⟨.non, H1, J, rfl, q⟩
theorem ps_leS (ho : PE X o to) (he : PE X e te) (hs : swapsWith e (some (.Attribute o f p')) pos.line X.env = pure false := by rfl) : PS X (.Assign [.Attribute o f p'] e pos) (tLeS X.K f to te) := by
  refine ⟨fun pins s σ H D I h => ?_⟩
  refine plainObj_wpAny_Assign_Attribute (thn (he.run pins s σ H _ I h) fun v s1 hh => ?_) hs
  obtain ⟨y, H1, I1, r1, q1⟩ := hh
  refine thn (ho.run pins s1 σ H1 _ I1 q1) fun u s2 hh2 => ?_
  obtain ⟨x, H2, I2, r2, a, C, ex, T, no, ea, q⟩ := hh2
  subst ex
  obtain rfl : u = Value.ref a := r2
  exact le_store T I2 ea no r1 fun dx s' n ne J => ⟨σ, _, J, q dx n ne⟩
theorem pmk_le {CX : CXT} {x : Str} {C fI : Addr} {k : Nat} {fd : FuncData} {ps : List Str} {sp : Sp} (T : LeC X.K C) (iC : PySem.W.findIn X.K (.ref C) "__init__" = some (some (.ref fI))) (tI : PySem.W.typeIn X.K (.ref fI) = some (.type "function"))
    (F1 : FnOk X.prog X.w X.K X.mg X.base CX k fI fd ps sp) (hr : Room (k + 1) X.A) (hg : Gl X x) (hm : X.mg x = some (.ref C)) (hb : Binds X.K fd ps []) (hx : Passes CX X (fun _ _ _ => False)) (ha : PA X (e :: es) ta)
    (hdb : (x == ("__debug__" : Str)) = false := by decide) (he : starEach (e :: es) X.env = (false, eval e X.env) :: starEach es X.env := by rfl) (hpl : (backTo pos (starEach es X.env)).any (·.1) = false := by rfl) :
    PMk X (.Call (.Name x p) (e :: es) [] pos) (tLeM C sp ta) := by
  intro pins s σ H Q I h
  refine wpAny_Call_Name_kw (ld_glob I hg hm ?_ hdb)
  refine PySem.W.callWith_K (h₀ := X.base) I.ok.mod.kin T.kC (thn (ha.run pos pins s σ H _ I h) fun us s1 hh => ?_) he hpl
  obtain ⟨vs, H1, I1, r1, hz, q1⟩ := hh
  refine ⟨I1.kIn, ?_⟩
  show wpAny _ _ (call (.ref C) us) _ _ _
  obtain ⟨nm, N, qn, bs, bm, hdct, sn, sub, ab, col, dd, k0, k1, k2, k3, k5, hC, hT⟩ := PySem.W.excInit_of I1.kIn T.ini
  obtain ⟨hp, g, dr, tk, os⟩ := s1
  have big : hp.objs.size ≤ hp.objs.size + 1 := Nat.le_succ _
  have hq := q1 (hp.objs.size + 1) (I1.hok.fresh big)
  have kk : ∀ b o, hp.get? b = some o → ((hp.push (PySem.W.kdv_tup us)).push (PySem.HandSPX.excO C hp.objs.size)).get? b = some o := fun b o z => Heap.get?_push_of_some _ (Heap.get?_push_of_some _ z)
  have at1 : ((hp.push (PySem.W.kdv_tup us)).push (PySem.HandSPX.excO C hp.objs.size)).get? (hp.objs.size + 1) = some (PySem.HandSPX.excO C hp.objs.size) := by heap_get
  have J : Inv X pins σ (upd H1 (hp.objs.size + 1) (exo (hp.objs.size + 1) C none)) ⟨(hp.push (PySem.W.kdv_tup us)).push (PySem.HandSPX.excO C hp.objs.size), g, dr, tk, os⟩ := I1.laid (t' := tk) kk big (exo_ok at1)
  have r2 : Vals (V.ref (hp.objs.size + 1) :: vs) (Value.ref (hp.objs.size + 1) :: us) := .cons rfl r1
  have hl : (Value.ref (hp.objs.size + 1) :: us).length = ps.length := by
    rw [← F1.len _ _ _ _ hq]
    exact r2.length.symm
  have hus : us.length ≤ sizeLine := by
    rw [← Paired.length r1, sizeLine_eq]
    omega
  have hbb := hb _ (Value.ref (hp.objs.size + 1) :: us) J.kIn (by rw [List.append_nil]; exact hl)
  rw [List.append_nil] at hbb
  refine wpAny_call (PySem.HandSPX.call_own PySem.F.excBase_LookupError hT hC (PySem.W.looks_findIn I1.kIn iC) (fun self => PySem.W.bind_fn I1.kIn self tI) hus
    (codeAny_mono (F1.run _ X.stack _ _ ⟨Value.ref (hp.objs.size + 1) :: us, []⟩ _ _ _ (fun _ _ _ => False) (hr.make C us []) (J.env0.make C us []) hbb r2 hq) fun r s' hq' => ?_))
  cases r with
  | error er => exact hx pins σ _ _ er s' J hq'
  | ok fl =>
    cases fl with
    | ret u =>
      obtain ⟨v, H2, os2, bare2, un2, hok2, rv, ev, d, fs, ea, ed, hd1, q2⟩ := hq'
      subst ev
      obtain ⟨h2, g2, d2, t2, os'⟩ := s'
      exact ⟨rv, mk_end (raises_own T.exC T.tyC) I1 big kk un2 hok2 os2 bare2 ea ed hd1 q2⟩
    | next => exact False.elim hq'
    | brk => exact False.elim hq'
    | cont => exact False.elim hq'
end
/-! ### try with several clauses, with names or without -/
/-- a clause's suite, its name in slot i -/
def hSu (ts : Addr → Value → Option Addr → TS) (ex : Addr) (cl : Value) (dd : Option Addr) (D : Ends) (σ : L2.St) (H : Hp) : Option Nat → Prop
  | none => ts ex cl dd D σ H
  | some i => ts ex cl dd { nx := fun z G => D.nx (z.set i none) G, rt := D.rt, bk := fun z G => D.bk (z.set i none) G, ct := fun z G => D.ct (z.set i none) G } (σ.set i (some (.ref ex))) H
def wTry (K : PySem.W.Frag) (Wo : WX) (D : Ends) : List (Value × Option Nat × (Addr → Value → Option Addr → TS)) → WX
  | [] => Wo
  | (c, i, ts) :: r => fun cl dd σ H => ∃ b, PySem.W.exmOne K cl c = some b ∧ (b = true → ∀ ex, H ex = none → hSu ts ex cl dd D σ H i) ∧ (b = false → wTry K Wo D r cl dd σ H)
inductive HdsN (X : Cx) : List ExceptHandler → List (Value × Option Nat × (Addr → Value → Option Addr → TS)) → Prop
  | nil : HdsN X [] []
  | bare {x : Str} {c : Value} {ts : Addr → Value → Option Addr → TS} {t₀ : Stmt} {su : List Stmt} {np pp : Pos} {hds : List ExceptHandler} {l : List (Value × Option Nat × (Addr → Value → Option Addr → TS))} (hc : Names X x c)
      (hsu : ∀ (ex : Addr) (oe : Obj) (cl : Value) (dd : Option Addr) (pn : List (Addr × Obj)), Zc cl dd oe → (∃ vs, oe.data = .fields vs) → PSs (X.suite ex ((ex, oe) :: pn)) (t₀ :: su) (ts ex cl dd)) (r : HdsN X hds l) :
      HdsN X (.ExceptHandler (some (.Name x np)) none (t₀ :: su) pp :: hds) ((c, none, ts) :: l)
  | named {x n : Str} {i : Nat} {c : Value} {ts : Addr → Value → Option Addr → TS} {t₀ : Stmt} {su : List Stmt} {np pp : Pos} {hds : List ExceptHandler} {l : List (Value × Option Nat × (Addr → Value → Option Addr → TS))} (hN : X.N.Nodup) (hi : X.N[i]? = some n) (hln : X.env.kindOf n = some .local) (hc : Names X x c)
      (hsu : ∀ (ex : Addr) (oe : Obj) (cl : Value) (dd : Option Addr) (pn : List (Addr × Obj)), Zc cl dd oe → (∃ vs, oe.data = .fields vs) → PSs (X.suite ex ((ex, oe) :: pn)) (t₀ :: su) (ts ex cl dd)) (r : HdsN X hds l) :
      HdsN X (.ExceptHandler (some (.Name x np)) (some n) (t₀ :: su) pp :: hds) ((c, some i, ts) :: l)
section
variable {X : Cx} {body : List Stmt} {h₀ : ExceptHandler} {hds : List ExceptHandler} {l : List (Value × Option Nat × (Addr → Value → Option Addr → TS))} {pos : Pos} {tb : WX → TS} {Wo : WX}
theorem ps_tryN (hs : X.stack = X.env :: X.outer) (hf : X.env.frame = some X.env.locals) (tk : Takes X Wo)
    (hb : ∀ (W : WX) (pn : List (Addr × Obj)) (xe : Value → Shared → Prop), Takes (X.tr pn xe) W → PassesOwn (model X.prog X.w) X.A X.env xe → PSs (X.tr pn xe) body (tb W))
    (hh : HdsN X (h₀ :: hds) l) : PS X (.Try body (h₀ :: hds) [] [] pos) (fun D σ H => tb (wTry X.K Wo D l) D σ H) := by
  refine ⟨fun pins s σ H D I h => ?_⟩
  have okX := I.ok
  have frm : X.A.frames = some (X.env :: X.outer) := by rw [okX.frames, hs]
  refine wpAny_Try_except (wpAny_mono ((hb (wTry X.K Wo D l) (X.pn ++ pins) (fun ev sa => wpAny (model X.prog X.w) X.A (noteFrame ev X.env) (fun _ sb => wpAny (model X.prog X.w) X.A (setFlight ev none) (fun _ sc =>
    wpAny (model X.prog X.w) X.A (handleBy ev X.env (h₀ :: hds)) (SP X pins D) X.xe sc) X.xe sb) X.xe sa) (fun u sv xx => ?_) PassesOwn.looking).run [] s σ H D (I.toTry _) h) (fun fl sq hsp => ?_) (fun ev sq he => he))
  · obtain ⟨ex, B, sI, pz, σz, Hz, cl, dd, rfl, Jt, nb, up, sky, nex, hos, bare, wish⟩ := xx
    have J : Inv X pins σz Hz sI := Jt.ofTry okX
    have sk2 : Sky B (X.env :: X.outer) ex (Zc cl dd) X.env.locals sv.heap := by rw [← hs]; exact sky
    show wpAny (model X.prog X.w) X.A (noteFrame (.ref ex) X.env) _ _ _
    refine Sky.land Zc.steady frm hf sk2 fun ha fla upa => ?_
    have Ja : Inv X pins σz Hz { sv with heap := ha } := J.landed nb fla.1 (up.trans upa) hos bare
    obtain ⟨oa, va, hea, hza, hda⟩ := fla.there
    have nfr : ex ∉ frs (X.env :: X.outer) := fun hm => by
      obtain ⟨_, o', e', hnf⟩ := fla.2.2.1.mem hm
      rw [hea] at e'
      cases e'
      exact hnf _ hda
    have nL : ex ≠ X.env.locals := fun z => nfr (List.mem_filterMap.mpr ⟨X.env, List.mem_cons_self, by rw [hf, z]⟩)
    have nF : ex ∉ X.fs := fun hm => by
      obtain ⟨ev, he, q⟩ := List.mem_filterMap.mp hm
      exact nfr (List.mem_filterMap.mpr ⟨ev, List.mem_cons_of_mem _ he, q⟩)
    have Sa := Ja.suite hea hda nex nL nF
    have named : ∀ {x : Str} {c : Value} {np : Pos} {Q : Value → Shared → Prop} {E : Value → Shared → Prop}, Names X x c → Q c { sv with heap := ha } → wpAny (model X.prog X.w) (X.A.mark (some (.ref ex))) (eval (.Name x np) X.env) Q E { sv with heap := ha } := fun {x c np Q E} hc q => by
      obtain ⟨hg, hdbg, hm | ⟨hm, hv, hnn⟩⟩ := hc
      · exact ld_glob (X := X.suite ex ((ex, oa) :: (X.pn ++ pins))) Sa hg hm q hdbg
      · exact ld_blt (X := X.suite ex ((ex, oa) :: (X.pn ++ pins))) Sa hg hm hv q hnn hdbg
    have LT : PySem.W.Looks (model X.prog X.w) ha (typeOf (.ref ex)) cl := fun A Q E s k q => wpAny_typeOf_ref (k _ _ hea) (by rw [hza.1]; exact q)
    have go : ∀ {hs' : List ExceptHandler} {l' : List (Value × Option Nat × (Addr → Value → Option Addr → TS))}, HdsN X hs' l' → wTry X.K Wo D l' cl dd σz Hz →
        wpAny (model X.prog X.w) X.A (handleBy (.ref ex) X.env hs') (SP X pins D) X.xe { sv with heap := ha } := by
      intro hs' l' hk
      induction hk with
      | nil =>
        intro w
        refine wpAny_handleBy_nil ?_
        obtain ⟨k1, k2, k3, oe, vs, T, oT, ts', he, hz, hd, h1, hr⟩ := id fla
        unfold PySem.passOn
        refine wpAny_bind (wpAny_field he hd h1 ?_)
        rw [if_neg (show ¬ ((Value.ref T == Value.none) = true) from by simp)]
        have out : wpAny (model X.prog X.w) X.A (setFlight (.ref ex) X.env.frame) (fun _ s4 => wpAny (model X.prog X.w) X.A (throw (.ref ex) : Sem Flow) (SP X pins D) X.xe s4) X.xe { sv with heap := ha } := by
          rw [hf]
          refine HandSPX.setFlight_upZ fla fun hc held upc => wpAny_throw (tk _ _ ?_)
          exact ⟨ex, B, sI, pins, σz, Hz, cl, dd, rfl, J, nb, (up.trans upa).trans upc, .inr (.inr (by rw [hs]; exact held)), nex, hos, bare, w⟩
        first
          | exact wpAny_bind (wpAny_pure (wpAny_bind out))
          | exact wpAny_bind out
      | @bare x c ts t₀ su np pp hds2 l2 hc hsu r ih =>
        intro w
        obtain ⟨b, hb1, hyes, hno⟩ := w
        refine wpAny_handleBy_cons (codeAny_handlers_test (named hc ((PySem.W.exm_one (M := model X.prog X.w) (Ja.kIn) LT hb1).here ?_))) (by intro q; cases q)
        cases b with
        | false => exact ih (hno rfl)
        | true =>
          refine codeAny_handlers_suite (HandSPX.lands_againZ fla fun hc flc upc => ?_)
          have Jc : Inv X pins σz Hz { sv with heap := hc } := J.landed nb flc.1 ((up.trans upa).trans upc) hos bare
          obtain ⟨oc, vc, hec, hzc, hdc⟩ := flc.there
          refine wpAny_mono ((hsu ex oc cl dd (X.pn ++ pins) hzc ⟨_, hdc⟩).run [] _ _ Hz _ (Jc.suite hec hdc nex nL nF) (hyes rfl ex nex)) (fun fl sx hsp => ?_) (fun _ _ z => False.elim z)
          cases fl with
          | ret u =>
            obtain ⟨v, σx, Hx, Sx, rx, qx⟩ := hsp
            exact ⟨_, _, _, Sx.unsuite okX, rx, qx⟩
          | next =>
            obtain ⟨σx, Hx, Sx, qx⟩ := hsp
            exact ⟨_, _, Sx.unsuite okX, qx⟩
          | brk =>
            obtain ⟨σx, Hx, Sx, qx⟩ := hsp
            exact ⟨_, _, Sx.unsuite okX, qx⟩
          | cont =>
            obtain ⟨σx, Hx, Sx, qx⟩ := hsp
            exact ⟨_, _, Sx.unsuite okX, qx⟩
      | @named x n i c ts t₀ su np pp hds2 l2 hN hi hln hc hsu r ih =>
        intro w
        obtain ⟨b, hb1, hyes, hno⟩ := w
        refine wpAny_handleBy_cons (codeAny_handlers_test (named hc ((PySem.W.exm_one (M := model X.prog X.w) (Ja.kIn) LT hb1).here ?_))) (by intro q; cases q)
        cases b with
        | false => exact ih (hno rfl)
        | true =>
          refine codeAny_handlers_suite_as (HandSPX.lands_againZ fla fun hc flc upc => ?_)
          have Jc : Inv X pins σz Hz { sv with heap := hc } := J.landed nb flc.1 ((up.trans upa).trans upc) hos bare
          obtain ⟨oc, vc, hec, hzc, hdc⟩ := flc.there
          refine store_ok (X := X.suite ex ((ex, oc) :: (X.pn ++ pins))) (v := .ref ex) (Jc.suite hec hdc nex nL nF) hN hi (.inl hln) rfl (fun s5 S5 => ?_) (.inr hln)
          refine wpAny_mono ((hsu ex oc cl dd (X.pn ++ pins) hzc ⟨_, hdc⟩).run [] s5 _ Hz _ S5 (hyes rfl ex nex)) (fun fl sx hsp => ?_) (fun _ _ z => False.elim z)
          have fin : ∀ {σx : L2.St} {Hx : Hp} {Q : Shared → Prop}, Inv (X.suite ex ((ex, oc) :: (X.pn ++ pins))) [] σx Hx sx → (∀ sy, Inv X pins (σx.set i none) Hx sy → Q sy) →
              wpAny (model X.prog X.w) X.A (do bindName X.env n .none; unbindBehindTheSuite X.env n pp) (fun _ sy => Q sy) X.xe sx := fun {σx Hx Q} Sx hq => gone_ok (Sx.unsuite okX) hN hi hln hq
          cases fl with
          | ret u =>
            obtain ⟨v, σx, Hx, Sx, rx, qx⟩ := hsp
            exact fin Sx fun sy Jy => ⟨_, _, _, Jy, rx, qx⟩
          | next =>
            obtain ⟨σx, Hx, Sx, qx⟩ := hsp
            exact fin Sx fun sy Jy => ⟨_, _, Jy, qx⟩
          | brk =>
            obtain ⟨σx, Hx, Sx, qx⟩ := hsp
            exact fin Sx fun sy Jy => ⟨_, _, Jy, qx⟩
          | cont =>
            obtain ⟨σx, Hx, Sx, qx⟩ := hsp
            exact fin Sx fun sy Jy => ⟨_, _, Jy, qx⟩
    exact go hh wish
  · cases fl with
    | ret u =>
      obtain ⟨v, σx, Hx, Jx, r, q⟩ := hsp
      exact ⟨v, σx, Hx, Jx.ofTry okX, r, q⟩
    | next =>
      obtain ⟨σx, Hx, Jx, q⟩ := hsp
      exact wpAny_execs_nil ⟨σx, Hx, Jx.ofTry okX, q⟩
    | brk =>
      obtain ⟨σx, Hx, Jx, q⟩ := hsp
      exact ⟨σx, Hx, Jx.ofTry okX, q⟩
    | cont =>
      obtain ⟨σx, Hx, Jx, q⟩ := hsp
      exact ⟨σx, Hx, Jx.ofTry okX, q⟩
end
/-! ### the caught exception: its field, its class -/
/-- the class fact that isinstance wants beside LeC -/
def rIsLe (K : PySem.W.Frag) (ex : Addr) (cl : Value) (dd : Option Addr) : List V → Hp → VK → Prop := fun xs H Q => ∃ (C D d : Addr) (fs : List (Str × V)) (b : Bool), xs = [.ref ex, .ref D] ∧ cl = .ref C ∧ dd = some d ∧ H d = some (.xd fs) ∧ LeC K C ∧ IsC K C ∧ PySem.W.kitOne K (.ref C) (.ref D) = some b ∧ Q (.bl b) H
theorem call_isLe {X : Cx} {ex : Addr} {cl : Value} {dd : Option Addr} {oe : Obj} {pn : List (Addr × Obj)} (hz : Zc cl dd oe) (hf : ∃ vs, oe.data = .fields vs) : CallR (X.suite ex ((ex, oe) :: pn)) (.builtin "isinstance") (rIsLe X.K ex cl dd) := by
  intro pins s σ H xs us Q I r h
  obtain ⟨C, D, d, fs, b, rfl, rfl, rfl, hd, T, T2, e, q⟩ := h
  obtain ⟨u1, u2, rfl, r1, r2⟩ := vals2 r
  cases (show u1 = Value.ref ex from r1)
  cases (show u2 = Value.ref D from r2)
  obtain ⟨hget, _⟩ := I.pin (ex, oe) (List.mem_append.mpr (.inl List.mem_cons_self))
  obtain ⟨vs, hv⟩ := hf
  have hx : ObjOk X.prog X.w H s.heap d (.xd fs) := I.hok d _ hd
  obtain ⟨mA, hns, hr⟩ := hx
  obtain ⟨od, ho, _⟩ := lookIn_ns hns
  have J : PySem.W.InstAt s.heap ex oe C (some od) := ⟨hget, hz.1, by unfold PySem.W.notCls; rw [hv] <;> rfl, by rw [hz.2]; exact ho⟩
  have hcl : (PySem.W.clsIn X.K C).isSome = true := by
    obtain ⟨cd, hc, _⟩ := PySem.W.any_some T.hd
    rw [hc]
    rfl
  exact PySem.W.kia_one (PySem.W.kitx_exc hcl T.ga T.gg T.exC T2.cl T2.g T2.t T2.m) I.kIn J e (fun z => nomatch z) fun tk => ⟨.bl b, H, I.kept (t' := tk) fun _ _ z => z, rfl, q⟩
theorem LeC.xf {K : PySem.W.Frag} {C : Addr} (T : LeC K C) : XfC K C := ⟨T.ga, T.gg, T.exC, T.hd⟩
/-- C(.., k = v, ..) where C's begin may raise -/
def tMakeKS (C : Addr) (n m : Nat) (sp : Sp) (gV : List V → List V → List V) (E : L2.St → XK) (t tk : TA) : TE := fun σ H Q => tMakeK C n m sp gV (E σ) t tk σ H Q
section
variable {X : Cx} {CX : CXT} {k n : Nat} {f C : Addr} {fd : FuncData} {ps ks : List Str} {sp : Sp} {E : L2.St → XK} {x : Str} {p pos : Pos} {e : Expr} {es : List Expr} {kws : List Keyword} {t tk : TA} {g : List Value → List Value → List Value} {gV : List V → List V → List V}
theorem run_makeKS {pins : List (Addr × Obj)} {σ : L2.St} {H : Hp} {s : Shared} {Q : VK} {us ws : List Value} {vs zs : List V} (M : Mk X.K C f) (F : FnOk X.prog X.w X.K X.mg X.base CX k f fd ps sp) (hr : Room (k + 1) X.A) (hb : KBn X.K fd ps (n + 1) ks g gV) (hx : PassesAt CX X σ (E σ))
    (I : Inv X pins σ H s) (r : Vals vs us) (rz : Vals zs ws) (l1 : vs.length = n) (l2 : zs.length = ks.length)
    (h : ∀ x dx, H x = none → H dx = none → dx ≠ x → sp (gV (.ref x :: vs) zs) (upd (upd H dx (.own x)) x (.ins C dx [])) (fun v H2 => v = .non ∧ Q (.ref x) H2) (E σ)) :
    wpAny (model X.prog X.w) X.A (call (.ref C) us (ks.zip ws)) (EP X pins σ Q) X.xe s := by
  have J := Inv.made (C := C) I
  have r1 : Vals (V.ref (s.heap.objs.size + 1) :: vs) (Value.ref (s.heap.objs.size + 1) :: us) := .cons rfl r
  have n1 : (Value.ref (s.heap.objs.size + 1) :: us).length = n + 1 := by rw [List.length_cons, ← r.length, l1]
  have q0 := h (s.heap.objs.size + 1) s.heap.objs.size (I.hok.fresh (Nat.le_succ _)) (I.hok.fresh (Nat.le_refl _)) (Nat.ne_of_lt (Nat.lt_succ_self _))
  refine wpAny_call (make_map (f := f) I.kIn M.makes M.init (beq_iff_eq.mp M.fn) (codeAny_mono (F.run _ X.stack _ _ ⟨Value.ref (s.heap.objs.size + 1) :: us, ks.zip ws⟩ (g (Value.ref (s.heap.objs.size + 1) :: us) ws) _ _ (E σ) (hr.make C us (ks.zip ws))
    (J.env0.make C us (ks.zip ws)) (hb.to _ (Value.ref (s.heap.objs.size + 1) :: us) ws J.kIn n1 (rz.length.symm.trans l2)) (hb.rel r1 rz) q0) fun rs sz z => ?_))
  cases rs with
  | error ev => exact hx pins _ _ ev sz J z
  | ok fl =>
    cases fl with
    | ret u =>
      obtain ⟨v, Hz, Jz, rv, ev, qz⟩ := J.after z
      subst ev
      exact ⟨rv, ⟨V.ref (s.heap.objs.size + 1), Hz, Jz, rfl, qz⟩⟩
    | next => exact False.elim z
    | brk => exact False.elim z
    | cont => exact False.elim z
theorem pe_makeKS (M : Mk X.K C f) (F : FnOk X.prog X.w X.K X.mg X.base CX k f fd ps sp) (hr : Room (k + 1) X.A) (hg : Gl X x) (hm : X.mg x = some (.ref C)) (hb : KBn X.K fd ps (n + 1) ks g gV) (hx : ∀ σ, PassesAt CX X σ (E σ)) (ha : PA X (e :: es) t) (hkw : PK X kws tk)
    (hall : (backToKw pos (keywordEach kws X.env)).all (·.1.isSome) = true := by rfl) (hks : (backToKw pos (keywordEach kws X.env)).filterMap (·.1) = ks := by rfl) (hdb : (x == ("__debug__" : Str)) = false := by decide)
    (he : starEach (e :: es) X.env = (false, eval e X.env) :: starEach es X.env := by rfl) (hpl : ((backTo pos (starEach (e :: es) X.env)).any (·.1) || (backToKw pos (keywordEach kws X.env)).any (·.1.isNone)) = false := by rfl) :
    PE X (.Call (.Name x p) (e :: es) kws pos) (tMakeKS C n ks.length sp gV E t tk) := by
  refine ⟨fun pins s σ H Q I h => wpAny_Call_Name_kw (ld_glob I hg hm ?_ hdb)⟩
  refine PySem.W.callWith_KW (h₀ := X.base) I.ok.mod.kin M.kp hall (thn (ha.run pos pins s σ H _ I h) fun us s1 ⟨vs, H1, I1, r, q⟩ => thn (hkw.run pos pins s1 σ H1 _ I1 q) fun ws s2 ⟨zs, H2, I2, rz, l1, l2, q2⟩ => ⟨I2.kIn, ?_⟩) hpl he
  rw [hks]
  exact run_makeKS M F hr hb (hx σ) I2 r rz l1 l2 q2
end
/-- nothing is let out -/
theorem passF {X : Cx} : Passes (L2.CX X.prog X.w) X (fun _ _ _ => False) := by
  rintro _ _ _ _ _ _ _ ⟨_, _, _, _, _, _, _, _, _, _, _, _, z⟩
  exact z.elim
end KR
namespace KR
open PySem PySem.Spec PyProof.Rows L2 LamX
/-! ### the head's facts with the tables of the defs that make lambdas -/
def frL (g : Addr → Option Obj) (n : Nat) : PySem.W.Frag := He.frT g (cStatics :: sysModules :: He.asD g n)
structure SaysL (fa : List He.Fa) (fn : List He.DefD) (ex : PySem.W.Frag → Bool) (tf : List He.Defn) (h : Heap) (K : PySem.W.Frag) : Prop where
  d : He.SaysD fa fn K
  more : ex K = true
  hd : ∀ p ∈ tf, PySem.W.codeHdIn K (He.cT K p).1 (He.cT K p).2 = true
  out : ∀ p ∈ tf, K.lookup (He.cT K p).2 = none
  empty : ∀ p ∈ tf, h.get? (He.cT K p).2 = some { cls := .none, data := .fields #[] }
def obsL (n : Nat) (fa : List He.Fa) (fn : List He.DefD) (ex : PySem.W.Frag → Bool) (tf : List He.Defn) (g : Addr → Option Obj) : He.AlD :=
  ((He.obsD fa fn (frL g n)).1 && (ex (frL g n) && He.tabsB g tf (frL g n)), (He.obsD fa fn (frL g n)).2)
theorem saysL_of {n : Nat} {fa : List He.Fa} {fn : List He.DefD} {ex : PySem.W.Frag → Bool} {tf : List He.Defn} {h : Heap} (e : obsL n fa fn ex tf h.get? = He.valD fn) : SaysL fa fn ex tf h (frL h.get? n) := by
  have e1 : ((He.obsD fa fn (frL h.get? n)).1 && (ex (frL h.get? n) && He.tabsB h.get? tf (frL h.get? n))) = true := congrArg (fun z : He.AlD => z.1) e
  have e2 : (obsL n fa fn ex tf h.get?).2 = (He.valD fn).2 := congrArg (fun z : He.AlD => z.2) e
  obtain ⟨h1, h2⟩ := He.ba e1
  obtain ⟨h3, h4⟩ := He.ba h2
  have key : ∀ p ∈ tf, PySem.W.codeHdIn (frL h.get? n) (He.cT (frL h.get? n) p).1 (He.cT (frL h.get? n) p).2 = true ∧ ∃ o, h.get? (He.cT (frL h.get? n) p).2 = some o ∧ He.emptyTab o = true := by
    intro p hp
    obtain ⟨a, b⟩ := He.ba (List.all_eq_true.mp h4 p hp)
    refine ⟨a, ?_⟩
    revert b
    cases h.get? (He.cT (frL h.get? n) p).2 with
    | none => exact fun b => (nomatch b)
    | some o => exact fun b => ⟨o, rfl, b⟩
  exact { d := Prod.ext h1 e2, more := h3, hd := fun p hp => (key p hp).1, out := fun p hp => let ⟨_, _, q, z⟩ := key p hp; He.frT_none q z, empty := fun p hp => let ⟨_, _, q, z⟩ := key p hp; He.emptyTab_eq z ▸ q }
def hookL (n : Nat) (fa : List He.Fa) (fn : List He.DefD) (ex : PySem.W.Frag → Bool) (tf : List He.Defn) : PySem.W.Hook where
  α := He.AlD
  obs := fun s => obsL n fa fn ex tf s.heap.get?
  val := fun _ => He.valD fn
  says := fun _ h => ∃ K : PySem.W.Frag, K.In h ∧ SaysL fa fn ex tf h K
  of := fun _ _ e => ⟨_, He.frT_in, saysL_of e⟩
  keeps := fun _ _ _ ⟨K, hK, c⟩ k => ⟨K, PySem.W.Frag.In.keeps hK k, { c with empty := fun p hp => k _ _ (c.empty p hp) }⟩
theorem obsL_eq {n : Nat} {fa : List He.Fa} {fn : List He.DefD} {ex : PySem.W.Frag → Bool} {tf : List He.Defn} {g : Addr → Option Obj} {s : Shared} (h : ∀ a, g a = s.heap.get? a) : obsL n fa fn ex tf g = (hookL n fa fn ex tf).obs s := by
  obtain rfl : g = s.heap.get? := funext h
  rfl
/-- sys.modules stands in the written part, a dict -/
def smB (K : PySem.W.Frag) : Bool := match K.lookup sysModules with
  | some o => decide (o.cls = .type "dict")
  | none => false
def Sm (K : PySem.W.Frag) : Prop := ∃ o, K.lookup sysModules = some o ∧ o.cls = .type "dict"
theorem smB_ok {K : PySem.W.Frag} (h : smB K = true) : Sm K := by
  unfold smB at h
  cases e : K.lookup sysModules with
  | none => rw [e] at h; cases h
  | some o => rw [e] at h; exact ⟨o, e, of_decide_eq_true h⟩
/-! ### a def's promise where no guard is on -/
structure FnG (P : Program) (w : World) (K : PySem.W.Frag) (mg : Str → Option Value) (base : Heap) (CX : CXT) (k : Nat) (f : Addr) (fd : FuncData) (ps : List Str) (sp : Sp) : Prop where
  len : ∀ vs H Q E, sp vs H Q E → vs.length = ps.length
  run : ∀ (A : Around) (outer : List Env) (s : Shared) (H : Hp) (args : Args) (us : List Value) (vs : List V) (Q : VK) (E : XK), A.guards = some [] → Room k A → Env0 P w K mg base A outer s H → BindsTo s fd args (ps.zip us) → Vals vs us → sp vs H Q E → codeAny (model P w) A (.call (.ref f) args) (CR CX outer P w H s Q E) s
section
variable {P : Program} {w : World} {K : PySem.W.Frag} {mg : Str → Option Value} {base : Heap} {x qual : Str} {params : Arguments} {body : List Stmt} {scope : Scope} {dvs : List V} {kws : List (Str × V)} {p : Str × Option Str} {fd : FuncData} {CX : CXT} {N ps : List Str} {k : Nat} {sp : Sp}
theorem okG (F : FunD K x qual params body scope dvs kws (He.fAd K p) fd) (S : FnScope N ps scope) (len : ∀ vs H Q E, sp vs H Q E → vs.length = ps.length)
    (hb : ∀ (A : Around) (outer : List Env) (s : Shared) (H : Hp) (vs : List V) (Q : VK) (E : XK), A.guards = some [] → Room k (A.deeper (envOfC qual scope s.heap.objs.size (He.fAd K p) (.ref (He.cT K p).1))) → sp vs H Q E →
      ∃ t, PSs (cxOf CX P w K mg base N qual scope (He.fAd K p) (.ref (He.cT K p).1) A outer s H E) body t ∧ t { nx := fun _ H' => Q .non H', rt := Q } (start N vs) H) : FnG P w K mg base CX (k + 1) (He.fAd K p) fd ps sp := by
  obtain ⟨oc, od, dV, kV, doc, pm, an, cdv, ct, osl, rfl, lk, hcd, _, _⟩ := F.ex
  obtain ⟨c, rfl⟩ := He.codeIn_ref hcd
  have hc : (He.cT K p).1 = c := He.codeOf_eq lk rfl
  rw [hc] at hb
  exact ⟨len, fun A outer s H args us vs Q E hg hr e0 hbd r hsp => run_ofS lk hcd S hr e0 hbd r (len _ _ _ _ hsp) fun hr' => hb A outer s H vs Q E hg hr' hsp⟩
theorem okC (F : FunD K x qual params body scope dvs kws (He.fAd K p) fd) (S : FnScope N ps scope) (len : ∀ vs H Q E, sp vs H Q E → vs.length = ps.length)
    (hb : ∀ (A : Around) (outer : List Env) (s : Shared) (H : Hp) (vs : List V) (Q : VK) (E : XK), Room k (A.deeper (envOfC qual scope s.heap.objs.size (He.fAd K p) (.ref (He.cT K p).1))) → sp vs H Q E →
      ∃ t, PSs (cxOf CX P w K mg base N qual scope (He.fAd K p) (.ref (He.cT K p).1) A outer s H E) body t ∧ t { nx := fun _ H' => Q .non H', rt := Q } (start N vs) H) : FnOk P w K mg base CX (k + 1) (He.fAd K p) fd ps sp := by
  obtain ⟨oc, od, dV, kV, doc, pm, an, cdv, ct, osl, rfl, lk, hcd, _, _⟩ := F.ex
  obtain ⟨c, rfl⟩ := He.codeIn_ref hcd
  have hc : (He.cT K p).1 = c := He.codeOf_eq lk rfl
  rw [hc] at hb
  exact ⟨len, fun A outer s H args us vs Q E hr e0 hbd r hsp => run_ofS lk hcd S hr e0 hbd r (len _ _ _ _ hsp) fun hr' => hb A outer s H vs Q E hr' hsp⟩
end
section
variable {X : Cx} {k : Nat} {f : Addr} {fd : FuncData} {ps : List Str} {sp : Sp} {x : Str} {p pos : Pos} {e : Expr} {es : List Expr} {t : TA}
/-- x(e, ..), x's promise one of no guards -/
theorem pe_callG (hgd : X.A.guards = some []) (F : FnG X.prog X.w X.K X.mg X.base CX0 k f fd ps sp) (hr : Room k X.A) (hg : Gl X x) (hm : X.mg x = some (.ref f)) (hk : PySem.W.keepIn X.K (.ref f) = true) (hb : Binds X.K fd ps []) (ha : PA X (e :: es) t)
    (hdb : (x == ("__debug__" : Str)) = false := by decide) (he : starEach (e :: es) X.env = (false, eval e X.env) :: starEach es X.env := by rfl) (hpl : (backTo pos (starEach es X.env)).any (·.1) = false := by rfl) :
    PE X (.Call (.Name x p) (e :: es) [] pos) (tCall sp [] E0 t) := by
  constructor
  intro pins s σ H Q I h
  have body : ∀ (us : List Value) (s1 : Shared), AP X pins σ (fun vs H1 => sp (vs ++ []) H1 Q E0) us s1 → X.K.In s1.heap ∧ wpAny (model X.prog X.w) X.A (call (.ref f) ([] ++ us)) (EP X pins σ Q) X.xe s1 := by
    rintro us s1 ⟨vs, H1, I1, r, q⟩
    rw [List.append_nil] at q
    have hl : (us ++ []).length = ps.length := by rw [List.append_nil, ← r.length, F.len _ _ _ _ q]
    have hbd := hb s1 us I1.kIn hl
    rw [List.append_nil] at hbd
    refine ⟨I1.kIn, wpAny_call (codeAny_mono (F.run X.A X.stack s1 H1 ⟨us, []⟩ us vs Q E0 hgd hr I1.env0 hbd r q) fun rs s2 z => ?_)⟩
    match rs, z with
    | .ok (.ret u), z => exact I1.after z
  exact wpAny_Call_Name_kw (ld_glob I hg hm (PySem.W.callWith_K (h₀ := X.base) I.ok.mod.kin hk (thn (ha.run pos pins s σ H _ I h) body) he hpl) hdb)
end
/-! ### the lambda handed to a def -/
theorem takes_len {X : Cx} {W : WX} (t : Takes X W) : Takes X (fun c d σ H => σ.length = X.N.length → W c d σ H) := by
  rintro u s' ⟨a, B, sI, pins, σ, H, cls, d, e, I, r⟩
  refine t u s' ⟨a, B, sI, pins, σ, H, cls, d, e, I, ?_⟩
  obtain ⟨r1, r2, r3, r4, r5, r6, w⟩ := r
  exact ⟨r1, r2, r3, r4, r5, r6, w I.len⟩
def tAsk (n : Nat) (W : WX) (f c' : Addr) (q : Str) (tl : XK → Hp → VK → Prop) : TE := fun σ H Q => ∃ Ech : XK, (∀ cls d (σ' : L2.St) H', σ'.length = n → Ech cls d H' → W cls d σ' H') ∧ σ[0]? = some (some (.ref f)) ∧ H c' = some (CodeO c' q) ∧ tl Ech H Q
theorem pe_ask {Z : Cx} {n : Nat} {W : WX} {f c' : Addr} {q : Str} {tl : XK → Hp → VK → Prop} {e : Expr} (hn : Z.N.length = n)
    (act : ∀ (E : XK) (W2 : WX), Takes Z W2 → (∀ cls d σ' H', E cls d H' → W2 cls d σ' H') → PE Z e (fun σZ HZ Q => σZ[0]? = some (some (.ref f)) ∧ HZ c' = some (CodeO c' q) ∧ tl E HZ Q)) (tk : Takes Z W) : PE Z e (tAsk n W f c' q tl) := by
  subst hn
  exact ⟨fun pins s σ H Q I ⟨E, hW, h1, h2, h3⟩ => (act E _ (takes_len tk) fun cls d σ' H' he hl => hW cls d σ' H' hl he).run pins s σ H Q I ⟨h1, h2, h3⟩⟩
theorem pe_lamF {X : Cx} {T : List (Addr × Str)} {TT : (XK → Hp → VK → Prop) → Hp → VK → Prop} {x a : Str} {g c P : Addr} {k : Nat} {pg : Arguments} {bg : List Stmt} {sg : Scope} {fd : FuncData} {Ng : List Str} {params : Arguments} {body : Expr} {scope : Scope} {t : XK → TE} {p lpos pos : Pos}
    (F : FunD X.K x x pg bg sg [] [] g fd) (hb : L2.Binds X.K fd [a] []) (hg : Gl X x) (hm : X.mg x = some (.ref g)) (Sg : FnScope Ng [a] sg) (hNg : Ng[0]? = some a) (hva : Vis sg a) (hG : ∀ cdv, GivesTo X Ng x sg g cdv bg a (X.env.qual ++ "<lambda>") TT)
    (TB : TabB X.base X.mg c P) (hcode : X.env.code = .ref c) (hmT : (P, X.env.qual ++ "<lambda>") ∈ T) (hu : ∀ p ∈ T, p.1 = P → p.2 = X.env.qual ++ "<lambda>") (hr : Room (k + 2) X.A) (L : LamS X.env.scope scope) (hdef : defaultsOf params X.env = ([], []))
    (hbind : ∀ (q : Str) (cl : List (Str × Addr)) (pm cv ctv : Value), bindArgs (PySem.W.kla_fn "<lambda>" q params body scope cl pm cv ctv) ⟨[], []⟩ = pure [])
    (hbody : ∀ (A : Around) (outer : List Env) (s : Shared) (H : Hp) (E : XK) (f c' : Addr), Room k (A.deeper (lamEnv X scope s.heap.objs.size f c')) → PE (lamCx X A outer s H E scope f c') body (t E))
    (hdb : (x == ("__debug__" : Str)) = false := by decide) (hd : (a == ("__debug__" : Str)) = false := by decide) (hcd : (a == ("__classdict__" : Str)) = false := by decide) :
    PE X (.Call (.Name x p) [.Lambda params body scope lpos] [] pos) (tLam T TT t) := by
  obtain ⟨oc, od, dV, kV, doc, pm, an, cdv, ct, osl, rfl, lk, hcg, _, _⟩ := F.ex
  exact pe_lamcall hg hm F.kp lk hcg hb Sg hNg hva (hG cdv) TB hcode hmT hu hr L hdef hbind hbody hdb hd hcd
theorem hp_ext {H H' : Hp} {a : Addr} {o : HO} (s : ExtN H H') (h : H a = some o) (n : ∀ ps, o ≠ .tbl ps) : H' a = some o := s a o h n
theorem extN_seq {K : PySem.W.Frag} {H H' : Hp} {a : Addr} {xs : List V} (e : ExtN H H') (h : SqL K H a xs) : SqL K H' a xs :=
  h.imp (fun h => h.imp (fun h => e _ _ h fun _ z => nomatch z) fun ⟨o, h⟩ => ⟨o, e _ _ h fun _ z => nomatch z⟩) id
theorem _root_.L2.Same.extN {H H' : Hp} (s : Same H H') : ExtN H H' := fun b o h _ => s b o h
/-- what stays where a source at s is drawn from, and tables grow -/
def EB (s : Addr) (H H' : Hp) : Prop := ∀ b o, b ≠ s → H b = some o → (∀ ps, o ≠ .tbl ps) → H' b = some o
theorem EB.refl {s : Addr} {H : Hp} : EB s H H := fun _ _ _ h _ => h
theorem EB.trans {s : Addr} {H H1 H2 : Hp} (a : EB s H H1) (b : EB s H1 H2) : EB s H H2 := fun c o n h z => b c o n (a c o n h z) z
theorem SB.eb {s : Addr} {H H1 : Hp} (a : SB s H H1) : EB s H H1 := fun c o n h _ => a c o n h
theorem extN_eb {s : Addr} {H H1 : Hp} (a : ExtN H H1) : EB s H H1 := fun c o _ h z => a c o h z
theorem tabs_sb {T : List (Addr × Str)} {s : Addr} {H H1 : Hp} {xs : List V} (t : Tabs T H) (hs : H s = some (.lst xs)) (a : SB s H H1) : Tabs T H1 := fun p hp => by
  obtain ⟨ps, h1, h2, h3⟩ := t p hp
  refine ⟨ps, a _ _ (ne_of h1 hs (fun z => nomatch z)) h1, h2, fun pos cv hc => ?_⟩
  obtain ⟨c, e1, e2⟩ := h3 pos cv hc
  exact ⟨c, e1, a _ _ (ne_of e2 hs (fun z => nomatch z)) e2⟩
theorem pi_listK {X : Cx} {K : PySem.W.Frag} {tg l : Expr} {tl : TE} (hl : PE X l tl) (h : X.K = K := by rfl) : PI X tg l (iList K tl) := h ▸ pi_list hl
theorem pi_tupK {X : Cx} {K : PySem.W.Frag} {tg l : Expr} {tl : TE} (hl : PE X l tl) (h : X.K = K := by rfl) : PI X tg l (iTup K tl) := h ▸ pi_tup hl
/-! ### texts of objects: repr -/
mutual
/-- data, empty dicts too -/
inductive Dq (K : PySem.W.Frag) (H : Hp) : V → PyData → Prop
  | non : Dq K H .non .none
  | bl (b : Bool) : Dq K H (.bl b) (.bool b)
  | int (i : Int) : Dq K H (.int i) (.int i)
  | str (x : Str) : Dq K H (.str x) (.str x)
  | lst {a : Addr} {xs : List V} {ds : List PyData} : SqL K H a xs → DqAll K H xs ds → Dq K H (.ref a) (.list ds)
  | tup {a : Addr} {xs : List V} {ds : List PyData} : SqT K H a xs → DqAll K H xs ds → Dq K H (.ref a) (.tuple ds)
  | dct {a : Addr} : H a = some (.dK []) → Dq K H (.ref a) (.dict [])
inductive DqAll (K : PySem.W.Frag) (H : Hp) : List V → List PyData → Prop
  | nil : DqAll K H [] []
  | cons {v : V} {vs : List V} {d : PyData} {ds : List PyData} : Dq K H v d → DqAll K H vs ds → DqAll K H (v :: vs) (d :: ds)
end
section
variable {X : Cx} {pins : List (Addr × Obj)} {σ : L2.St} {H : Hp} {s : Shared}
theorem not_sm (I : Inv X pins σ H s) (m : Sm X.K) {a : Addr} {o : Obj} (h : s.heap.get? a = some o) (hc : o.cls ≠ .type "dict") : a ≠ sysModules := fun z => by
  obtain ⟨u, h1, h2⟩ := m
  have h3 := I.kIn _ _ h1
  rw [z, h3] at h
  cases h
  exact hc h2
mutual
theorem Dq.reads (I : Inv X pins σ H s) (m : Sm X.K) : ∀ (d : PyData) (v : V) (u : Value), Dq X.K H v d → RelV v u → ∃ as, Reads s.heap u d as ∧ sysModules ∉ as
  | .none, _, _, h, r => by cases h; cases r; exact ⟨_, .none, by simp⟩
  | .bool b, _, _, h, r => by cases h; cases r; exact ⟨_, .bool b, by simp⟩
  | .int i, _, _, h, r => by cases h; obtain ⟨t, rfl⟩ := r; exact ⟨_, .int i t, by simp⟩
  | .str x, _, _, h, r => by cases h; obtain ⟨t, rfl⟩ := r; exact ⟨_, .str x t, by simp⟩
  | .list ds, _, _, h, r => by
    cases h with
    | lst hs ha =>
      cases r
      obtain ⟨its, rv, ⟨o, n, ho, hc, _, hd⟩, _⟩ := I.list hs
      obtain ⟨as, hr, hn⟩ := Dq.readsAll I m ds _ its ha rv
      exact ⟨_, .list ho hc hd hr, fun z => (List.mem_cons.mp z).elim (fun e => not_sm I m ho (by rw [hc]; decide +kernel) e.symm) hn⟩
  | .tuple ds, _, _, h, r => by
    cases h with
    | tup hs ha =>
      cases r
      obtain ⟨its, rv, ⟨o, ho, hc, n, hd⟩, _⟩ := I.tuple hs
      obtain ⟨as, hr, hn⟩ := Dq.readsAll I m ds _ its ha rv
      exact ⟨_, .tuple ho hc hd hr, hn⟩
  | .dict kvs, _, _, h, r => by
    cases h with
    | dct hs =>
      cases r
      rename_i a
      obtain ⟨_, hsm, vs, kv, hd⟩ := I.hok a _ hs
      cases kv
      obtain ⟨o, es, ep, ho, hx, hdat, _, hp, _⟩ := hd
      have e0 : es.toList = [] := by
        revert hp
        cases es.toList with
        | nil => exact fun _ => rfl
        | cons z l => exact fun hp => by cases hp
      refine ⟨_, .dict (as := []) (bs := []) ho hx.1 hdat ?_ ?_, fun z => ?_⟩
      · rw [e0]; exact .nil
      · rw [e0]; exact .nil
      · have z : sysModules = a := by simpa using z
        rw [z] at hsm
        simp at hsm
theorem Dq.readsAll (I : Inv X pins σ H s) (m : Sm X.K) : ∀ (ds : List PyData) (vs : List V) (us : List Value), DqAll X.K H vs ds → Vals vs us → ∃ as, ReadsAll s.heap us ds as ∧ sysModules ∉ as
  | [], _, _, h, r => by cases h; cases r; exact ⟨_, .nil, by simp⟩
  | d :: ds, _, _, h, r => by
    cases h with
    | cons h1 h2 =>
      cases r with
      | cons r1 r2 =>
        obtain ⟨as, q1, n1⟩ := Dq.reads I m d _ _ h1 r1
        obtain ⟨bs, q2, n2⟩ := Dq.readsAll I m ds _ _ h2 r2
        exact ⟨_, .cons q1 q2, fun z => (List.mem_append.mp z).elim n1 n2⟩
end
end
@[irreducible] def rRepr (K : PySem.W.Frag) : List V → Hp → VK → Prop := fun xs H Q => ∃ x d, xs = [x] ∧ Dq K H x d ∧ d.showable = true ∧ d.depth ≤ 50 ∧ d.shown.length ≤ sizeLine ∧ Q (.str d.shown) H
theorem call_repr {X : Cx} {K : PySem.W.Frag} (hg : X.A.guards = some []) (hu : X.A.units + 64 < cLine) (m : Sm K) (hK : X.K = K := by rfl) : CallR X (.builtin "repr") (rRepr K) := by
  subst hK
  intro pins s σ H xs us Q I r h
  unfold rRepr at h
  obtain ⟨x, d, rfl, hd, h1, h2, h3, q⟩ := h
  obtain ⟨u, rfl, ru⟩ := vals1 r
  obtain ⟨as, hr, hn⟩ := Dq.reads I m d x u hd ru
  have fin : ∀ (h' : Heap) (t : Tok) (tk : Nat), (∀ b o, s.heap.get? b = some o → h'.get? b = some o) → EP X pins σ Q (.str d.shown t) { s with heap := h', toks := tk } := fun h' t tk hk => ⟨.str d.shown, H, I.kept hk, ⟨t, rfl⟩, q⟩
  have rf : ∀ a, u = .ref a → wpAny (model X.prog X.w) X.A (call (.builtin "repr") [u]) (EP X pins σ Q) X.xe s := fun a e => by
    subst e
    exact repr_of_reads' hr h1 (fun _ => hn) hg (by omega) (fun _ _ e => e) fin h3
  cases hr with
  | none => exact PySem.P.repr_of_none (fin s.heap _ _ fun _ _ e => e)
  | bool b => exact PySem.P.repr_of_bool (by cases b <;> exact fin s.heap _ _ fun _ _ e => e)
  | int i t => exact PySem.P.repr_of_int (by simpa [PyData.showable] using h1) (fin s.heap _ _ fun _ _ e => e)
  | str z t => exact PySem.P.repr_of_str (fin s.heap _ _ fun _ _ e => e) h3
  | list _ _ _ _ => exact rf _ rfl
  | tuple _ _ _ _ => exact rf _ rfl
  | dict _ _ _ _ _ => exact rf _ rfl
end KR
namespace KR
open PySem PySem.Spec PyProof.Rows L2 LamX
/-! ### the end of a law row whose defs make lambdas and print objects -/
/-- what stands at the law's call: the script (if not written), the tables -/
def startH (K : PySem.W.Frag) (T : List Addr) (a : Addr) (o : Obj) (xs : List V) : Hp := fun b => if b ∈ T then some (.tbl #[]) else if b = a ∧ K.lookup a = none then some (.frz o (.lst xs)) else none
section
variable {K : PySem.W.Frag} {T : List Addr} {a b : Addr} {o : Obj} {xs : List V}
theorem startH_tab (h : b ∈ T) : startH K T a o xs b = some (.tbl #[]) := if_pos h
theorem startH_scr (h : a ∉ T) (k : K.lookup a = none) : startH K T a o xs a = some (.frz o (.lst xs)) := (if_neg h).trans (if_pos ⟨rfl, k⟩)
theorem startH_cases (b : Addr) : (b ∈ T ∧ startH K T a o xs b = some (.tbl #[])) ∨ (b ∉ T ∧ b = a ∧ K.lookup a = none ∧ startH K T a o xs b = some (.frz o (.lst xs))) ∨ startH K T a o xs b = none := by
  by_cases h : b ∈ T
  · exact .inl ⟨h, startH_tab h⟩
  · by_cases h2 : b = a ∧ K.lookup a = none
    · exact .inr (.inl ⟨h, h2.1, h2.2, (if_neg h).trans (if_pos h2)⟩)
    · exact .inr (.inr ((if_neg h).trans (if_neg h2)))
end
/-- what is known of the law's promise -/
def LawG (P : Program) (w : World) (K : PySem.W.Frag) (k n : Nat) (x : Str) (mg : Str → Option Value) (fa : Addr) (h : Heap) : Prop :=
  ∃ (fd : FuncData) (cs : List (Addr × Addr)) (sp : Sp), (∀ p ∈ cs, PySem.W.codeHdIn K p.1 p.2 = true ∧ K.lookup p.2 = none ∧ h.get? p.2 = some { cls := .none, data := .fields #[] }) ∧ (∀ (s : Shared) (u : Value), BindsTo s fd ⟨[u], []⟩ [(x, u)]) ∧
    (∀ (H : Hp) (a : Addr) (ns : List Int), ns.length ≤ n → (∀ p ∈ cs, H p.2 = some (.tbl #[])) → SqL K H a (ns.map V.int) → sp [.ref a] H (fun v _ => v = .bl true) fun _ _ _ => False) ∧
    ∀ base : Heap, K.In base → base.Ns mainGlobals mg → (∀ p ∈ cs, TabB base mg p.1 p.2) → FnG P w K mg base CX0 k fa fd [x] sp
theorem walkG {l : PySem.W.OpenLaw} {n k : Nat} {q : Program} {loose : List Str} {XP : (Str → Option Value) → Heap → Prop} {YP : World → Heap → Prop} {d : DefRec} {x : Str} (hn : l.most = some n) (hn2 : n ≤ sizeLine) (hdf : d.params.defaults = []) (hr : Room k callerA)
    (F : ∀ (w : World) (mg : Str → Option Value) (fa : Addr) (h : Heap), YP w h → h.Ns mainGlobals mg → mg d.name = some (.ref fa) → ∃ K : PySem.W.Frag, K.In h ∧ LawG l.prog w K k n x mg fa h) :
    PySem.W.WalkO q loose XP YP l.row.toRowW d [] (fun f vs => PySem.call f vs) := by
  refine Att.attach_callB hn hdf fun w s₀ s₁ mg mb fa o pm cd doc a vs ns G Y ho hd hcd hmg hobj hints hlen hbits hg => ?_
  obtain ⟨K, KX, fd, cs, sp, hcs, hbind, hsp, hF⟩ := F w mg fa _ Y G.T.g hmg
  have hlen2 : ns.length ≤ sizeLine := Nat.le_trans hlen hn2
  have lenV := hints.length
  have rv := vals_ints hints
  -- the tables
  generalize hT : cs.map (fun p => p.2) = T
  have tab : ∀ b ∈ T, ∃ p ∈ cs, p.2 = b ∧ s₁.heap.get? b = some { cls := .none, data := .fields #[] } := by
    intro b hb
    rw [← hT] at hb
    obtain ⟨p, hp, rfl⟩ := List.mem_map.mp hb
    exact ⟨p, hp, rfl, (hcs p hp).2.2⟩
  have inT : ∀ p ∈ cs, p.2 ∈ T := fun p hp => hT ▸ List.mem_map.mpr ⟨p, hp, rfl⟩
  have naT : a ∉ T := fun z => by
    obtain ⟨_, _, _, e⟩ := tab a z
    have := congrArg Obj.data (Option.some.inj (hobj.symm.trans e))
    exact nomatch (show Data.seq vs.toArray _ = Data.fields #[] from this)
  generalize hH : startH K T a { cls := .type "list", data := .seq vs.toArray } (ns.map V.int) = H
  have cse : ∀ b, (b ∈ T ∧ H b = some (.tbl #[])) ∨ (b ∉ T ∧ b = a ∧ K.lookup a = none ∧ H b = some (.frz { cls := .type "list", data := .seq vs.toArray } (.lst (ns.map V.int)))) ∨ H b = none := fun b => hH ▸ startH_cases b
  have seqA : SqL K H a (ns.map V.int) := by
    cases hk : K.lookup a with
    | some u =>
      have := (KX a u hk).symm.trans hobj
      cases this
      exact .inr ⟨_, vs.toArray, _, hk, rfl, rfl, rfl, by rw [List.size_toArray, lenV]; exact hlen2, rv⟩
    | none => exact .inl (.inr ⟨_, hH ▸ startH_scr naT hk⟩)
  have hok : HOk l.prog w H s₁.heap := by
    intro b u e
    rcases cse b with ⟨hb, e2⟩ | ⟨_, rfl, _, e2⟩ | e2
    · obtain rfl := Option.some.inj (e.symm.trans e2)
      obtain ⟨_, _, _, z⟩ := tab b hb
      exact z
    · obtain rfl := Option.some.inj (e.symm.trans e2)
      exact ⟨hobj, by rw [List.length_map]; exact hlen2, vs, _, rv, hobj⟩
    · cases e.symm.trans e2
  -- what is neither a table nor the script is not tracked
  have free : ∀ {b : Addr} {u : Obj}, s₁.heap.get? b = some u → u.data ≠ .fields #[] → u ≠ { cls := .type "list", data := .seq vs.toArray } → H b = none := by
    intro b u e n1 n2
    rcases cse b with ⟨hb, _⟩ | ⟨_, rfl, _⟩ | e2
    · obtain ⟨_, _, _, z⟩ := tab b hb
      cases e.symm.trans z
      exact absurd rfl n1
    · exact absurd (Option.some.inj (e.symm.trans hobj)) n2
    · exact e2
  have freeD : ∀ {b : Addr} {u : Obj} {es : Array DictEntry} {ep : Nat}, s₁.heap.get? b = some u → u.data = .dict es ep → H b = none := fun e d => free e (by rw [d]; exact nofun) fun z => by rw [z] at d; exact nomatch d
  have ns' : ∀ {b : Addr} {m : Str → Option Value}, s₁.heap.Ns b m → (hidT s₁.heap H).Ns b m := by
    rintro b m ⟨u, es, ep, e, dd, r⟩
    exact ⟨u, es, ep, hidT_get e (freeD e dd), dd, r⟩
  have inB : K.In (hidT s₁.heap H) := by
    intro b u e
    refine hidT_get (KX b u e) ?_
    rcases cse b with ⟨hb, _⟩ | ⟨_, rfl, z, _⟩ | e2
    · obtain ⟨p, hp, rfl, _⟩ := tab b hb
      cases e.symm.trans (hcs p hp).2.1
    · cases e.symm.trans z
    · exact e2
  have bm : ∀ p ∈ cs, (hidT s₁.heap H).BuiltinsAt mg p.2 := by
    intro p hp
    obtain ⟨m, u, b1, b2, b3, b4, b5, b6⟩ := G.T.bmain
    obtain ⟨gu, _, _, ge, gd, _⟩ := G.T.g
    refine ⟨m, u, b1, b2, fun z => ?_, fun z => ?_, hidT_get b3 (free b3 (by rw [b6]; exact nofun) fun z => by rw [z] at b6; exact nomatch b6), b4, b5, b6⟩
    · rw [z, ge] at b3
      cases b3
      cases gd.symm.trans b6
    · rw [z, (hcs p hp).2.2] at b3
      cases b3
      cases b6
  have tb : ∀ p ∈ cs, TabB (hidT s₁.heap H) mg p.1 p.2 := fun p hp => NdefX.tabB_of_K inB (hcs p hp).1 (bm p hp) fun z => by
    obtain ⟨gu, _, _, ge, gd, _⟩ := G.T.g
    rw [z, (hcs p hp).2.2] at ge
    cases ge
    cases gd
  have lim : (hidT s₁.heap H).NoLimit := by
    obtain ⟨mc, h1, h2⟩ := G.T.nolimit
    exact ⟨mc, ns' h1, h2⟩
  have e0 : Env0 l.prog w K mg (hidT s₁.heap H) callerA [] s₁ H := { frames := rfl, mod := ⟨inB, ns' G.T.g, ⟨mb, ns' G.T.b, G.T.builtins⟩, lim⟩, bs := fun b u e => of_hidT e, bsz := Nat.le_of_eq (hidT_size _ _), funs := trivial, frf := fun b z => (nomatch z), hok := hok, bare := .of_eq hg }
  have run := (hF _ inB (ns' G.T.g) tb).run callerA [] s₁ H ⟨[.ref a], []⟩ [.ref a] [.ref a] (fun v _ => v = .bl true) (fun _ _ _ => False) rfl hr e0 (hbind s₁ (.ref a)) (.cons rfl .nil) (hsp H a ns hlen (fun p hp => hH ▸ startH_tab (inT p hp)) seqA)
  refine codeAny_mono run fun r s' z => ?_
  match r, z with
  | .ok (.ret u), ⟨v, H', os, bare, un, hok', r', q⟩ =>
    obtain rfl : v = V.bl true := q
    obtain rfl : u = Value.bool true := r'
    have keep : ∀ b u, b ∉ T → s₁.heap.get? b = some u → s'.heap.get? b = some u := by
      intro b u nb e
      rcases cse b with ⟨hb, _⟩ | ⟨_, rfl, _, e2⟩ | e2
      · exact absurd hb nb
      · have g1 := (hok' b _ (un.frzs b _ _ e2)).1
        rw [← e, hobj] at *
        exact g1
      · exact un.keep b u e e2 (fun z => nomatch z) (fun z => nomatch z)
    refine ⟨rfl, ⟨fun b u e => ?_, fun b u e => ?_⟩, os, bare⟩ <;> by_cases hb : b ∈ T
    · obtain ⟨p, hp, rfl, e3⟩ := tab b hb
      obtain ⟨more, hm⟩ := un.tbls p.2 #[] (hH ▸ startH_tab hb)
      have hm2 := hok' _ _ hm
      have ch := PySem.W.codeHd_of_K KX (hcs p hp).1
      cases e.symm.trans e3
      exact .inr (.inl ⟨(ch.tab e3).isCodeTable, rfl, #[], more, rfl, by rw [Array.empty_append]; rw [Array.empty_append] at hm2; exact hm2⟩)
    · exact .inl (keep b u hb e)
    · obtain ⟨p, hp, rfl, e3⟩ := tab b hb
      obtain ⟨more, hm⟩ := un.tbls p.2 #[] (hH ▸ startH_tab hb)
      exact ⟨_, hok' _ _ hm⟩
    · exact ⟨u, keep b u hb e⟩
end KR
namespace KR
open PySem PySem.Spec PyProof.Rows L2 LamX
def topS (i : Nat) : Stmt := PySem.Challenge.pw_keeprows_k11_heap_pages_refused.main.body.getD i (.Pass ⟨0, 0, 0, 0⟩)
abbrev s_is_integer : Stmt := topS 15
abbrev P_is_integer : List Str := ["value"]
abbrev N_is_integer : List Str := ["value"]
def dd_is_integer : He.DefD := ⟨("is_integer", none), "is_integer", "is_integer", defArgs s_is_integer, defBody s_is_integer, defScope s_is_integer, [], []⟩
theorem sc_is_integer : FnScope N_is_integer P_is_integer (defScope s_is_integer) := ⟨rfl, rfl, rfl, by decide +kernel, rfl, by decide +kernel, by decide +kernel⟩
abbrev F_is_integer (K : PySem.W.Frag) (fd : FuncData) : Prop := FunD K "is_integer" "is_integer" (defArgs s_is_integer) (defBody s_is_integer) (defScope s_is_integer) [] [] (He.fAd K ("is_integer", none)) fd
abbrev s_is_between : Stmt := topS 16
abbrev P_is_between : List Str := ["value", "low", "high"]
abbrev N_is_between : List Str := ["value", "low", "high"]
def dd_is_between : He.DefD := ⟨("is_between", none), "is_between", "is_between", defArgs s_is_between, defBody s_is_between, defScope s_is_between, [], []⟩
theorem sc_is_between : FnScope N_is_between P_is_between (defScope s_is_between) := ⟨rfl, rfl, rfl, by decide +kernel, rfl, by decide +kernel, by decide +kernel⟩
abbrev F_is_between (K : PySem.W.Frag) (fd : FuncData) : Prop := FunD K "is_between" "is_between" (defArgs s_is_between) (defBody s_is_between) (defScope s_is_between) [] [] (He.fAd K ("is_between", none)) fd
abbrev s_check_part : Stmt := topS 17
abbrev P_check_part : List Str := ["part", "value", "low", "high"]
abbrev N_check_part : List Str := ["part", "value", "low", "high"]
def dd_check_part : He.DefD := ⟨("check_part", none), "check_part", "check_part", defArgs s_check_part, defBody s_check_part, defScope s_check_part, [], []⟩
theorem sc_check_part : FnScope N_check_part P_check_part (defScope s_check_part) := ⟨rfl, rfl, rfl, by decide +kernel, rfl, by decide +kernel, by decide +kernel⟩
abbrev F_check_part (K : PySem.W.Frag) (fd : FuncData) : Prop := FunD K "check_part" "check_part" (defArgs s_check_part) (defBody s_check_part) (defScope s_check_part) [] [] (He.fAd K ("check_part", none)) fd
abbrev s_Settings___init__ : Stmt := inClass (topS 18) 0
abbrev P_Settings___init__ : List Str := ["self", "lengths", "size", "fanout", "records", "every", "keep"]
abbrev N_Settings___init__ : List Str := ["self", "lengths", "size", "fanout", "records", "every", "keep", "length"]
def dd_Settings___init__ : He.DefD := ⟨("Settings", some "__init__"), "__init__", "Settings.__init__", defArgs s_Settings___init__, defBody s_Settings___init__, defScope s_Settings___init__, [], []⟩
theorem sc_Settings___init__ : FnScope N_Settings___init__ P_Settings___init__ (defScope s_Settings___init__) := ⟨rfl, rfl, rfl, by decide +kernel, rfl, by decide +kernel, by decide +kernel⟩
abbrev F_Settings___init__ (K : PySem.W.Frag) (fd : FuncData) : Prop := FunD K "__init__" "Settings.__init__" (defArgs s_Settings___init__) (defBody s_Settings___init__) (defScope s_Settings___init__) [] [] (He.fAd K ("Settings", some "__init__")) fd
abbrev s_Settings___eq__ : Stmt := inClass (topS 18) 1
abbrev P_Settings___eq__ : List Str := ["self", "other"]
abbrev N_Settings___eq__ : List Str := ["self", "other"]
def dd_Settings___eq__ : He.DefD := ⟨("Settings", some "__eq__"), "__eq__", "Settings.__eq__", defArgs s_Settings___eq__, defBody s_Settings___eq__, defScope s_Settings___eq__, [], []⟩
theorem sc_Settings___eq__ : FnScope N_Settings___eq__ P_Settings___eq__ (defScope s_Settings___eq__) := ⟨rfl, rfl, rfl, by decide +kernel, rfl, by decide +kernel, by decide +kernel⟩
abbrev F_Settings___eq__ (K : PySem.W.Frag) (fd : FuncData) : Prop := FunD K "__eq__" "Settings.__eq__" (defArgs s_Settings___eq__) (defBody s_Settings___eq__) (defScope s_Settings___eq__) [] [] (He.fAd K ("Settings", some "__eq__")) fd
abbrev s_Settings_parts : Stmt := inClass (topS 18) 2
abbrev P_Settings_parts : List Str := ["self"]
abbrev N_Settings_parts : List Str := ["self"]
def dd_Settings_parts : He.DefD := ⟨("Settings", some "parts"), "parts", "Settings.parts", defArgs s_Settings_parts, defBody s_Settings_parts, defScope s_Settings_parts, [], []⟩
theorem sc_Settings_parts : FnScope N_Settings_parts P_Settings_parts (defScope s_Settings_parts) := ⟨rfl, rfl, rfl, by decide +kernel, rfl, by decide +kernel, by decide +kernel⟩
abbrev F_Settings_parts (K : PySem.W.Frag) (fd : FuncData) : Prop := FunD K "parts" "Settings.parts" (defArgs s_Settings_parts) (defBody s_Settings_parts) (defScope s_Settings_parts) [] [] (He.fAd K ("Settings", some "parts")) fd
abbrev s_check_settings : Stmt := topS 19
abbrev P_check_settings : List Str := ["value"]
abbrev N_check_settings : List Str := ["value"]
def dd_check_settings : He.DefD := ⟨("check_settings", none), "check_settings", "check_settings", defArgs s_check_settings, defBody s_check_settings, defScope s_check_settings, [], []⟩
theorem sc_check_settings : FnScope N_check_settings P_check_settings (defScope s_check_settings) := ⟨rfl, rfl, rfl, by decide +kernel, rfl, by decide +kernel, by decide +kernel⟩
abbrev F_check_settings (K : PySem.W.Frag) (fd : FuncData) : Prop := FunD K "check_settings" "check_settings" (defArgs s_check_settings) (defBody s_check_settings) (defScope s_check_settings) [] [] (He.fAd K ("check_settings", none)) fd
abbrev s_check_row : Stmt := topS 20
abbrev P_check_row : List Str := ["value", "moment"]
abbrev N_check_row : List Str := ["value", "moment"]
def dd_check_row : He.DefD := ⟨("check_row", none), "check_row", "check_row", defArgs s_check_row, defBody s_check_row, defScope s_check_row, [.int (1000000000000000000000000000000)], []⟩
theorem sc_check_row : FnScope N_check_row P_check_row (defScope s_check_row) := ⟨rfl, rfl, rfl, by decide +kernel, rfl, by decide +kernel, by decide +kernel⟩
abbrev F_check_row (K : PySem.W.Frag) (fd : FuncData) : Prop := FunD K "check_row" "check_row" (defArgs s_check_row) (defBody s_check_row) (defScope s_check_row) [.int (1000000000000000000000000000000)] [] (He.fAd K ("check_row", none)) fd
abbrev s_Packing___init__ : Stmt := inClass (topS 22) 0
abbrev P_Packing___init__ : List Str := ["self", "settings"]
abbrev N_Packing___init__ : List Str := ["self", "settings", "seen"]
def dd_Packing___init__ : He.DefD := ⟨("Packing", some "__init__"), "__init__", "Packing.__init__", defArgs s_Packing___init__, defBody s_Packing___init__, defScope s_Packing___init__, [], []⟩
theorem sc_Packing___init__ : FnScope N_Packing___init__ P_Packing___init__ (defScope s_Packing___init__) := ⟨rfl, rfl, rfl, by decide +kernel, rfl, by decide +kernel, by decide +kernel⟩
abbrev F_Packing___init__ (K : PySem.W.Frag) (fd : FuncData) : Prop := FunD K "__init__" "Packing.__init__" (defArgs s_Packing___init__) (defBody s_Packing___init__) (defScope s_Packing___init__) [] [] (He.fAd K ("Packing", some "__init__")) fd
abbrev s_Packing_length : Stmt := inClass (topS 22) 1
abbrev P_Packing_length : List Str := ["self", "row"]
abbrev N_Packing_length : List Str := ["self", "row"]
def dd_Packing_length : He.DefD := ⟨("Packing", some "length"), "length", "Packing.length", defArgs s_Packing_length, defBody s_Packing_length, defScope s_Packing_length, [], []⟩
theorem sc_Packing_length : FnScope N_Packing_length P_Packing_length (defScope s_Packing_length) := ⟨rfl, rfl, rfl, by decide +kernel, rfl, by decide +kernel, by decide +kernel⟩
abbrev F_Packing_length (K : PySem.W.Frag) (fd : FuncData) : Prop := FunD K "length" "Packing.length" (defArgs s_Packing_length) (defBody s_Packing_length) (defScope s_Packing_length) [] [] (He.fAd K ("Packing", some "length")) fd
abbrev s_Packing_rows_from : Stmt := inClass (topS 22) 2
abbrev P_Packing_rows_from : List Str := ["self", "row"]
abbrev N_Packing_rows_from : List Str := ["self", "row", "found", "units"]
def dd_Packing_rows_from : He.DefD := ⟨("Packing", some "rows_from"), "rows_from", "Packing.rows_from", defArgs s_Packing_rows_from, defBody s_Packing_rows_from, defScope s_Packing_rows_from, [], []⟩
theorem sc_Packing_rows_from : FnScope N_Packing_rows_from P_Packing_rows_from (defScope s_Packing_rows_from) := ⟨rfl, rfl, rfl, by decide +kernel, rfl, by decide +kernel, by decide +kernel⟩
abbrev F_Packing_rows_from (K : PySem.W.Frag) (fd : FuncData) : Prop := FunD K "rows_from" "Packing.rows_from" (defArgs s_Packing_rows_from) (defBody s_Packing_rows_from) (defScope s_Packing_rows_from) [] [] (He.fAd K ("Packing", some "rows_from")) fd
abbrev s_Packing_start : Stmt := inClass (topS 22) 3
abbrev P_Packing_start : List Str := ["self", "page"]
abbrev N_Packing_start : List Str := ["self", "page", "times", "place"]
def dd_Packing_start : He.DefD := ⟨("Packing", some "start"), "start", "Packing.start", defArgs s_Packing_start, defBody s_Packing_start, defScope s_Packing_start, [], []⟩
theorem sc_Packing_start : FnScope N_Packing_start P_Packing_start (defScope s_Packing_start) := ⟨rfl, rfl, rfl, by decide +kernel, rfl, by decide +kernel, by decide +kernel⟩
abbrev F_Packing_start (K : PySem.W.Frag) (fd : FuncData) : Prop := FunD K "start" "Packing.start" (defArgs s_Packing_start) (defBody s_Packing_start) (defScope s_Packing_start) [] [] (He.fAd K ("Packing", some "start")) fd
abbrev s_Packing_holder : Stmt := inClass (topS 22) 4
abbrev P_Packing_holder : List Str := ["self", "row"]
abbrev N_Packing_holder : List Str := ["self", "row", "times", "near", "page", "place"]
def dd_Packing_holder : He.DefD := ⟨("Packing", some "holder"), "holder", "Packing.holder", defArgs s_Packing_holder, defBody s_Packing_holder, defScope s_Packing_holder, [], []⟩
theorem sc_Packing_holder : FnScope N_Packing_holder P_Packing_holder (defScope s_Packing_holder) := ⟨rfl, rfl, rfl, by decide +kernel, rfl, by decide +kernel, by decide +kernel⟩
abbrev F_Packing_holder (K : PySem.W.Frag) (fd : FuncData) : Prop := FunD K "holder" "Packing.holder" (defArgs s_Packing_holder) (defBody s_Packing_holder) (defScope s_Packing_holder) [] [] (He.fAd K ("Packing", some "holder")) fd
abbrev s_Packing_check_page : Stmt := inClass (topS 22) 5
abbrev P_Packing_check_page : List Str := ["self", "page"]
abbrev N_Packing_check_page : List Str := ["self", "page"]
def dd_Packing_check_page : He.DefD := ⟨("Packing", some "check_page"), "check_page", "Packing.check_page", defArgs s_Packing_check_page, defBody s_Packing_check_page, defScope s_Packing_check_page, [], []⟩
theorem sc_Packing_check_page : FnScope N_Packing_check_page P_Packing_check_page (defScope s_Packing_check_page) := ⟨rfl, rfl, rfl, by decide +kernel, rfl, by decide +kernel, by decide +kernel⟩
abbrev F_Packing_check_page (K : PySem.W.Frag) (fd : FuncData) : Prop := FunD K "check_page" "Packing.check_page" (defArgs s_Packing_check_page) (defBody s_Packing_check_page) (defScope s_Packing_check_page) [] [] (He.fAd K ("Packing", some "check_page")) fd
abbrev s_Packing_units_of : Stmt := inClass (topS 22) 6
abbrev P_Packing_units_of : List Str := ["self", "row", "behind"]
abbrev N_Packing_units_of : List Str := ["self", "row", "behind", "one"]
def dd_Packing_units_of : He.DefD := ⟨("Packing", some "units_of"), "units_of", "Packing.units_of", defArgs s_Packing_units_of, defBody s_Packing_units_of, defScope s_Packing_units_of, [], []⟩
theorem sc_Packing_units_of : FnScope N_Packing_units_of P_Packing_units_of (defScope s_Packing_units_of) := ⟨rfl, rfl, rfl, by decide +kernel, rfl, by decide +kernel, by decide +kernel⟩
abbrev F_Packing_units_of (K : PySem.W.Frag) (fd : FuncData) : Prop := FunD K "units_of" "Packing.units_of" (defArgs s_Packing_units_of) (defBody s_Packing_units_of) (defScope s_Packing_units_of) [] [] (He.fAd K ("Packing", some "units_of")) fd
abbrev s_Packing_first_row : Stmt := inClass (topS 22) 7
abbrev P_Packing_first_row : List Str := ["self", "page"]
abbrev N_Packing_first_row : List Str := ["self", "page"]
def dd_Packing_first_row : He.DefD := ⟨("Packing", some "first_row"), "first_row", "Packing.first_row", defArgs s_Packing_first_row, defBody s_Packing_first_row, defScope s_Packing_first_row, [], []⟩
theorem sc_Packing_first_row : FnScope N_Packing_first_row P_Packing_first_row (defScope s_Packing_first_row) := ⟨rfl, rfl, rfl, by decide +kernel, rfl, by decide +kernel, by decide +kernel⟩
abbrev F_Packing_first_row (K : PySem.W.Frag) (fd : FuncData) : Prop := FunD K "first_row" "Packing.first_row" (defArgs s_Packing_first_row) (defBody s_Packing_first_row) (defScope s_Packing_first_row) [] [] (He.fAd K ("Packing", some "first_row")) fd
abbrev s_Packing_page_of : Stmt := inClass (topS 22) 8
abbrev P_Packing_page_of : List Str := ["self", "row"]
abbrev N_Packing_page_of : List Str := ["self", "row"]
def dd_Packing_page_of : He.DefD := ⟨("Packing", some "page_of"), "page_of", "Packing.page_of", defArgs s_Packing_page_of, defBody s_Packing_page_of, defScope s_Packing_page_of, [], []⟩
theorem sc_Packing_page_of : FnScope N_Packing_page_of P_Packing_page_of (defScope s_Packing_page_of) := ⟨rfl, rfl, rfl, by decide +kernel, rfl, by decide +kernel, by decide +kernel⟩
abbrev F_Packing_page_of (K : PySem.W.Frag) (fd : FuncData) : Prop := FunD K "page_of" "Packing.page_of" (defArgs s_Packing_page_of) (defBody s_Packing_page_of) (defScope s_Packing_page_of) [] [] (He.fAd K ("Packing", some "page_of")) fd
abbrev s_Packing_rows_on : Stmt := inClass (topS 22) 9
abbrev P_Packing_rows_on : List Str := ["self", "page"]
abbrev N_Packing_rows_on : List Str := ["self", "page"]
def dd_Packing_rows_on : He.DefD := ⟨("Packing", some "rows_on"), "rows_on", "Packing.rows_on", defArgs s_Packing_rows_on, defBody s_Packing_rows_on, defScope s_Packing_rows_on, [], []⟩
theorem sc_Packing_rows_on : FnScope N_Packing_rows_on P_Packing_rows_on (defScope s_Packing_rows_on) := ⟨rfl, rfl, rfl, by decide +kernel, rfl, by decide +kernel, by decide +kernel⟩
abbrev F_Packing_rows_on (K : PySem.W.Frag) (fd : FuncData) : Prop := FunD K "rows_on" "Packing.rows_on" (defArgs s_Packing_rows_on) (defBody s_Packing_rows_on) (defScope s_Packing_rows_on) [] [] (He.fAd K ("Packing", some "rows_on")) fd
abbrev s_Packing_units_on : Stmt := inClass (topS 22) 10
abbrev P_Packing_units_on : List Str := ["self", "page"]
abbrev N_Packing_units_on : List Str := ["self", "page"]
def dd_Packing_units_on : He.DefD := ⟨("Packing", some "units_on"), "units_on", "Packing.units_on", defArgs s_Packing_units_on, defBody s_Packing_units_on, defScope s_Packing_units_on, [], []⟩
theorem sc_Packing_units_on : FnScope N_Packing_units_on P_Packing_units_on (defScope s_Packing_units_on) := ⟨rfl, rfl, rfl, by decide +kernel, rfl, by decide +kernel, by decide +kernel⟩
abbrev F_Packing_units_on (K : PySem.W.Frag) (fd : FuncData) : Prop := FunD K "units_on" "Packing.units_on" (defArgs s_Packing_units_on) (defBody s_Packing_units_on) (defScope s_Packing_units_on) [] [] (He.fAd K ("Packing", some "units_on")) fd
abbrev s_law_mix : Stmt := topS 24
abbrev P_law_mix : List Str := ["cell", "lap"]
abbrev N_law_mix : List Str := ["cell", "lap", "blend"]
def dd_law_mix : He.DefD := ⟨("_law_mix", none), "_law_mix", "_law_mix", defArgs s_law_mix, defBody s_law_mix, defScope s_law_mix, [], []⟩
theorem sc_law_mix : FnScope N_law_mix P_law_mix (defScope s_law_mix) := ⟨rfl, rfl, rfl, by decide +kernel, rfl, by decide +kernel, by decide +kernel⟩
abbrev F_law_mix (K : PySem.W.Frag) (fd : FuncData) : Prop := FunD K "_law_mix" "_law_mix" (defArgs s_law_mix) (defBody s_law_mix) (defScope s_law_mix) [] [] (He.fAd K ("_law_mix", none)) fd
abbrev s_law_source : Stmt := topS 25
abbrev P_law_source : List Str := ["script", "k"]
abbrev N_law_source : List Str := ["script", "k", "cell"]
def dd_law_source : He.DefD := ⟨("_law_source", none), "_law_source", "_law_source", defArgs s_law_source, defBody s_law_source, defScope s_law_source, [], []⟩
theorem sc_law_source : FnScope N_law_source P_law_source (defScope s_law_source) := ⟨rfl, rfl, rfl, by decide +kernel, rfl, by decide +kernel, by decide +kernel⟩
abbrev F_law_source (K : PySem.W.Frag) (fd : FuncData) : Prop := FunD K "_law_source" "_law_source" (defArgs s_law_source) (defBody s_law_source) (defScope s_law_source) [] [] (He.fAd K ("_law_source", none)) fd
abbrev s_law_draw : Stmt := topS 26
abbrev P_law_draw : List Str := ["source", "limit"]
abbrev N_law_draw : List Str := ["source", "limit", "drawn"]
def dd_law_draw : He.DefD := ⟨("_law_draw", none), "_law_draw", "_law_draw", defArgs s_law_draw, defBody s_law_draw, defScope s_law_draw, [], []⟩
theorem sc_law_draw : FnScope N_law_draw P_law_draw (defScope s_law_draw) := ⟨rfl, rfl, rfl, by decide +kernel, rfl, by decide +kernel, by decide +kernel⟩
abbrev F_law_draw (K : PySem.W.Frag) (fd : FuncData) : Prop := FunD K "_law_draw" "_law_draw" (defArgs s_law_draw) (defBody s_law_draw) (defScope s_law_draw) [] [] (He.fAd K ("_law_draw", none)) fd
abbrev s_law_pick : Stmt := topS 27
abbrev P_law_pick : List Str := ["source", "items"]
abbrev N_law_pick : List Str := ["source", "items"]
def dd_law_pick : He.DefD := ⟨("_law_pick", none), "_law_pick", "_law_pick", defArgs s_law_pick, defBody s_law_pick, defScope s_law_pick, [], []⟩
theorem sc_law_pick : FnScope N_law_pick P_law_pick (defScope s_law_pick) := ⟨rfl, rfl, rfl, by decide +kernel, rfl, by decide +kernel, by decide +kernel⟩
abbrev F_law_pick (K : PySem.W.Frag) (fd : FuncData) : Prop := FunD K "_law_pick" "_law_pick" (defArgs s_law_pick) (defBody s_law_pick) (defScope s_law_pick) [] [] (He.fAd K ("_law_pick", none)) fd
abbrev s_law_parts : Stmt := topS 28
abbrev P_law_parts : List Str := ["source"]
abbrev N_law_parts : List Str := ["source", "room", "some", "found", "low", "high", "k"]
def dd_law_parts : He.DefD := ⟨("_law_parts", none), "_law_parts", "_law_parts", defArgs s_law_parts, defBody s_law_parts, defScope s_law_parts, [], []⟩
theorem sc_law_parts : FnScope N_law_parts P_law_parts (defScope s_law_parts) := ⟨rfl, rfl, rfl, by decide +kernel, rfl, by decide +kernel, by decide +kernel⟩
abbrev F_law_parts (K : PySem.W.Frag) (fd : FuncData) : Prop := FunD K "_law_parts" "_law_parts" (defArgs s_law_parts) (defBody s_law_parts) (defScope s_law_parts) [] [] (He.fAd K ("_law_parts", none)) fd
abbrev s_law_settings : Stmt := topS 29
abbrev P_law_settings : List Str := ["p"]
abbrev N_law_settings : List Str := ["p"]
def dd_law_settings : He.DefD := ⟨("_law_settings", none), "_law_settings", "_law_settings", defArgs s_law_settings, defBody s_law_settings, defScope s_law_settings, [], []⟩
theorem sc_law_settings : FnScope N_law_settings P_law_settings (defScope s_law_settings) := ⟨rfl, rfl, rfl, by decide +kernel, rfl, by decide +kernel, by decide +kernel⟩
abbrev F_law_settings (K : PySem.W.Frag) (fd : FuncData) : Prop := FunD K "_law_settings" "_law_settings" (defArgs s_law_settings) (defBody s_law_settings) (defScope s_law_settings) [] [] (He.fAd K ("_law_settings", none)) fd
abbrev s_law_said : Stmt := topS 30
abbrev P_law_said : List Str := ["ask"]
abbrev N_law_said : List Str := ["ask", "e"]
def dd_law_said : He.DefD := ⟨("_law_said", none), "_law_said", "_law_said", defArgs s_law_said, defBody s_law_said, defScope s_law_said, [], []⟩
theorem sc_law_said : FnScope N_law_said P_law_said (defScope s_law_said) := ⟨rfl, rfl, rfl, by decide +kernel, rfl, by decide +kernel, by decide +kernel⟩
abbrev F_law_said (K : PySem.W.Frag) (fd : FuncData) : Prop := FunD K "_law_said" "_law_said" (defArgs s_law_said) (defBody s_law_said) (defScope s_law_said) [] [] (He.fAd K ("_law_said", none)) fd
abbrev s_law_pages_said : Stmt := topS 31
abbrev P_law_pages_said : List Str := ["packed", "odd"]
abbrev N_law_pages_said : List Str := ["packed", "odd", "told"]
def dd_law_pages_said : He.DefD := ⟨("_law_pages_said", none), "_law_pages_said", "_law_pages_said", defArgs s_law_pages_said, defBody s_law_pages_said, defScope s_law_pages_said, [], []⟩
theorem sc_law_pages_said : FnScope N_law_pages_said P_law_pages_said (defScope s_law_pages_said) := ⟨rfl, rfl, rfl, by decide +kernel, rfl, by decide +kernel, by decide +kernel⟩
abbrev F_law_pages_said (K : PySem.W.Frag) (fd : FuncData) : Prop := FunD K "_law_pages_said" "_law_pages_said" (defArgs s_law_pages_said) (defBody s_law_pages_said) (defScope s_law_pages_said) [] [] (He.fAd K ("_law_pages_said", none)) fd
abbrev s_law_right : Stmt := topS 32
abbrev P_law_right : List Str := ["source"]
abbrev N_law_right : List Str := ["source", "packed", "last", "odds", "odd", "page"]
def dd_law_right : He.DefD := ⟨("_law_right", none), "_law_right", "_law_right", defArgs s_law_right, defBody s_law_right, defScope s_law_right, [], []⟩
theorem sc_law_right : FnScope N_law_right P_law_right (defScope s_law_right) := ⟨rfl, rfl, rfl, by decide +kernel, rfl, by decide +kernel, by decide +kernel⟩
abbrev F_law_right (K : PySem.W.Frag) (fd : FuncData) : Prop := FunD K "_law_right" "_law_right" (defArgs s_law_right) (defBody s_law_right) (defScope s_law_right) [] [] (He.fAd K ("_law_right", none)) fd
abbrev s_law : Stmt := topS 33
abbrev P_law : List Str := ["script"]
abbrev N_law : List Str := ["script", "k", "source"]
def dd_law : He.DefD := ⟨("law", none), "law", "law", defArgs s_law, defBody s_law, defScope s_law, [], []⟩
theorem sc_law : FnScope N_law P_law (defScope s_law) := ⟨rfl, rfl, rfl, by decide +kernel, rfl, by decide +kernel, by decide +kernel⟩
abbrev F_law (K : PySem.W.Frag) (fd : FuncData) : Prop := FunD K "law" "law" (defArgs s_law) (defBody s_law) (defScope s_law) [] [] (He.fAd K ("law", none)) fd
abbrev s_InvalidSettings___init__ : Stmt := inClass (topS 3) 0
abbrev P_InvalidSettings___init__ : List Str := ["self", "part"]
abbrev N_InvalidSettings___init__ : List Str := ["self", "part"]
def dd_InvalidSettings___init__ : He.DefD := ⟨("InvalidSettings", some "__init__"), "__init__", "InvalidSettings.__init__", defArgs s_InvalidSettings___init__, defBody s_InvalidSettings___init__, defScope s_InvalidSettings___init__, [], []⟩
theorem sc_InvalidSettings___init__ : FnScope N_InvalidSettings___init__ P_InvalidSettings___init__ (defScope s_InvalidSettings___init__) := ⟨rfl, rfl, rfl, by decide +kernel, rfl, by decide +kernel, by decide +kernel⟩
abbrev F_InvalidSettings___init__ (K : PySem.W.Frag) (fd : FuncData) : Prop := FunD K "__init__" "InvalidSettings.__init__" (defArgs s_InvalidSettings___init__) (defBody s_InvalidSettings___init__) (defScope s_InvalidSettings___init__) [] [] (He.fAd K ("InvalidSettings", some "__init__")) fd
abbrev s_InvalidRow___init__ : Stmt := inClass (topS 4) 0
abbrev P_InvalidRow___init__ : List Str := ["self", "row"]
abbrev N_InvalidRow___init__ : List Str := ["self", "row"]
def dd_InvalidRow___init__ : He.DefD := ⟨("InvalidRow", some "__init__"), "__init__", "InvalidRow.__init__", defArgs s_InvalidRow___init__, defBody s_InvalidRow___init__, defScope s_InvalidRow___init__, [], []⟩
theorem sc_InvalidRow___init__ : FnScope N_InvalidRow___init__ P_InvalidRow___init__ (defScope s_InvalidRow___init__) := ⟨rfl, rfl, rfl, by decide +kernel, rfl, by decide +kernel, by decide +kernel⟩
abbrev F_InvalidRow___init__ (K : PySem.W.Frag) (fd : FuncData) : Prop := FunD K "__init__" "InvalidRow.__init__" (defArgs s_InvalidRow___init__) (defBody s_InvalidRow___init__) (defScope s_InvalidRow___init__) [] [] (He.fAd K ("InvalidRow", some "__init__")) fd
abbrev s_InvalidPage___init__ : Stmt := inClass (topS 5) 0
abbrev P_InvalidPage___init__ : List Str := ["self", "page"]
abbrev N_InvalidPage___init__ : List Str := ["self", "page"]
def dd_InvalidPage___init__ : He.DefD := ⟨("InvalidPage", some "__init__"), "__init__", "InvalidPage.__init__", defArgs s_InvalidPage___init__, defBody s_InvalidPage___init__, defScope s_InvalidPage___init__, [], []⟩
theorem sc_InvalidPage___init__ : FnScope N_InvalidPage___init__ P_InvalidPage___init__ (defScope s_InvalidPage___init__) := ⟨rfl, rfl, rfl, by decide +kernel, rfl, by decide +kernel, by decide +kernel⟩
abbrev F_InvalidPage___init__ (K : PySem.W.Frag) (fd : FuncData) : Prop := FunD K "__init__" "InvalidPage.__init__" (defArgs s_InvalidPage___init__) (defBody s_InvalidPage___init__) (defScope s_InvalidPage___init__) [] [] (He.fAd K ("InvalidPage", some "__init__")) fd
abbrev s_InvalidNumber___init__ : Stmt := inClass (topS 6) 0
abbrev P_InvalidNumber___init__ : List Str := ["self", "number"]
abbrev N_InvalidNumber___init__ : List Str := ["self", "number"]
def dd_InvalidNumber___init__ : He.DefD := ⟨("InvalidNumber", some "__init__"), "__init__", "InvalidNumber.__init__", defArgs s_InvalidNumber___init__, defBody s_InvalidNumber___init__, defScope s_InvalidNumber___init__, [], []⟩
theorem sc_InvalidNumber___init__ : FnScope N_InvalidNumber___init__ P_InvalidNumber___init__ (defScope s_InvalidNumber___init__) := ⟨rfl, rfl, rfl, by decide +kernel, rfl, by decide +kernel, by decide +kernel⟩
abbrev F_InvalidNumber___init__ (K : PySem.W.Frag) (fd : FuncData) : Prop := FunD K "__init__" "InvalidNumber.__init__" (defArgs s_InvalidNumber___init__) (defBody s_InvalidNumber___init__) (defScope s_InvalidNumber___init__) [] [] (He.fAd K ("InvalidNumber", some "__init__")) fd
theorem lk_Settings_1_0 {v0 : V} : List.lookup ("lengths" : Str) [(("lengths" : Str), v0)] = some v0 := by kernel_rfl
theorem lk_Settings_2_0 {v0 v1 : V} : List.lookup ("lengths" : Str) [(("lengths" : Str), v0), (("size" : Str), v1)] = some v0 := by kernel_rfl
theorem lk_Settings_2_1 {v0 v1 : V} : List.lookup ("size" : Str) [(("lengths" : Str), v0), (("size" : Str), v1)] = some v1 := by kernel_rfl
theorem lk_Settings_3_0 {v0 v1 v2 : V} : List.lookup ("lengths" : Str) [(("lengths" : Str), v0), (("size" : Str), v1), (("fanout" : Str), v2)] = some v0 := by kernel_rfl
theorem lk_Settings_3_1 {v0 v1 v2 : V} : List.lookup ("size" : Str) [(("lengths" : Str), v0), (("size" : Str), v1), (("fanout" : Str), v2)] = some v1 := by kernel_rfl
theorem lk_Settings_3_2 {v0 v1 v2 : V} : List.lookup ("fanout" : Str) [(("lengths" : Str), v0), (("size" : Str), v1), (("fanout" : Str), v2)] = some v2 := by kernel_rfl
theorem lk_Settings_4_0 {v0 v1 v2 v3 : V} : List.lookup ("lengths" : Str) [(("lengths" : Str), v0), (("size" : Str), v1), (("fanout" : Str), v2), (("records" : Str), v3)] = some v0 := by kernel_rfl
theorem lk_Settings_4_1 {v0 v1 v2 v3 : V} : List.lookup ("size" : Str) [(("lengths" : Str), v0), (("size" : Str), v1), (("fanout" : Str), v2), (("records" : Str), v3)] = some v1 := by kernel_rfl
theorem lk_Settings_4_2 {v0 v1 v2 v3 : V} : List.lookup ("fanout" : Str) [(("lengths" : Str), v0), (("size" : Str), v1), (("fanout" : Str), v2), (("records" : Str), v3)] = some v2 := by kernel_rfl
theorem lk_Settings_4_3 {v0 v1 v2 v3 : V} : List.lookup ("records" : Str) [(("lengths" : Str), v0), (("size" : Str), v1), (("fanout" : Str), v2), (("records" : Str), v3)] = some v3 := by kernel_rfl
theorem lk_Settings_5_0 {v0 v1 v2 v3 v4 : V} : List.lookup ("lengths" : Str) [(("lengths" : Str), v0), (("size" : Str), v1), (("fanout" : Str), v2), (("records" : Str), v3), (("every" : Str), v4)] = some v0 := by kernel_rfl
theorem lk_Settings_5_1 {v0 v1 v2 v3 v4 : V} : List.lookup ("size" : Str) [(("lengths" : Str), v0), (("size" : Str), v1), (("fanout" : Str), v2), (("records" : Str), v3), (("every" : Str), v4)] = some v1 := by kernel_rfl
theorem lk_Settings_5_2 {v0 v1 v2 v3 v4 : V} : List.lookup ("fanout" : Str) [(("lengths" : Str), v0), (("size" : Str), v1), (("fanout" : Str), v2), (("records" : Str), v3), (("every" : Str), v4)] = some v2 := by kernel_rfl
theorem lk_Settings_5_3 {v0 v1 v2 v3 v4 : V} : List.lookup ("records" : Str) [(("lengths" : Str), v0), (("size" : Str), v1), (("fanout" : Str), v2), (("records" : Str), v3), (("every" : Str), v4)] = some v3 := by kernel_rfl
theorem lk_Settings_5_4 {v0 v1 v2 v3 v4 : V} : List.lookup ("every" : Str) [(("lengths" : Str), v0), (("size" : Str), v1), (("fanout" : Str), v2), (("records" : Str), v3), (("every" : Str), v4)] = some v4 := by kernel_rfl
theorem lk_Settings_6_0 {v0 v1 v2 v3 v4 v5 : V} : List.lookup ("lengths" : Str) [(("lengths" : Str), v0), (("size" : Str), v1), (("fanout" : Str), v2), (("records" : Str), v3), (("every" : Str), v4), (("keep" : Str), v5)] = some v0 := by kernel_rfl
theorem lk_Settings_6_1 {v0 v1 v2 v3 v4 v5 : V} : List.lookup ("size" : Str) [(("lengths" : Str), v0), (("size" : Str), v1), (("fanout" : Str), v2), (("records" : Str), v3), (("every" : Str), v4), (("keep" : Str), v5)] = some v1 := by kernel_rfl
theorem lk_Settings_6_2 {v0 v1 v2 v3 v4 v5 : V} : List.lookup ("fanout" : Str) [(("lengths" : Str), v0), (("size" : Str), v1), (("fanout" : Str), v2), (("records" : Str), v3), (("every" : Str), v4), (("keep" : Str), v5)] = some v2 := by kernel_rfl
theorem lk_Settings_6_3 {v0 v1 v2 v3 v4 v5 : V} : List.lookup ("records" : Str) [(("lengths" : Str), v0), (("size" : Str), v1), (("fanout" : Str), v2), (("records" : Str), v3), (("every" : Str), v4), (("keep" : Str), v5)] = some v3 := by kernel_rfl
theorem lk_Settings_6_4 {v0 v1 v2 v3 v4 v5 : V} : List.lookup ("every" : Str) [(("lengths" : Str), v0), (("size" : Str), v1), (("fanout" : Str), v2), (("records" : Str), v3), (("every" : Str), v4), (("keep" : Str), v5)] = some v4 := by kernel_rfl
theorem lk_Settings_6_5 {v0 v1 v2 v3 v4 v5 : V} : List.lookup ("keep" : Str) [(("lengths" : Str), v0), (("size" : Str), v1), (("fanout" : Str), v2), (("records" : Str), v3), (("every" : Str), v4), (("keep" : Str), v5)] = some v5 := by kernel_rfl
theorem lk_Packing_1_0 {v0 : V} : List.lookup ("row_lengths" : Str) [(("row_lengths" : Str), v0)] = some v0 := by kernel_rfl
theorem lk_Packing_2_0 {v0 v1 : V} : List.lookup ("row_lengths" : Str) [(("row_lengths" : Str), v0), (("room" : Str), v1)] = some v0 := by kernel_rfl
theorem lk_Packing_2_1 {v0 v1 : V} : List.lookup ("room" : Str) [(("row_lengths" : Str), v0), (("room" : Str), v1)] = some v1 := by kernel_rfl
theorem lk_Packing_3_0 {v0 v1 v2 : V} : List.lookup ("row_lengths" : Str) [(("row_lengths" : Str), v0), (("room" : Str), v1), (("starts" : Str), v2)] = some v0 := by kernel_rfl
theorem lk_Packing_3_1 {v0 v1 v2 : V} : List.lookup ("room" : Str) [(("row_lengths" : Str), v0), (("room" : Str), v1), (("starts" : Str), v2)] = some v1 := by kernel_rfl
theorem lk_Packing_3_2 {v0 v1 v2 : V} : List.lookup ("starts" : Str) [(("row_lengths" : Str), v0), (("room" : Str), v1), (("starts" : Str), v2)] = some v2 := by kernel_rfl
theorem lk_Packing_4_0 {v0 v1 v2 v3 : V} : List.lookup ("row_lengths" : Str) [(("row_lengths" : Str), v0), (("room" : Str), v1), (("starts" : Str), v2), (("first" : Str), v3)] = some v0 := by kernel_rfl
theorem lk_Packing_4_1 {v0 v1 v2 v3 : V} : List.lookup ("room" : Str) [(("row_lengths" : Str), v0), (("room" : Str), v1), (("starts" : Str), v2), (("first" : Str), v3)] = some v1 := by kernel_rfl
theorem lk_Packing_4_2 {v0 v1 v2 v3 : V} : List.lookup ("starts" : Str) [(("row_lengths" : Str), v0), (("room" : Str), v1), (("starts" : Str), v2), (("first" : Str), v3)] = some v2 := by kernel_rfl
theorem lk_Packing_4_3 {v0 v1 v2 v3 : V} : List.lookup ("first" : Str) [(("row_lengths" : Str), v0), (("room" : Str), v1), (("starts" : Str), v2), (("first" : Str), v3)] = some v3 := by kernel_rfl
theorem lk_Packing_5_0 {v0 v1 v2 v3 v4 : V} : List.lookup ("row_lengths" : Str) [(("row_lengths" : Str), v0), (("room" : Str), v1), (("starts" : Str), v2), (("first" : Str), v3), (("pages" : Str), v4)] = some v0 := by kernel_rfl
theorem lk_Packing_5_1 {v0 v1 v2 v3 v4 : V} : List.lookup ("room" : Str) [(("row_lengths" : Str), v0), (("room" : Str), v1), (("starts" : Str), v2), (("first" : Str), v3), (("pages" : Str), v4)] = some v1 := by kernel_rfl
theorem lk_Packing_5_2 {v0 v1 v2 v3 v4 : V} : List.lookup ("starts" : Str) [(("row_lengths" : Str), v0), (("room" : Str), v1), (("starts" : Str), v2), (("first" : Str), v3), (("pages" : Str), v4)] = some v2 := by kernel_rfl
theorem lk_Packing_5_3 {v0 v1 v2 v3 v4 : V} : List.lookup ("first" : Str) [(("row_lengths" : Str), v0), (("room" : Str), v1), (("starts" : Str), v2), (("first" : Str), v3), (("pages" : Str), v4)] = some v3 := by kernel_rfl
theorem lk_Packing_5_4 {v0 v1 v2 v3 v4 : V} : List.lookup ("pages" : Str) [(("row_lengths" : Str), v0), (("room" : Str), v1), (("starts" : Str), v2), (("first" : Str), v3), (("pages" : Str), v4)] = some v4 := by kernel_rfl
theorem lk_Packing_6_0 {v0 v1 v2 v3 v4 v5 : V} : List.lookup ("row_lengths" : Str) [(("row_lengths" : Str), v0), (("room" : Str), v1), (("starts" : Str), v2), (("first" : Str), v3), (("pages" : Str), v4), (("rows" : Str), v5)] = some v0 := by kernel_rfl
theorem lk_Packing_6_1 {v0 v1 v2 v3 v4 v5 : V} : List.lookup ("room" : Str) [(("row_lengths" : Str), v0), (("room" : Str), v1), (("starts" : Str), v2), (("first" : Str), v3), (("pages" : Str), v4), (("rows" : Str), v5)] = some v1 := by kernel_rfl
theorem lk_Packing_6_2 {v0 v1 v2 v3 v4 v5 : V} : List.lookup ("starts" : Str) [(("row_lengths" : Str), v0), (("room" : Str), v1), (("starts" : Str), v2), (("first" : Str), v3), (("pages" : Str), v4), (("rows" : Str), v5)] = some v2 := by kernel_rfl
theorem lk_Packing_6_3 {v0 v1 v2 v3 v4 v5 : V} : List.lookup ("first" : Str) [(("row_lengths" : Str), v0), (("room" : Str), v1), (("starts" : Str), v2), (("first" : Str), v3), (("pages" : Str), v4), (("rows" : Str), v5)] = some v3 := by kernel_rfl
theorem lk_Packing_6_4 {v0 v1 v2 v3 v4 v5 : V} : List.lookup ("pages" : Str) [(("row_lengths" : Str), v0), (("room" : Str), v1), (("starts" : Str), v2), (("first" : Str), v3), (("pages" : Str), v4), (("rows" : Str), v5)] = some v4 := by kernel_rfl
theorem lk_Packing_6_5 {v0 v1 v2 v3 v4 v5 : V} : List.lookup ("rows" : Str) [(("row_lengths" : Str), v0), (("room" : Str), v1), (("starts" : Str), v2), (("first" : Str), v3), (("pages" : Str), v4), (("rows" : Str), v5)] = some v5 := by kernel_rfl
theorem pf_Settings_0 {v0 : V} : putF ("lengths" : Str) v0 ([] : List (Str × V)) = ([(("lengths" : Str), v0)] : List (Str × V)) := by kernel_rfl
theorem pf_Settings_1 {v0 v1 : V} : putF ("size" : Str) v1 ([(("lengths" : Str), v0)] : List (Str × V)) = ([(("lengths" : Str), v0), (("size" : Str), v1)] : List (Str × V)) := by kernel_rfl
theorem pf_Settings_2 {v0 v1 v2 : V} : putF ("fanout" : Str) v2 ([(("lengths" : Str), v0), (("size" : Str), v1)] : List (Str × V)) = ([(("lengths" : Str), v0), (("size" : Str), v1), (("fanout" : Str), v2)] : List (Str × V)) := by kernel_rfl
theorem pf_Settings_3 {v0 v1 v2 v3 : V} : putF ("records" : Str) v3 ([(("lengths" : Str), v0), (("size" : Str), v1), (("fanout" : Str), v2)] : List (Str × V)) = ([(("lengths" : Str), v0), (("size" : Str), v1), (("fanout" : Str), v2), (("records" : Str), v3)] : List (Str × V)) := by kernel_rfl
theorem pf_Settings_4 {v0 v1 v2 v3 v4 : V} : putF ("every" : Str) v4 ([(("lengths" : Str), v0), (("size" : Str), v1), (("fanout" : Str), v2), (("records" : Str), v3)] : List (Str × V)) = ([(("lengths" : Str), v0), (("size" : Str), v1), (("fanout" : Str), v2), (("records" : Str), v3), (("every" : Str), v4)] : List (Str × V)) := by kernel_rfl
theorem pf_Settings_5 {v0 v1 v2 v3 v4 v5 : V} : putF ("keep" : Str) v5 ([(("lengths" : Str), v0), (("size" : Str), v1), (("fanout" : Str), v2), (("records" : Str), v3), (("every" : Str), v4)] : List (Str × V)) = ([(("lengths" : Str), v0), (("size" : Str), v1), (("fanout" : Str), v2), (("records" : Str), v3), (("every" : Str), v4), (("keep" : Str), v5)] : List (Str × V)) := by kernel_rfl
theorem pf_Packing_0 {v0 : V} : putF ("row_lengths" : Str) v0 ([] : List (Str × V)) = ([(("row_lengths" : Str), v0)] : List (Str × V)) := by kernel_rfl
theorem pf_Packing_1 {v0 v1 : V} : putF ("room" : Str) v1 ([(("row_lengths" : Str), v0)] : List (Str × V)) = ([(("row_lengths" : Str), v0), (("room" : Str), v1)] : List (Str × V)) := by kernel_rfl
theorem pf_Packing_2 {v0 v1 v2 : V} : putF ("starts" : Str) v2 ([(("row_lengths" : Str), v0), (("room" : Str), v1)] : List (Str × V)) = ([(("row_lengths" : Str), v0), (("room" : Str), v1), (("starts" : Str), v2)] : List (Str × V)) := by kernel_rfl
theorem pf_Packing_3 {v0 v1 v2 v3 : V} : putF ("first" : Str) v3 ([(("row_lengths" : Str), v0), (("room" : Str), v1), (("starts" : Str), v2)] : List (Str × V)) = ([(("row_lengths" : Str), v0), (("room" : Str), v1), (("starts" : Str), v2), (("first" : Str), v3)] : List (Str × V)) := by kernel_rfl
theorem pf_Packing_4 {v0 v1 v2 v3 v4 : V} : putF ("pages" : Str) v4 ([(("row_lengths" : Str), v0), (("room" : Str), v1), (("starts" : Str), v2), (("first" : Str), v3)] : List (Str × V)) = ([(("row_lengths" : Str), v0), (("room" : Str), v1), (("starts" : Str), v2), (("first" : Str), v3), (("pages" : Str), v4)] : List (Str × V)) := by kernel_rfl
theorem pf_Packing_5 {v0 v1 v2 v3 v4 v5 : V} : putF ("rows" : Str) v5 ([(("row_lengths" : Str), v0), (("room" : Str), v1), (("starts" : Str), v2), (("first" : Str), v3), (("pages" : Str), v4)] : List (Str × V)) = ([(("row_lengths" : Str), v0), (("room" : Str), v1), (("starts" : Str), v2), (("first" : Str), v3), (("pages" : Str), v4), (("rows" : Str), v5)] : List (Str × V)) := by kernel_rfl
def exl : List (PySem.W.Frag → Bool) := [eqCB "Settings", isCB "Settings", kitB2 "Settings" "int" false, kitB2 "Settings" "bool" false, kitB2 "Settings" "list" false, kitB1 "int" "Settings" false, kitB1 "bool" "Settings" false, kitB1 "str" "Settings" false, kitB1 "list" "Settings" false, kitB1 "tuple" "Settings" false, kitB1 "dict" "Settings" false, kitB1 "NoneType" "Settings" false, kitB3 "Settings" "Settings" true, kitB3 "Packing" "Settings" false, isCB "Packing", kitB2 "Packing" "int" false, kitB2 "Packing" "bool" false, kitB2 "Packing" "list" false, leBB "StoreError", leCB "InvalidSettings", leIB "InvalidSettings", leTB "InvalidSettings", isCB "InvalidSettings", leNB "InvalidSettings" "part", leXB "InvalidSettings" "StoreError" true, kitB3 "InvalidSettings" "InvalidRow" false, kitB3 "InvalidSettings" "InvalidPage" false, kitB3 "InvalidSettings" "InvalidNumber" false, leCB "InvalidRow", leIB "InvalidRow", leTB "InvalidRow", isCB "InvalidRow", leNB "InvalidRow" "row", leXB "InvalidRow" "StoreError" true, kitB3 "InvalidRow" "InvalidRow" true, kitB3 "InvalidRow" "InvalidPage" false, kitB3 "InvalidRow" "InvalidNumber" false, leCB "InvalidPage", leIB "InvalidPage", leTB "InvalidPage", isCB "InvalidPage", leNB "InvalidPage" "page", leXB "InvalidPage" "StoreError" true, kitB3 "InvalidPage" "InvalidRow" false, kitB3 "InvalidPage" "InvalidPage" true, kitB3 "InvalidPage" "InvalidNumber" false, smB]
def exB (K : PySem.W.Frag) : Bool := exl.all fun f => f K
structure Txt0 (K : PySem.W.Frag)  (mg : Str → Option Value) (D : Nat → FuncData) : Prop where
  d_is_integer : F_is_integer K (D 0)
  d_is_between : F_is_between K (D 1)
  d_check_part : F_check_part K (D 2)
  d_Settings___init__ : F_Settings___init__ K (D 3)
  d_Settings___eq__ : F_Settings___eq__ K (D 4)
  d_Settings_parts : F_Settings_parts K (D 5)
  d_check_settings : F_check_settings K (D 6)
  d_check_row : F_check_row K (D 7)
  d_Packing___init__ : F_Packing___init__ K (D 8)
  d_Packing_length : F_Packing_length K (D 9)
  d_Packing_rows_from : F_Packing_rows_from K (D 10)
  d_Packing_start : F_Packing_start K (D 11)
  d_Packing_holder : F_Packing_holder K (D 12)
  d_Packing_check_page : F_Packing_check_page K (D 13)
  d_Packing_units_of : F_Packing_units_of K (D 14)
  d_Packing_first_row : F_Packing_first_row K (D 15)
  d_Packing_page_of : F_Packing_page_of K (D 16)
  d_Packing_rows_on : F_Packing_rows_on K (D 17)
  d_Packing_units_on : F_Packing_units_on K (D 18)
  d_law_mix : F_law_mix K (D 19)
  d_law_source : F_law_source K (D 20)
  d_law_draw : F_law_draw K (D 21)
  d_law_pick : F_law_pick K (D 22)
  d_law_parts : F_law_parts K (D 23)
  d_law_settings : F_law_settings K (D 24)
  d_law_said : F_law_said K (D 25)
  d_law_pages_said : F_law_pages_said K (D 26)
  d_law_right : F_law_right K (D 27)
  d_law : F_law K (D 28)
  d_InvalidSettings___init__ : F_InvalidSettings___init__ K (D 29)
  d_InvalidRow___init__ : F_InvalidRow___init__ K (D 30)
  d_InvalidPage___init__ : F_InvalidPage___init__ K (D 31)
  d_InvalidNumber___init__ : F_InvalidNumber___init__ K (D 32)
  g_is_integer : mg "is_integer" = some (.ref (He.fAd K ("is_integer", none)))
  g_is_between : mg "is_between" = some (.ref (He.fAd K ("is_between", none)))
  g_check_part : mg "check_part" = some (.ref (He.fAd K ("check_part", none)))
  g_check_settings : mg "check_settings" = some (.ref (He.fAd K ("check_settings", none)))
  g_check_row : mg "check_row" = some (.ref (He.fAd K ("check_row", none)))
  g_law_mix : mg "_law_mix" = some (.ref (He.fAd K ("_law_mix", none)))
  g_law_source : mg "_law_source" = some (.ref (He.fAd K ("_law_source", none)))
  g_law_draw : mg "_law_draw" = some (.ref (He.fAd K ("_law_draw", none)))
  g_law_pick : mg "_law_pick" = some (.ref (He.fAd K ("_law_pick", none)))
  g_law_parts : mg "_law_parts" = some (.ref (He.fAd K ("_law_parts", none)))
  g_law_settings : mg "_law_settings" = some (.ref (He.fAd K ("_law_settings", none)))
  g_law_said : mg "_law_said" = some (.ref (He.fAd K ("_law_said", none)))
  g_law_pages_said : mg "_law_pages_said" = some (.ref (He.fAd K ("_law_pages_said", none)))
  g_law_right : mg "_law_right" = some (.ref (He.fAd K ("_law_right", none)))
  g_law : mg "law" = some (.ref (He.fAd K ("law", none)))
  g_Settings : mg "Settings" = some (.ref (He.ga K "Settings"))
  g_Packing : mg "Packing" = some (.ref (He.ga K "Packing"))
  g_StoreError : mg "StoreError" = some (.ref (He.ga K "StoreError"))
  g_InvalidSettings : mg "InvalidSettings" = some (.ref (He.ga K "InvalidSettings"))
  g_InvalidRow : mg "InvalidRow" = some (.ref (He.ga K "InvalidRow"))
  g_InvalidPage : mg "InvalidPage" = some (.ref (He.ga K "InvalidPage"))
  g_InvalidNumber : mg "InvalidNumber" = some (.ref (He.ga K "InvalidNumber"))
  c_Settings : Cls K (He.ga K "Settings")
  mk_Settings : Mk K (He.ga K "Settings") (He.fAd K ("Settings", some "__init__"))
  a_Settings_lengths : NoAttr K (He.ga K "Settings") "lengths"
  a_Settings_size : NoAttr K (He.ga K "Settings") "size"
  a_Settings_fanout : NoAttr K (He.ga K "Settings") "fanout"
  a_Settings_records : NoAttr K (He.ga K "Settings") "records"
  a_Settings_every : NoAttr K (He.ga K "Settings") "every"
  a_Settings_keep : NoAttr K (He.ga K "Settings") "keep"
  m_Settings___eq__ : Meth K (He.ga K "Settings") "__eq__" (He.fAd K ("Settings", some "__eq__"))
  m_Settings_parts : Meth K (He.ga K "Settings") "parts" (He.fAd K ("Settings", some "parts"))
  c_Packing : Cls K (He.ga K "Packing")
  mk_Packing : Mk K (He.ga K "Packing") (He.fAd K ("Packing", some "__init__"))
  a_Packing_row_lengths : NoAttr K (He.ga K "Packing") "row_lengths"
  a_Packing_room : NoAttr K (He.ga K "Packing") "room"
  a_Packing_starts : NoAttr K (He.ga K "Packing") "starts"
  a_Packing_first : NoAttr K (He.ga K "Packing") "first"
  a_Packing_pages : NoAttr K (He.ga K "Packing") "pages"
  a_Packing_rows : NoAttr K (He.ga K "Packing") "rows"
  m_Packing_length : Meth K (He.ga K "Packing") "length" (He.fAd K ("Packing", some "length"))
  m_Packing_rows_from : Meth K (He.ga K "Packing") "rows_from" (He.fAd K ("Packing", some "rows_from"))
  m_Packing_start : Meth K (He.ga K "Packing") "start" (He.fAd K ("Packing", some "start"))
  m_Packing_holder : Meth K (He.ga K "Packing") "holder" (He.fAd K ("Packing", some "holder"))
  m_Packing_check_page : Meth K (He.ga K "Packing") "check_page" (He.fAd K ("Packing", some "check_page"))
  m_Packing_units_of : Meth K (He.ga K "Packing") "units_of" (He.fAd K ("Packing", some "units_of"))
  m_Packing_first_row : Meth K (He.ga K "Packing") "first_row" (He.fAd K ("Packing", some "first_row"))
  m_Packing_page_of : Meth K (He.ga K "Packing") "page_of" (He.fAd K ("Packing", some "page_of"))
  m_Packing_rows_on : Meth K (He.ga K "Packing") "rows_on" (He.fAd K ("Packing", some "rows_on"))
  m_Packing_units_on : Meth K (He.ga K "Packing") "units_on" (He.fAd K ("Packing", some "units_on"))
  n_int : mg "int" = none
  n_len : mg "len" = none
  n_range : mg "range" = none
  n_isinstance : mg "isinstance" = none
  n_list : mg "list" = none
  n_tuple : mg "tuple" = none
  n_bool : mg "bool" = none
  n_max : mg "max" = none
  n_min : mg "min" = none
  n_sum : mg "sum" = none
  n_divmod : mg "divmod" = none
  n_repr : mg "repr" = none
  i_MOST_ROW : ∃ t, mg "MOST_ROW" = some (.int (1000000000000000000000000000000) t)
  i_MOST_LENGTHS : ∃ t, mg "MOST_LENGTHS" = some (.int (6) t)
  i_MOST_SIZE : ∃ t, mg "MOST_SIZE" = some (.int (64) t)
  i_MOST_FANOUT : ∃ t, mg "MOST_FANOUT" = some (.int (8) t)
  i_MOST_RECORDS : ∃ t, mg "MOST_RECORDS" = some (.int (16) t)
  i_MOST_EVERY : ∃ t, mg "MOST_EVERY" = some (.int (40) t)
  i_MOST_KEEP : ∃ t, mg "MOST_KEEP" = some (.int (100) t)
  eq_Settings : EqC K (He.ga K "Settings")
  ic_Settings : IsC K (He.ga K "Settings")
  kc_Settings_int : PySem.W.kitOne K (.ref (He.ga K "Settings")) (.type "int") = some false
  kc_Settings_bool : PySem.W.kitOne K (.ref (He.ga K "Settings")) (.type "bool") = some false
  kc_Settings_list : PySem.W.kitOne K (.ref (He.ga K "Settings")) (.type "list") = some false
  kb_int_Settings : PySem.W.kitOne K (.type "int") (.ref (He.ga K "Settings")) = some false
  kb_bool_Settings : PySem.W.kitOne K (.type "bool") (.ref (He.ga K "Settings")) = some false
  kb_str_Settings : PySem.W.kitOne K (.type "str") (.ref (He.ga K "Settings")) = some false
  kb_list_Settings : PySem.W.kitOne K (.type "list") (.ref (He.ga K "Settings")) = some false
  kb_tuple_Settings : PySem.W.kitOne K (.type "tuple") (.ref (He.ga K "Settings")) = some false
  kb_dict_Settings : PySem.W.kitOne K (.type "dict") (.ref (He.ga K "Settings")) = some false
  kb_NoneType_Settings : PySem.W.kitOne K (.type "NoneType") (.ref (He.ga K "Settings")) = some false
  kk_Settings_Settings : PySem.W.kitOne K (.ref (He.ga K "Settings")) (.ref (He.ga K "Settings")) = some true
  kk_Packing_Settings : PySem.W.kitOne K (.ref (He.ga K "Packing")) (.ref (He.ga K "Settings")) = some false
  ic_Packing : IsC K (He.ga K "Packing")
  kc_Packing_int : PySem.W.kitOne K (.ref (He.ga K "Packing")) (.type "int") = some false
  kc_Packing_bool : PySem.W.kitOne K (.ref (He.ga K "Packing")) (.type "bool") = some false
  kc_Packing_list : PySem.W.kitOne K (.ref (He.ga K "Packing")) (.type "list") = some false
  lb_StoreError : LeB K (He.ga K "StoreError")
  le_InvalidSettings : LeC K (He.ga K "InvalidSettings")
  li_InvalidSettings : PySem.W.findIn K (.ref (He.ga K "InvalidSettings")) "__init__" = some (some (.ref (He.fAd K ("InvalidSettings", some "__init__"))))
  lt_InvalidSettings : PySem.W.typeIn K (.ref (He.fAd K ("InvalidSettings", some "__init__"))) = some (.type "function")
  ic_InvalidSettings : IsC K (He.ga K "InvalidSettings")
  ln_InvalidSettings_part : PySem.W.findIn K (.ref (He.ga K "InvalidSettings")) "part" = some none
  xm_InvalidSettings_StoreError : PySem.W.exmOne K (.ref (He.ga K "InvalidSettings")) (.ref (He.ga K "StoreError")) = some true
  kk_InvalidSettings_InvalidRow : PySem.W.kitOne K (.ref (He.ga K "InvalidSettings")) (.ref (He.ga K "InvalidRow")) = some false
  kk_InvalidSettings_InvalidPage : PySem.W.kitOne K (.ref (He.ga K "InvalidSettings")) (.ref (He.ga K "InvalidPage")) = some false
  kk_InvalidSettings_InvalidNumber : PySem.W.kitOne K (.ref (He.ga K "InvalidSettings")) (.ref (He.ga K "InvalidNumber")) = some false
  le_InvalidRow : LeC K (He.ga K "InvalidRow")
  li_InvalidRow : PySem.W.findIn K (.ref (He.ga K "InvalidRow")) "__init__" = some (some (.ref (He.fAd K ("InvalidRow", some "__init__"))))
  lt_InvalidRow : PySem.W.typeIn K (.ref (He.fAd K ("InvalidRow", some "__init__"))) = some (.type "function")
  ic_InvalidRow : IsC K (He.ga K "InvalidRow")
  ln_InvalidRow_row : PySem.W.findIn K (.ref (He.ga K "InvalidRow")) "row" = some none
  xm_InvalidRow_StoreError : PySem.W.exmOne K (.ref (He.ga K "InvalidRow")) (.ref (He.ga K "StoreError")) = some true
  kk_InvalidRow_InvalidRow : PySem.W.kitOne K (.ref (He.ga K "InvalidRow")) (.ref (He.ga K "InvalidRow")) = some true
  kk_InvalidRow_InvalidPage : PySem.W.kitOne K (.ref (He.ga K "InvalidRow")) (.ref (He.ga K "InvalidPage")) = some false
  kk_InvalidRow_InvalidNumber : PySem.W.kitOne K (.ref (He.ga K "InvalidRow")) (.ref (He.ga K "InvalidNumber")) = some false
  le_InvalidPage : LeC K (He.ga K "InvalidPage")
  li_InvalidPage : PySem.W.findIn K (.ref (He.ga K "InvalidPage")) "__init__" = some (some (.ref (He.fAd K ("InvalidPage", some "__init__"))))
  lt_InvalidPage : PySem.W.typeIn K (.ref (He.fAd K ("InvalidPage", some "__init__"))) = some (.type "function")
  ic_InvalidPage : IsC K (He.ga K "InvalidPage")
  ln_InvalidPage_page : PySem.W.findIn K (.ref (He.ga K "InvalidPage")) "page" = some none
  xm_InvalidPage_StoreError : PySem.W.exmOne K (.ref (He.ga K "InvalidPage")) (.ref (He.ga K "StoreError")) = some true
  kk_InvalidPage_InvalidRow : PySem.W.kitOne K (.ref (He.ga K "InvalidPage")) (.ref (He.ga K "InvalidRow")) = some false
  kk_InvalidPage_InvalidPage : PySem.W.kitOne K (.ref (He.ga K "InvalidPage")) (.ref (He.ga K "InvalidPage")) = some true
  kk_InvalidPage_InvalidNumber : PySem.W.kitOne K (.ref (He.ga K "InvalidPage")) (.ref (He.ga K "InvalidNumber")) = some false
  sm : Sm K
def fnl : List He.DefD := [dd_is_integer, dd_is_between, dd_check_part, dd_Settings___init__, dd_Settings___eq__, dd_Settings_parts, dd_check_settings, dd_check_row, dd_Packing___init__, dd_Packing_length, dd_Packing_rows_from, dd_Packing_start, dd_Packing_holder, dd_Packing_check_page, dd_Packing_units_of, dd_Packing_first_row, dd_Packing_page_of, dd_Packing_rows_on, dd_Packing_units_on, dd_law_mix, dd_law_source, dd_law_draw, dd_law_pick, dd_law_parts, dd_law_settings, dd_law_said, dd_law_pages_said, dd_law_right, dd_law, dd_InvalidSettings___init__, dd_InvalidRow___init__, dd_InvalidPage___init__, dd_InvalidNumber___init__]
def fal : List He.Fa := [.glo "is_integer", .glo "is_between", .glo "check_part", .glo "check_settings", .glo "check_row", .glo "_law_mix", .glo "_law_source", .glo "_law_draw", .glo "_law_pick", .glo "_law_parts", .glo "_law_settings", .glo "_law_said", .glo "_law_pages_said", .glo "_law_right", .glo "law", .glo "Settings", .glo "Packing", .glo "StoreError", .glo "InvalidSettings", .glo "InvalidRow", .glo "InvalidPage", .glo "InvalidNumber", .cls "Settings", .mkr "Settings", .noat "Settings" "lengths", .noat "Settings" "size", .noat "Settings" "fanout", .noat "Settings" "records", .noat "Settings" "every", .noat "Settings" "keep", .meth "Settings" "__eq__", .meth "Settings" "parts", .cls "Packing", .mkr "Packing", .noat "Packing" "row_lengths", .noat "Packing" "room", .noat "Packing" "starts", .noat "Packing" "first", .noat "Packing" "pages", .noat "Packing" "rows", .meth "Packing" "length", .meth "Packing" "rows_from", .meth "Packing" "start", .meth "Packing" "holder", .meth "Packing" "check_page", .meth "Packing" "units_of", .meth "Packing" "first_row", .meth "Packing" "page_of", .meth "Packing" "rows_on", .meth "Packing" "units_on", .free "int", .free "len", .free "range", .free "isinstance", .free "list", .free "tuple", .free "bool", .free "max", .free "min", .free "sum", .free "divmod", .free "repr", .int "MOST_ROW" (1000000000000000000000000000000), .int "MOST_LENGTHS" (6), .int "MOST_SIZE" (64), .int "MOST_FANOUT" (8), .int "MOST_RECORDS" (16), .int "MOST_EVERY" (40), .int "MOST_KEEP" (100)]
def D_is_integer : Nat := 0
def D_is_between : Nat := 1
def D_check_part : Nat := 2
def D_Settings___init__ : Nat := 3
def D_Settings___eq__ : Nat := 4
def D_Settings_parts : Nat := 5
def D_check_settings : Nat := 6
def D_check_row : Nat := 7
def D_Packing___init__ : Nat := 8
def D_Packing_length : Nat := 9
def D_Packing_rows_from : Nat := 10
def D_Packing_start : Nat := 11
def D_Packing_holder : Nat := 12
def D_Packing_check_page : Nat := 13
def D_Packing_units_of : Nat := 14
def D_Packing_first_row : Nat := 15
def D_Packing_page_of : Nat := 16
def D_Packing_rows_on : Nat := 17
def D_Packing_units_on : Nat := 18
def D_law_mix : Nat := 19
def D_law_source : Nat := 20
def D_law_draw : Nat := 21
def D_law_pick : Nat := 22
def D_law_parts : Nat := 23
def D_law_settings : Nat := 24
def D_law_said : Nat := 25
def D_law_pages_said : Nat := 26
def D_law_right : Nat := 27
def D_law : Nat := 28
def D_InvalidSettings___init__ : Nat := 29
def D_InvalidRow___init__ : Nat := 30
def D_InvalidPage___init__ : Nat := 31
def D_InvalidNumber___init__ : Nat := 32
theorem txt_of {K : PySem.W.Frag} {h : Heap} {mg : Str → Option Value} (X : K.In h) (G : h.Ns mainGlobals mg) (c : He.SaysD fal fnl K) (cx : exB K = true) : ∃ D, Txt0 K mg D := by
  have hx : ∀ f ∈ exl, f K = true := List.all_eq_true.mp cx
  have hd : ∀ i : Nat, ∃ fd : FuncData, ∀ d : He.DefD, fnl[i]? = some d → FunD K d.name d.qual d.params d.body d.scope (d.dvs K) (d.kws K) (He.fAd K d.at_) fd := fun i => by
    cases e : fnl[i]? with
    | none => exact ⟨PySem.W.fnOf "" "" (defArgs (topS 0)) [] (defScope (topS 0)) .none .none .none .none none .none .none, fun d h => nomatch h⟩
    | some d =>
      obtain ⟨fd, h⟩ := c.def_ i e
      exact ⟨fd, fun d2 h2 => by cases h2; exact h⟩
  have key := Classical.axiomOfChoice hd
  obtain ⟨D, hD⟩ := key
  refine ⟨D, ?_⟩
  constructor
  · exact hD 0 dd_is_integer rfl
  · exact hD 1 dd_is_between rfl
  · exact hD 2 dd_check_part rfl
  · exact hD 3 dd_Settings___init__ rfl
  · exact hD 4 dd_Settings___eq__ rfl
  · exact hD 5 dd_Settings_parts rfl
  · exact hD 6 dd_check_settings rfl
  · exact hD 7 dd_check_row rfl
  · exact hD 8 dd_Packing___init__ rfl
  · exact hD 9 dd_Packing_length rfl
  · exact hD 10 dd_Packing_rows_from rfl
  · exact hD 11 dd_Packing_start rfl
  · exact hD 12 dd_Packing_holder rfl
  · exact hD 13 dd_Packing_check_page rfl
  · exact hD 14 dd_Packing_units_of rfl
  · exact hD 15 dd_Packing_first_row rfl
  · exact hD 16 dd_Packing_page_of rfl
  · exact hD 17 dd_Packing_rows_on rfl
  · exact hD 18 dd_Packing_units_on rfl
  · exact hD 19 dd_law_mix rfl
  · exact hD 20 dd_law_source rfl
  · exact hD 21 dd_law_draw rfl
  · exact hD 22 dd_law_pick rfl
  · exact hD 23 dd_law_parts rfl
  · exact hD 24 dd_law_settings rfl
  · exact hD 25 dd_law_said rfl
  · exact hD 26 dd_law_pages_said rfl
  · exact hD 27 dd_law_right rfl
  · exact hD 28 dd_law rfl
  · exact hD 29 dd_InvalidSettings___init__ rfl
  · exact hD 30 dd_InvalidRow___init__ rfl
  · exact hD 31 dd_InvalidPage___init__ rfl
  · exact hD 32 dd_InvalidNumber___init__ rfl
  · exact He.glo_ok X G (c.fact 0 (f := .glo "is_integer") rfl)
  · exact He.glo_ok X G (c.fact 1 (f := .glo "is_between") rfl)
  · exact He.glo_ok X G (c.fact 2 (f := .glo "check_part") rfl)
  · exact He.glo_ok X G (c.fact 3 (f := .glo "check_settings") rfl)
  · exact He.glo_ok X G (c.fact 4 (f := .glo "check_row") rfl)
  · exact He.glo_ok X G (c.fact 5 (f := .glo "_law_mix") rfl)
  · exact He.glo_ok X G (c.fact 6 (f := .glo "_law_source") rfl)
  · exact He.glo_ok X G (c.fact 7 (f := .glo "_law_draw") rfl)
  · exact He.glo_ok X G (c.fact 8 (f := .glo "_law_pick") rfl)
  · exact He.glo_ok X G (c.fact 9 (f := .glo "_law_parts") rfl)
  · exact He.glo_ok X G (c.fact 10 (f := .glo "_law_settings") rfl)
  · exact He.glo_ok X G (c.fact 11 (f := .glo "_law_said") rfl)
  · exact He.glo_ok X G (c.fact 12 (f := .glo "_law_pages_said") rfl)
  · exact He.glo_ok X G (c.fact 13 (f := .glo "_law_right") rfl)
  · exact He.glo_ok X G (c.fact 14 (f := .glo "law") rfl)
  · exact He.glo_ok X G (c.fact 15 (f := .glo "Settings") rfl)
  · exact He.glo_ok X G (c.fact 16 (f := .glo "Packing") rfl)
  · exact He.glo_ok X G (c.fact 17 (f := .glo "StoreError") rfl)
  · exact He.glo_ok X G (c.fact 18 (f := .glo "InvalidSettings") rfl)
  · exact He.glo_ok X G (c.fact 19 (f := .glo "InvalidRow") rfl)
  · exact He.glo_ok X G (c.fact 20 (f := .glo "InvalidPage") rfl)
  · exact He.glo_ok X G (c.fact 21 (f := .glo "InvalidNumber") rfl)
  · exact He.cls_ok (c.fact 22 (f := .cls "Settings") rfl)
  · exact He.mkr_ok (c.fact 23 (f := .mkr "Settings") rfl)
  · exact He.noat_ok (c.fact 24 (f := .noat "Settings" "lengths") rfl)
  · exact He.noat_ok (c.fact 25 (f := .noat "Settings" "size") rfl)
  · exact He.noat_ok (c.fact 26 (f := .noat "Settings" "fanout") rfl)
  · exact He.noat_ok (c.fact 27 (f := .noat "Settings" "records") rfl)
  · exact He.noat_ok (c.fact 28 (f := .noat "Settings" "every") rfl)
  · exact He.noat_ok (c.fact 29 (f := .noat "Settings" "keep") rfl)
  · exact He.meth_ok (c.fact 30 (f := .meth "Settings" "__eq__") rfl)
  · exact He.meth_ok (c.fact 31 (f := .meth "Settings" "parts") rfl)
  · exact He.cls_ok (c.fact 32 (f := .cls "Packing") rfl)
  · exact He.mkr_ok (c.fact 33 (f := .mkr "Packing") rfl)
  · exact He.noat_ok (c.fact 34 (f := .noat "Packing" "row_lengths") rfl)
  · exact He.noat_ok (c.fact 35 (f := .noat "Packing" "room") rfl)
  · exact He.noat_ok (c.fact 36 (f := .noat "Packing" "starts") rfl)
  · exact He.noat_ok (c.fact 37 (f := .noat "Packing" "first") rfl)
  · exact He.noat_ok (c.fact 38 (f := .noat "Packing" "pages") rfl)
  · exact He.noat_ok (c.fact 39 (f := .noat "Packing" "rows") rfl)
  · exact He.meth_ok (c.fact 40 (f := .meth "Packing" "length") rfl)
  · exact He.meth_ok (c.fact 41 (f := .meth "Packing" "rows_from") rfl)
  · exact He.meth_ok (c.fact 42 (f := .meth "Packing" "start") rfl)
  · exact He.meth_ok (c.fact 43 (f := .meth "Packing" "holder") rfl)
  · exact He.meth_ok (c.fact 44 (f := .meth "Packing" "check_page") rfl)
  · exact He.meth_ok (c.fact 45 (f := .meth "Packing" "units_of") rfl)
  · exact He.meth_ok (c.fact 46 (f := .meth "Packing" "first_row") rfl)
  · exact He.meth_ok (c.fact 47 (f := .meth "Packing" "page_of") rfl)
  · exact He.meth_ok (c.fact 48 (f := .meth "Packing" "rows_on") rfl)
  · exact He.meth_ok (c.fact 49 (f := .meth "Packing" "units_on") rfl)
  · exact He.free_ok X G (c.fact 50 (f := .free "int") rfl)
  · exact He.free_ok X G (c.fact 51 (f := .free "len") rfl)
  · exact He.free_ok X G (c.fact 52 (f := .free "range") rfl)
  · exact He.free_ok X G (c.fact 53 (f := .free "isinstance") rfl)
  · exact He.free_ok X G (c.fact 54 (f := .free "list") rfl)
  · exact He.free_ok X G (c.fact 55 (f := .free "tuple") rfl)
  · exact He.free_ok X G (c.fact 56 (f := .free "bool") rfl)
  · exact He.free_ok X G (c.fact 57 (f := .free "max") rfl)
  · exact He.free_ok X G (c.fact 58 (f := .free "min") rfl)
  · exact He.free_ok X G (c.fact 59 (f := .free "sum") rfl)
  · exact He.free_ok X G (c.fact 60 (f := .free "divmod") rfl)
  · exact He.free_ok X G (c.fact 61 (f := .free "repr") rfl)
  · exact He.int_ok X G (c.fact 62 (f := .int "MOST_ROW" (1000000000000000000000000000000)) rfl)
  · exact He.int_ok X G (c.fact 63 (f := .int "MOST_LENGTHS" (6)) rfl)
  · exact He.int_ok X G (c.fact 64 (f := .int "MOST_SIZE" (64)) rfl)
  · exact He.int_ok X G (c.fact 65 (f := .int "MOST_FANOUT" (8)) rfl)
  · exact He.int_ok X G (c.fact 66 (f := .int "MOST_RECORDS" (16)) rfl)
  · exact He.int_ok X G (c.fact 67 (f := .int "MOST_EVERY" (40)) rfl)
  · exact He.int_ok X G (c.fact 68 (f := .int "MOST_KEEP" (100)) rfl)
  · exact eqCB_ok (hx (eqCB "Settings") (List.mem_of_getElem? (i := 0) rfl))
  · exact isCB_ok (hx (isCB "Settings") (List.mem_of_getElem? (i := 1) rfl))
  · exact of_decide_eq_true (hx (kitB2 "Settings" "int" false) (List.mem_of_getElem? (i := 2) rfl))
  · exact of_decide_eq_true (hx (kitB2 "Settings" "bool" false) (List.mem_of_getElem? (i := 3) rfl))
  · exact of_decide_eq_true (hx (kitB2 "Settings" "list" false) (List.mem_of_getElem? (i := 4) rfl))
  · exact of_decide_eq_true (hx (kitB1 "int" "Settings" false) (List.mem_of_getElem? (i := 5) rfl))
  · exact of_decide_eq_true (hx (kitB1 "bool" "Settings" false) (List.mem_of_getElem? (i := 6) rfl))
  · exact of_decide_eq_true (hx (kitB1 "str" "Settings" false) (List.mem_of_getElem? (i := 7) rfl))
  · exact of_decide_eq_true (hx (kitB1 "list" "Settings" false) (List.mem_of_getElem? (i := 8) rfl))
  · exact of_decide_eq_true (hx (kitB1 "tuple" "Settings" false) (List.mem_of_getElem? (i := 9) rfl))
  · exact of_decide_eq_true (hx (kitB1 "dict" "Settings" false) (List.mem_of_getElem? (i := 10) rfl))
  · exact of_decide_eq_true (hx (kitB1 "NoneType" "Settings" false) (List.mem_of_getElem? (i := 11) rfl))
  · exact of_decide_eq_true (hx (kitB3 "Settings" "Settings" true) (List.mem_of_getElem? (i := 12) rfl))
  · exact of_decide_eq_true (hx (kitB3 "Packing" "Settings" false) (List.mem_of_getElem? (i := 13) rfl))
  · exact isCB_ok (hx (isCB "Packing") (List.mem_of_getElem? (i := 14) rfl))
  · exact of_decide_eq_true (hx (kitB2 "Packing" "int" false) (List.mem_of_getElem? (i := 15) rfl))
  · exact of_decide_eq_true (hx (kitB2 "Packing" "bool" false) (List.mem_of_getElem? (i := 16) rfl))
  · exact of_decide_eq_true (hx (kitB2 "Packing" "list" false) (List.mem_of_getElem? (i := 17) rfl))
  · exact leBB_ok (hx (leBB "StoreError") (List.mem_of_getElem? (i := 18) rfl))
  · exact leCB_ok (hx (leCB "InvalidSettings") (List.mem_of_getElem? (i := 19) rfl))
  · exact of_decide_eq_true (hx (leIB "InvalidSettings") (List.mem_of_getElem? (i := 20) rfl))
  · exact of_decide_eq_true (hx (leTB "InvalidSettings") (List.mem_of_getElem? (i := 21) rfl))
  · exact isCB_ok (hx (isCB "InvalidSettings") (List.mem_of_getElem? (i := 22) rfl))
  · exact of_decide_eq_true (hx (leNB "InvalidSettings" "part") (List.mem_of_getElem? (i := 23) rfl))
  · exact of_decide_eq_true (hx (leXB "InvalidSettings" "StoreError" true) (List.mem_of_getElem? (i := 24) rfl))
  · exact of_decide_eq_true (hx (kitB3 "InvalidSettings" "InvalidRow" false) (List.mem_of_getElem? (i := 25) rfl))
  · exact of_decide_eq_true (hx (kitB3 "InvalidSettings" "InvalidPage" false) (List.mem_of_getElem? (i := 26) rfl))
  · exact of_decide_eq_true (hx (kitB3 "InvalidSettings" "InvalidNumber" false) (List.mem_of_getElem? (i := 27) rfl))
  · exact leCB_ok (hx (leCB "InvalidRow") (List.mem_of_getElem? (i := 28) rfl))
  · exact of_decide_eq_true (hx (leIB "InvalidRow") (List.mem_of_getElem? (i := 29) rfl))
  · exact of_decide_eq_true (hx (leTB "InvalidRow") (List.mem_of_getElem? (i := 30) rfl))
  · exact isCB_ok (hx (isCB "InvalidRow") (List.mem_of_getElem? (i := 31) rfl))
  · exact of_decide_eq_true (hx (leNB "InvalidRow" "row") (List.mem_of_getElem? (i := 32) rfl))
  · exact of_decide_eq_true (hx (leXB "InvalidRow" "StoreError" true) (List.mem_of_getElem? (i := 33) rfl))
  · exact of_decide_eq_true (hx (kitB3 "InvalidRow" "InvalidRow" true) (List.mem_of_getElem? (i := 34) rfl))
  · exact of_decide_eq_true (hx (kitB3 "InvalidRow" "InvalidPage" false) (List.mem_of_getElem? (i := 35) rfl))
  · exact of_decide_eq_true (hx (kitB3 "InvalidRow" "InvalidNumber" false) (List.mem_of_getElem? (i := 36) rfl))
  · exact leCB_ok (hx (leCB "InvalidPage") (List.mem_of_getElem? (i := 37) rfl))
  · exact of_decide_eq_true (hx (leIB "InvalidPage") (List.mem_of_getElem? (i := 38) rfl))
  · exact of_decide_eq_true (hx (leTB "InvalidPage") (List.mem_of_getElem? (i := 39) rfl))
  · exact isCB_ok (hx (isCB "InvalidPage") (List.mem_of_getElem? (i := 40) rfl))
  · exact of_decide_eq_true (hx (leNB "InvalidPage" "page") (List.mem_of_getElem? (i := 41) rfl))
  · exact of_decide_eq_true (hx (leXB "InvalidPage" "StoreError" true) (List.mem_of_getElem? (i := 42) rfl))
  · exact of_decide_eq_true (hx (kitB3 "InvalidPage" "InvalidRow" false) (List.mem_of_getElem? (i := 43) rfl))
  · exact of_decide_eq_true (hx (kitB3 "InvalidPage" "InvalidPage" true) (List.mem_of_getElem? (i := 44) rfl))
  · exact of_decide_eq_true (hx (kitB3 "InvalidPage" "InvalidNumber" false) (List.mem_of_getElem? (i := 45) rfl))
  · exact smB_ok (hx (smB) (List.mem_of_getElem? (i := 46) rfl))
abbrev RowK : PySem.W.OpenRow := PySem.W.OpenLaw.row PySem.Challenge.rw_keeprows_k11_heap_pages_refused
def tfl : List He.Defn := [("_law_pages_said", none)]
structure Txt (K : PySem.W.Frag) (mg : Str → Option Value) (base : Heap) (D : Nat → FuncData) : Prop extends Txt0 K mg D where
  tbs : ∀ p ∈ tfl.map (He.cT K), TabB base mg p.1 p.2
def lamT (K : PySem.W.Frag) : List (Addr × Str) := [((He.cT K ("_law_pages_said", none)).2, ("_law_pages_said" : Str) ++ ".<locals>." ++ "<lambda>")]
theorem tb_law_pages_said {K : PySem.W.Frag} {mg : Str → Option Value} {base : Heap} {D : Nat → FuncData} (T : Txt K mg base D) : TabB base mg (He.cT K ("_law_pages_said", none)).1 (He.cT K ("_law_pages_said", none)).2 := T.tbs _ (List.mem_map_of_mem (List.mem_of_getElem? (i := 0) rfl))
theorem lm_law_pages_said {K : PySem.W.Frag} : ((He.cT K ("_law_pages_said", none)).2, ("_law_pages_said" : Str) ++ ".<locals>." ++ "<lambda>") ∈ lamT K := List.mem_of_getElem? (i := 0) rfl
theorem lu_law_pages_said {K : PySem.W.Frag} {mg : Str → Option Value} {base : Heap} {D : Nat → FuncData} (T : Txt K mg base D) : ∀ p ∈ lamT K, p.1 = (He.cT K ("_law_pages_said", none)).2 → p.2 = ("_law_pages_said" : Str) ++ ".<locals>." ++ "<lambda>" := fun p hp e => by
  unfold lamT at hp
  simp only [List.mem_cons, List.mem_nil_iff, or_false] at hp
  rcases hp with rfl
  · rfl
theorem tabs_start {K : PySem.W.Frag} {H : Hp} (h : ∀ p ∈ tfl.map (He.cT K), H p.2 = some (.tbl #[])) : Tabs (lamT K) H := fun p hp => by
  unfold lamT at hp
  simp only [List.mem_cons, List.mem_nil_iff, or_false] at hp
  rcases hp with rfl
  · exact TabS.nil (h _ (List.mem_map_of_mem (f := He.cT K) (List.mem_of_getElem? (l := tfl) (i := 0) (a := (("_law_pages_said", none) : He.Defn)) rfl)))
abbrev hk : PySem.W.Hook := hookL 6 fal fnl exB tfl
def ob (s : PySem.W.SharedT) : He.AlD := obsL 6 fal fnl exB tfl (HandSHeadRun.getT s)
theorem ob_eq (s : PySem.W.SharedT) : ob s = hk.obs s.abs := obsL_eq (HandSHeadRun.getT_eq s)
def looseN : List Str := ["_wall", "StoreError", "InvalidSettings", "InvalidRow", "InvalidPage", "InvalidNumber", "MOST_ROW", "MOST_LENGTHS", "MOST_SIZE", "MOST_FANOUT", "MOST_RECORDS", "MOST_EVERY", "MOST_KEEP", "is_integer", "is_between", "check_part", "Settings", "check_settings", "check_row", "Packing", "_law_mix", "_law_source", "_law_draw", "_law_pick", "_law_parts", "_law_settings", "_law_said", "_law_pages_said", "_law_right"]
theorem run (w : World) : HandSHeadRun.RunEq RowK (PySem.W.view RowK.prog [33]) hk ob 4000 looseN w := by
  intro os
  kernel_rfl
end KR
local macro_rules | `(tactic| walk_at "cls") => `(tactic| first
  | exact KR.Txt0.c_Settings (KR.Txt.toTxt0 (by assumption))
  | exact KR.Txt0.c_Packing (KR.Txt.toTxt0 (by assumption)))
local macro_rules | `(tactic| walk_at "noat") => `(tactic| first
  | exact KR.Txt0.a_Settings_lengths (KR.Txt.toTxt0 (by assumption))
  | exact KR.Txt0.a_Settings_size (KR.Txt.toTxt0 (by assumption))
  | exact KR.Txt0.a_Settings_fanout (KR.Txt.toTxt0 (by assumption))
  | exact KR.Txt0.a_Settings_records (KR.Txt.toTxt0 (by assumption))
  | exact KR.Txt0.a_Settings_every (KR.Txt.toTxt0 (by assumption))
  | exact KR.Txt0.a_Settings_keep (KR.Txt.toTxt0 (by assumption))
  | exact KR.Txt0.a_Packing_row_lengths (KR.Txt.toTxt0 (by assumption))
  | exact KR.Txt0.a_Packing_room (KR.Txt.toTxt0 (by assumption))
  | exact KR.Txt0.a_Packing_starts (KR.Txt.toTxt0 (by assumption))
  | exact KR.Txt0.a_Packing_first (KR.Txt.toTxt0 (by assumption))
  | exact KR.Txt0.a_Packing_pages (KR.Txt.toTxt0 (by assumption))
  | exact KR.Txt0.a_Packing_rows (KR.Txt.toTxt0 (by assumption)))
local macro_rules | `(tactic| walk_at "lk") => `(tactic| first
  | assumption
  | with_reducible exact KR.lk_Packing_6_5
  | with_reducible exact KR.lk_Packing_6_4
  | with_reducible exact KR.lk_Packing_6_3
  | with_reducible exact KR.lk_Packing_6_2
  | with_reducible exact KR.lk_Packing_6_1
  | with_reducible exact KR.lk_Packing_6_0
  | with_reducible exact KR.lk_Packing_5_4
  | with_reducible exact KR.lk_Packing_5_3
  | with_reducible exact KR.lk_Packing_5_2
  | with_reducible exact KR.lk_Packing_5_1
  | with_reducible exact KR.lk_Packing_5_0
  | with_reducible exact KR.lk_Packing_4_3
  | with_reducible exact KR.lk_Packing_4_2
  | with_reducible exact KR.lk_Packing_4_1
  | with_reducible exact KR.lk_Packing_4_0
  | with_reducible exact KR.lk_Packing_3_2
  | with_reducible exact KR.lk_Packing_3_1
  | with_reducible exact KR.lk_Packing_3_0
  | with_reducible exact KR.lk_Packing_2_1
  | with_reducible exact KR.lk_Packing_2_0
  | with_reducible exact KR.lk_Packing_1_0
  | with_reducible exact KR.lk_Settings_6_5
  | with_reducible exact KR.lk_Settings_6_4
  | with_reducible exact KR.lk_Settings_6_3
  | with_reducible exact KR.lk_Settings_6_2
  | with_reducible exact KR.lk_Settings_6_1
  | with_reducible exact KR.lk_Settings_6_0
  | with_reducible exact KR.lk_Settings_5_4
  | with_reducible exact KR.lk_Settings_5_3
  | with_reducible exact KR.lk_Settings_5_2
  | with_reducible exact KR.lk_Settings_5_1
  | with_reducible exact KR.lk_Settings_5_0
  | with_reducible exact KR.lk_Settings_4_3
  | with_reducible exact KR.lk_Settings_4_2
  | with_reducible exact KR.lk_Settings_4_1
  | with_reducible exact KR.lk_Settings_4_0
  | with_reducible exact KR.lk_Settings_3_2
  | with_reducible exact KR.lk_Settings_3_1
  | with_reducible exact KR.lk_Settings_3_0
  | with_reducible exact KR.lk_Settings_2_1
  | with_reducible exact KR.lk_Settings_2_0
  | with_reducible exact KR.lk_Settings_1_0
  | kernel_rfl)
local macro_rules | `(tactic| walk_at "sd") => `(tactic| first
  | omega
  | decide
  | exact KR.szl (Nat.le_of_ble_eq_true rfl)
  | ((repeat' split) <;> omega)
  | exact ⟨Nat.le_of_ble_eq_true rfl, Nat.le_of_ble_eq_true rfl⟩
  | (refine KR.cdw ?_ ?_ <;> omega)
  | (refine KR.cdv ?_ ?_ <;> omega)
  | (refine KR.cml ?_ ?_ <;> omega)
  | (refine KR.cmr ?_ ?_ <;> omega))
local macro_rules | `(tactic| walk_at "hp") => `(tactic| first
  | assumption
  | exact KR.hp_same (by assumption) (by assumption)
  | exact KR.hp_sb (by assumption) (by assumption) (by assumption))
local macro_rules | `(tactic| walk_at "s1") => `(tactic| first
  | refine ⟨_, rfl, ?_⟩
  | refine L2.iteT ?_
  | refine L2.iteF ?_
  | refine ⟨_, _, rfl, rfl, ?_⟩
  | refine Or.inl ⟨_, rfl, ?_⟩
  | (refine' ⟨_, _, _, _, rfl, rfl, L2.SqL.of ?h1, ?h2, ?_⟩; (case h1 => walk_at "hp"); (case h2 => rfl))
  | (refine' ⟨_, _, _, _, rfl, rfl, L2.SqT.of ?h1, ?h2, ?_⟩; (case h1 => walk_at "hp"); (case h2 => rfl))
  | refine ⟨rfl, ?_⟩
  | refine ⟨_, _, rfl, ?_⟩
  | refine ⟨_, _, _, rfl, ?_⟩
  | (refine' ⟨_, _, rfl, L2.SqT.of ?h1, ?h2, ?_⟩; (case h1 => walk_at "hp"); (case h2 => rfl))
  | (refine' ⟨_, _, rfl, Or.inl (L2.SqL.of ?h1), ?_⟩; (case h1 => walk_at "hp"))
  | (refine' ⟨_, _, rfl, Or.inr (L2.SqT.of ?h1), ?_⟩; (case h1 => walk_at "hp"))
  | (refine' ⟨_, _, _, _, _, rfl, ?h1, ?h2, ?h3, ?h4, ?_⟩; (case h1 => walk_at "hp"); (case h2 => walk_at "cls"); (case h3 => walk_at "noat"); (case h4 => walk_at "lk"))
  | (refine' ⟨_, _, _, _, rfl, ?h1, ?h2, ?h3, ?h4, ?_⟩; (case h1 => walk_at "hp"); (case h2 => walk_at "cls"); (case h3 => walk_at "noat"); (case h4 => exact KR.lt1000 rfl))
  | (refine' ⟨_, _, _, rfl, ?h1, ?h2, ?_⟩; (case h1 => walk_at "hp"); (case h2 => walk_at "lk"))
  | (refine' ⟨⟨_, L2.SqL.of ?h1⟩, ?_⟩; (case h1 => walk_at "hp"))
  | (refine' ⟨⟨_, L2.SqT.of ?h1⟩, ?_⟩; (case h1 => walk_at "hp"))
  | (refine' ⟨_, _, rfl, ?h1, ?_⟩; (case h1 => walk_at "dg"))
  | (refine And.intro ?h1 ?_; (case h1 => walk_at "sd")))
local macro_rules | `(tactic| walk_at "rd") => `(tactic| repeat walk_at "s1")
namespace KR
open PySem PySem.Spec PyProof.Rows L2 LamX
section
variable {P : Program} {w : World} {K : PySem.W.Frag} {mg : Str → Option Value} {base : Heap} {D : Nat → FuncData}
@[irreducible] def sp_law_mix : Sp := fun vs H Q _ => ∃ c l : Int, vs = [.int c, .int l] ∧ ∀ i, 0 ≤ i → i < 2147483563 → Q (.int i) H
theorem use_mix {c l : Int} {H : Hp} {Q : VK} {E : XK} (k : ∀ i, 0 ≤ i → i < 2147483563 → Q (.int i) H) : sp_law_mix [.int c, .int l] H Q E := by unfold sp_law_mix; exact ⟨c, l, rfl, k⟩
theorem b_law_mix {K : PySem.W.Frag} {fd : FuncData} (F : F_law_mix K fd) : Binds K fd P_law_mix [] := FunD.bindsN F fun _ _ _ _ _ _ us hl => match us, hl with | [_, _], _ => rfl
theorem ok_law_mix (T : Txt K mg base D) : FnOk P w K mg base CX0 1 (He.fAd K ("_law_mix", none)) (D D_law_mix) P_law_mix sp_law_mix := by
  refine T.d_law_mix.ok sc_law_mix (fun vs H Q E h => ?_) (fun cdv A outer s H vs Q E hr h => ?_)
  · unfold sp_law_mix at h
    first | (obtain ⟨rfl, _⟩ := h; rfl) | (obtain ⟨_, rfl, _⟩ := h; rfl) | (obtain ⟨_, _, rfl, _⟩ := h; rfl) | (obtain ⟨_, _, _, rfl, _⟩ := h; rfl) | (obtain ⟨_, _, _, _, rfl, _⟩ := h; rfl) | (obtain ⟨_, _, _, _, _, rfl, _⟩ := h; rfl) | (obtain ⟨_, _, _, _, _, _, rfl, _⟩ := h; rfl) | (obtain ⟨_, _, _, _, _, _, _, rfl, _⟩ := h; rfl) | (obtain ⟨_, _, _, _, _, _, _, _, rfl, _⟩ := h; rfl) | (obtain ⟨_, _, _, _, _, _, _, _, _, rfl, _⟩ := h; rfl) | (obtain ⟨_, _, _, _, _, _, _, _, _, _, rfl, _⟩ := h; rfl) | (obtain ⟨_, _, _, _, _, _, _, _, _, _, _, rfl, _⟩ := h; rfl)
  · refine ⟨_, PSs.nox (pss_cons (ps_set (i := 2) sc_law_mix.nd rfl (Or.inl rfl) (pe_op op_add (pe_op op_add (pe_op op_add (pe_op op_mod (pe_callTy call_int1 (by rfl) T.n_int (by decide +kernel) (pa_cons (pv 0) pa_nil)) pe_int) (pe_op op_mul pe_int (pv 1))) (pe_op op_mod (pe_callTy call_int1 (by rfl) T.n_int (by decide +kernel) (pa_cons (pe_op op_fdivW (pv 0) pe_int) pa_nil)) pe_int)) pe_int))
      (pss_cons (ps_set (i := 2) sc_law_mix.nd rfl (Or.inl rfl) (pe_op op_mod (pe_callTy call_int1 (by rfl) T.n_int (by decide +kernel) (pa_cons (pe_op op_mul (pv 2) pe_int) pa_nil)) pe_int))
      (pss_cons (ps_set (i := 2) sc_law_mix.nd rfl (Or.inl rfl) (pe_op op_mod (pe_callTy call_int1 (by rfl) T.n_int (by decide +kernel) (pa_cons (pe_op op_mul (pv 2) (pe_op op_add (pe_op op_add (pe_op op_fdivW (pv 2) pe_int) pe_int) (pv 1))) pa_nil)) pe_int))
      (pss_one (ps_ret (pe_op op_mod (pe_callTy call_int1 (by rfl) T.n_int (by decide +kernel) (pa_cons (pe_op op_mul (pv 2) (pe_op op_add (pe_op op_fdivW (pv 2) pe_int) pe_int)) pa_nil)) pe_int)))))), ?_⟩
    unfold sp_law_mix at h
    obtain ⟨c, l, rfl, k⟩ := h
    walk_at "rd"
    exact k _ (Int.emod_nonneg _ (by decide)) (Int.emod_lt_of_pos _ (by decide))

/-- a source of draws stands at s -/
def Src (H : Hp) (s : Addr) : Prop := ∃ a b c : Int, H s = some (.lst [.int a, .int b, .int c])
@[irreducible] def sp_law_draw : Sp := fun vs H Q _ => ∃ (s : Addr) (n : Int), vs = [.ref s, .int n] ∧ (0 < n ∧ n ≤ 1000000000000000000000) ∧ Src H s ∧ ∀ i H', 0 ≤ i → i < n → SB s H H' → Src H' s → Q (.int i) H'
theorem use_draw {s : Addr} {n : Int} {H : Hp} {Q : VK} {E : XK} (h0 : 0 < n) (h1 : n ≤ 1000000000000000000000) (h : Src H s) (k : ∀ i H', 0 ≤ i → i < n → SB s H H' → Src H' s → Q (.int i) H') : sp_law_draw [.ref s, .int n] H Q E := by unfold sp_law_draw; exact ⟨s, n, rfl, ⟨h0, h1⟩, h, k⟩
theorem b_law_draw {K : PySem.W.Frag} {fd : FuncData} (F : F_law_draw K fd) : Binds K fd P_law_draw [] := FunD.bindsN F fun _ _ _ _ _ _ us hl => match us, hl with | [_, _], _ => rfl
theorem ok_law_draw (T : Txt K mg base D) : FnOk P w K mg base CX0 2 (He.fAd K ("_law_draw", none)) (D D_law_draw) P_law_draw sp_law_draw := by
  refine T.d_law_draw.ok sc_law_draw (fun vs H Q E h => ?_) (fun cdv A outer s H vs Q E hr h => ?_)
  · unfold sp_law_draw at h
    first | (obtain ⟨rfl, _⟩ := h; rfl) | (obtain ⟨_, rfl, _⟩ := h; rfl) | (obtain ⟨_, _, rfl, _⟩ := h; rfl) | (obtain ⟨_, _, _, rfl, _⟩ := h; rfl) | (obtain ⟨_, _, _, _, rfl, _⟩ := h; rfl) | (obtain ⟨_, _, _, _, _, rfl, _⟩ := h; rfl) | (obtain ⟨_, _, _, _, _, _, rfl, _⟩ := h; rfl) | (obtain ⟨_, _, _, _, _, _, _, rfl, _⟩ := h; rfl) | (obtain ⟨_, _, _, _, _, _, _, _, rfl, _⟩ := h; rfl) | (obtain ⟨_, _, _, _, _, _, _, _, _, rfl, _⟩ := h; rfl) | (obtain ⟨_, _, _, _, _, _, _, _, _, _, rfl, _⟩ := h; rfl) | (obtain ⟨_, _, _, _, _, _, _, _, _, _, _, rfl, _⟩ := h; rfl)
  · refine ⟨_, PSs.nox (pss_cons (ps_if (pt_cmpR op_ge (pe_ix (ix_listK (K := K)) (pv 0) pe_int (fun _ _ => rfl)) (pe_powc (c := 1000000000000000000) (by decide)) (nomark _)) (pss_cons (ps_set (i := 2) sc_law_draw.nd rfl (Or.inl rfl) (pe_op op_mod (pe_callTy call_int1 (by rfl) T.n_int (by decide +kernel) (pa_cons (pe_ix (ix_listK (K := K)) (pv 0) pe_int (fun _ _ => rfl)) pa_nil)) (pv 1)))
      (pss_cons (ps_asg (pe_op op_fdivW (pe_ix (ix_listK (K := K)) (pv 0) pe_int (fun _ _ => rfl)) (pv 1)) (pg_sub (pv 0) pe_int set_list))
      (pss_one (ps_ret (pv 2))))) pss_nil)
      (pss_cons (ps_asg (pe_op op_add (pe_ix (ix_listK (K := K)) (pv 0) pe_int (fun _ _ => rfl)) pe_int) (pg_sub (pv 0) pe_int set_list))
      (pss_one (ps_ret (pe_op op_mod (pe_callTy call_int1 (by rfl) T.n_int (by decide +kernel) (pa_cons (pe_call (ok_law_mix T) (hr.mono (by decide)) rfl T.g_law_mix T.d_law_mix.kp (b_law_mix T.d_law_mix) .nil pass0 (pa_cons (pe_ix (ix_listK (K := K)) (pv 0) pe_int (fun _ _ => rfl)) (pa_cons (pe_ix (ix_listK (K := K)) (pv 0) pe_int (fun _ _ => rfl)) pa_nil))) pa_nil)) (pv 1)))))), ?_⟩
    unfold sp_law_draw at h
    obtain ⟨s, n, rfl, ⟨h0, h1⟩, ⟨a, b, c, hs⟩, k⟩ := h
    walk_at "rd"
    refine ite2 (fun _ => ?_) (fun _ => ?_)
    · walk_at "rd"
      refine ⟨_, _, _, 0, rfl, rfl, hs, rfl, ?_⟩
      walk_at "rd"
      exact k _ _ (Int.emod_nonneg _ (by omega)) (Int.emod_lt_of_pos _ h0) SB.upd ⟨_, _, _, upd_same⟩
    · walk_at "rd"
      refine ⟨_, _, _, 2, rfl, rfl, hs, rfl, ?_⟩
      have hs2 := @upd_same H s (.lst [.int a, .int b, .int (c + 1)])
      walk_at "rd"
      refine use_mix fun i i0 i1 => ?_
      walk_at "rd"
      exact k _ _ (Int.emod_nonneg _ (by omega)) (Int.emod_lt_of_pos _ h0) SB.upd ⟨_, _, _, upd_same⟩

@[irreducible] def sp_law_source (K : PySem.W.Frag) : Sp := fun vs H Q _ => ∃ (a : Addr) (ns : List Int) (k : Int), vs = [.ref a, .int k] ∧ SqL K H a (ns.map V.int) ∧ (0 ≤ k ∧ k ≤ 1000 ∧ ns.length ≤ 63) ∧
  ∀ p H', H p = none → Same H H' → Src H' p → Q (.ref p) H'
theorem use_source {K : PySem.W.Frag} {a : Addr} {ns : List Int} {n : Int} {H : Hp} {Q : VK} {E : XK} (h : SqL K H a (ns.map V.int)) (h1 : 0 ≤ n ∧ n ≤ 1000 ∧ ns.length ≤ 63) (k : ∀ p H', H p = none → Same H H' → Src H' p → Q (.ref p) H') :
  sp_law_source K [.ref a, .int n] H Q E := by unfold sp_law_source; exact ⟨a, ns, n, rfl, h, h1, k⟩
theorem b_law_source {K : PySem.W.Frag} {fd : FuncData} (F : F_law_source K fd) : Binds K fd P_law_source [] := FunD.bindsN F fun _ _ _ _ _ _ us hl => match us, hl with | [_, _], _ => rfl
theorem ok_law_source (T : Txt K mg base D) : FnOk P w K mg base CX0 1 (He.fAd K ("_law_source", none)) (D D_law_source) P_law_source (sp_law_source K) := by
  refine T.d_law_source.ok sc_law_source (fun vs H Q E h => ?_) (fun cdv A outer s H vs Q E hr h => ?_)
  · unfold sp_law_source at h
    first | (obtain ⟨rfl, _⟩ := h; rfl) | (obtain ⟨_, rfl, _⟩ := h; rfl) | (obtain ⟨_, _, rfl, _⟩ := h; rfl) | (obtain ⟨_, _, _, rfl, _⟩ := h; rfl) | (obtain ⟨_, _, _, _, rfl, _⟩ := h; rfl) | (obtain ⟨_, _, _, _, _, rfl, _⟩ := h; rfl) | (obtain ⟨_, _, _, _, _, _, rfl, _⟩ := h; rfl) | (obtain ⟨_, _, _, _, _, _, _, rfl, _⟩ := h; rfl) | (obtain ⟨_, _, _, _, _, _, _, _, rfl, _⟩ := h; rfl) | (obtain ⟨_, _, _, _, _, _, _, _, _, rfl, _⟩ := h; rfl) | (obtain ⟨_, _, _, _, _, _, _, _, _, _, rfl, _⟩ := h; rfl) | (obtain ⟨_, _, _, _, _, _, _, _, _, _, _, rfl, _⟩ := h; rfl)
  · refine ⟨_, PSs.nox (pss_cons (ps_set (i := 2) sc_law_source.nd rfl (Or.inl rfl) (pe_op op_add (pe_ix (ix_listK (K := K)) (pe_op (op_catSK (K := K)) (pv 0) (pe_lst (pa_cons pe_int pa_nil))) pe_int (fun _ _ => rfl)) (pe_op op_mul pe_int (pv 1))))
      (pss_cons (ps_if (pt_cmpR op_lt (pv 1) (pe_callB (call_lenK (K := K)) (by rfl) T.n_len (by decide +kernel) (pa_cons (pv 0) pa_nil)) (nomark _)) (pss_one (ps_set (i := 2) sc_law_source.nd rfl (Or.inl rfl) (pe_ix (ix_listK (K := K)) (pv 0) (pv 1) (fun _ _ => rfl)))) pss_nil)
      (pss_one (ps_ret (pe_lst (pa_cons (pv 2) (pa_cons (pv 2) (pa_cons pe_int pa_nil)))))))), ?_⟩
    unfold sp_law_source at h
    obtain ⟨a, ns, n, rfl, hs, ⟨h0, h1, h2⟩, k⟩ := h
    walk_at "rd"
    intro p1 n1
    generalize eH1 : upd _ p1 _ = H1
    obtain ⟨s1, hp1⟩ := gen_new n1 eH1
    clear eH1
    refine ⟨_, _, _, _, rfl, rfl, s1.seq hs, SqL.of hp1, (by rw [List.length_map]; simp; omega), fun p2 H2 n2 s2 hp2 => ?_⟩
    obtain ⟨c0, hc0⟩ : ∃ c0 : Int, (ns.map V.int ++ [V.int 0])[0]? = some (.int c0) := by
      cases ns with
      | nil => exact ⟨0, rfl⟩
      | cons z r => exact ⟨z, rfl⟩
    refine ⟨_, _, _, _, rfl, rfl, SqL.of hp2, atI_int (j := 0) rfl hc0, ?_⟩
    walk_at "rd"
    refine ⟨_, _, rfl, .inl ((s1.trans s2).seq hs), ?_⟩
    walk_at "rd"
    have fin : ∀ (c : Int) (H3 : Hp), Same H H3 → ∀ p4, H3 p4 = none → Q (.ref p4) (upd H3 p4 (.lst [.int c, .int c, .int 0])) := fun c H3 s3 p4 h4 =>
      k p4 _ (s3.free h4) (s3.trans (same_new h4)) ⟨_, _, _, upd_same⟩
    refine ite2 (fun c => ?_) (fun c => ?_)
    · walk_at "rd"
      have hk : n < (ns.map V.int).length := by simpa using c
      obtain ⟨v, _, hv, hv2⟩ := at_of_lt (xs := ns.map V.int) h0 hk
      obtain ⟨z, _, rfl⟩ := map_some hv2
      refine ⟨_, _, _, _, rfl, rfl, (s1.trans s2).seq hs, hv, ?_⟩
      walk_at "rd"
      exact fin z H2 (s1.trans s2)
    · walk_at "rd"
      exact fin _ H2 (s1.trans s2)

@[irreducible] def sp_law_pick : Sp := fun vs H Q _ => ∃ (s a : Addr) (xs : List V), vs = [.ref s, .ref a] ∧ H a = some (.lst xs) ∧ a ≠ s ∧ (0 < xs.length ∧ xs.length ≤ 1000) ∧ Src H s ∧ ∀ v H', v ∈ xs → SB s H H' → Src H' s → Q v H'
theorem use_pick {s a : Addr} {xs : List V} {H : Hp} {Q : VK} {E : XK} (h : H a = some (.lst xs)) (hn : a ≠ s) (h0 : 0 < xs.length ∧ xs.length ≤ 1000) (hs : Src H s) (k : ∀ v H', v ∈ xs → SB s H H' → Src H' s → Q v H') :
  sp_law_pick [.ref s, .ref a] H Q E := by unfold sp_law_pick; exact ⟨s, a, xs, rfl, h, hn, h0, hs, k⟩
theorem b_law_pick {K : PySem.W.Frag} {fd : FuncData} (F : F_law_pick K fd) : Binds K fd P_law_pick [] := FunD.bindsN F fun _ _ _ _ _ _ us hl => match us, hl with | [_, _], _ => rfl
theorem ok_law_pick (T : Txt K mg base D) : FnOk P w K mg base CX0 3 (He.fAd K ("_law_pick", none)) (D D_law_pick) P_law_pick sp_law_pick := by
  refine T.d_law_pick.ok sc_law_pick (fun vs H Q E h => ?_) (fun cdv A outer s H vs Q E hr h => ?_)
  · unfold sp_law_pick at h
    first | (obtain ⟨rfl, _⟩ := h; rfl) | (obtain ⟨_, rfl, _⟩ := h; rfl) | (obtain ⟨_, _, rfl, _⟩ := h; rfl) | (obtain ⟨_, _, _, rfl, _⟩ := h; rfl) | (obtain ⟨_, _, _, _, rfl, _⟩ := h; rfl) | (obtain ⟨_, _, _, _, _, rfl, _⟩ := h; rfl) | (obtain ⟨_, _, _, _, _, _, rfl, _⟩ := h; rfl) | (obtain ⟨_, _, _, _, _, _, _, rfl, _⟩ := h; rfl) | (obtain ⟨_, _, _, _, _, _, _, _, rfl, _⟩ := h; rfl) | (obtain ⟨_, _, _, _, _, _, _, _, _, rfl, _⟩ := h; rfl) | (obtain ⟨_, _, _, _, _, _, _, _, _, _, rfl, _⟩ := h; rfl) | (obtain ⟨_, _, _, _, _, _, _, _, _, _, _, rfl, _⟩ := h; rfl)
  · refine ⟨_, PSs.nox (pss_one (ps_ret (pe_ix (ix_listK (K := K)) (pv 1) (pe_call (ok_law_draw T) (hr.mono (by decide)) rfl T.g_law_draw T.d_law_draw.kp (b_law_draw T.d_law_draw) .nil pass0 (pa_cons (pv 0) (pa_cons (pe_callB (call_lenK (K := K)) (by rfl) T.n_len (by decide +kernel) (pa_cons (pv 1) pa_nil)) pa_nil))) (fun _ _ => rfl)))), ?_⟩
    unfold sp_law_pick at h
    obtain ⟨s, a, xs, rfl, ha, hn, ⟨h0, h1⟩, hs, k⟩ := h
    walk_at "rd"
    refine use_draw (by omega) (by omega) hs fun i H1 i0 i1 s1 hs1 => ?_
    obtain ⟨v, hv, hv1, _⟩ := at_of_lt (xs := xs) i0 i1
    exact ⟨_, _, _, _, rfl, rfl, SqL.of (s1 _ _ hn ha), hv1, k _ _ hv s1 hs1⟩

/-- drawn settings -/
structure Prt where
  lens : List Int
  size : Int
  fan : Int
  rec_ : Int
  every : Int
  keep : Int
structure Prt.Ok (p : Prt) : Prop where
  l0 : 0 < p.lens.length
  l1 : p.lens.length ≤ 6
  le : ∀ x ∈ p.lens, 1 ≤ x ∧ x ≤ p.size
  s0 : 1 ≤ p.size
  s1 : p.size ≤ 64
  f : 2 ≤ p.fan ∧ p.fan ≤ 8
  r : 1 ≤ p.rec_ ∧ p.rec_ ≤ 16
  e : 1 ≤ p.every ∧ p.every ≤ 40
  k : 1 ≤ p.keep ∧ p.keep ≤ 100
def PrtAt (H : Hp) (a : Addr) (p : Prt) : Prop := ∃ l, H a = some (.lst [.ref l, .int p.size, .int p.fan, .int p.rec_, .int p.every, .int p.keep]) ∧ H l = some (.lst (p.lens.map V.int))
theorem PrtAt.same {H H' : Hp} {a : Addr} {p : Prt} (h : PrtAt H a p) (s : Same H H') : PrtAt H' a p := let ⟨l, h1, h2⟩ := h; ⟨l, s _ _ h1, s _ _ h2⟩
@[irreducible] def sp_law_parts : Sp := fun vs H Q _ => ∃ (s : Addr), vs = [.ref s] ∧ Src H s ∧
  ∀ a H' p, SB s H H' → Src H' s → p.Ok → PrtAt H' a p → (∀ H'', SB s H' H'' → PrtAt H'' a p) → Q (.ref a) H'
theorem use_parts {s : Addr} {H : Hp} {Q : VK} {E : XK} (hs : Src H s) (k : ∀ a H' p, SB s H H' → Src H' s → p.Ok → PrtAt H' a p → (∀ H'', SB s H' H'' → PrtAt H'' a p) → Q (.ref a) H') : sp_law_parts [.ref s] H Q E := by
  unfold sp_law_parts; exact ⟨s, rfl, hs, k⟩
def bnds : List (Int × Int) := [(2, 8), (1, 16), (1, 40), (1, 100)]
theorem b_law_parts {K : PySem.W.Frag} {fd : FuncData} (F : F_law_parts K fd) : Binds K fd P_law_parts [] := FunD.bindsN F fun _ _ _ _ _ _ us hl => match us, hl with | [_], _ => rfl
theorem ok_law_parts (T : Txt K mg base D) : FnOk P w K mg base CX0 4 (He.fAd K ("_law_parts", none)) (D D_law_parts) P_law_parts sp_law_parts := by
  refine T.d_law_parts.ok sc_law_parts (fun vs H Q E h => ?_) (fun cdv A outer s H vs Q E hr h => ?_)
  · unfold sp_law_parts at h
    first | (obtain ⟨rfl, _⟩ := h; rfl) | (obtain ⟨_, rfl, _⟩ := h; rfl) | (obtain ⟨_, _, rfl, _⟩ := h; rfl) | (obtain ⟨_, _, _, rfl, _⟩ := h; rfl) | (obtain ⟨_, _, _, _, rfl, _⟩ := h; rfl) | (obtain ⟨_, _, _, _, _, rfl, _⟩ := h; rfl) | (obtain ⟨_, _, _, _, _, _, rfl, _⟩ := h; rfl) | (obtain ⟨_, _, _, _, _, _, _, rfl, _⟩ := h; rfl) | (obtain ⟨_, _, _, _, _, _, _, _, rfl, _⟩ := h; rfl) | (obtain ⟨_, _, _, _, _, _, _, _, _, rfl, _⟩ := h; rfl) | (obtain ⟨_, _, _, _, _, _, _, _, _, _, rfl, _⟩ := h; rfl) | (obtain ⟨_, _, _, _, _, _, _, _, _, _, _, rfl, _⟩ := h; rfl)
  · refine ⟨_, PSs.nox (pss_cons (ps_set (i := 1) sc_law_parts.nd rfl (Or.inr rfl) (pe_call (ok_law_pick T) (hr.mono (by decide)) rfl T.g_law_pick T.d_law_pick.kp (b_law_pick T.d_law_pick) .nil pass0 (pa_cons (pv 0) (pa_cons (pe_lst (pa_cons (pe_op op_add pe_int (pe_call (ok_law_draw T) (hr.mono (by decide)) rfl T.g_law_draw T.d_law_draw.kp (b_law_draw T.d_law_draw) .nil pass0 (pa_cons (pv 0) (pa_cons pe_int pa_nil)))) (pa_cons (pe_op op_add pe_int (pe_call (ok_law_draw T) (hr.mono (by decide)) rfl T.g_law_draw T.d_law_draw.kp (b_law_draw T.d_law_draw) .nil pass0 (pa_cons (pv 0) (pa_cons pe_int pa_nil)))) (pa_cons pe_int pa_nil)))) pa_nil))))
      (pss_cons (ps_setLc (i := 2) (own := [("k", 6)]) rfl sc_law_parts.nd rfl rfl (sw_true rfl rfl rfl (by decide +kernel)) (pi_range1 (by rfl) T.n_range (pa_cons (pe_op op_add pe_int (pe_call (ok_law_draw T) (hr.mono (by decide)) rfl T.g_law_draw T.d_law_draw.kp (b_law_draw T.d_law_draw) .nil pass0 (pa_cons (pv 0) (pa_cons pe_int pa_nil)))) pa_nil)) (blkOk_by (N := N_law_parts) (sc := defScope s_law_parts) (by decide +kernel)) (fun _ _ _ _ _ => (pg_name (i := 6) sc_law_parts.nd rfl (Or.inl rfl))) (fun _ _ _ _ _ => pts_nil) (fun _ _ _ _ _ => (pe_op op_add pe_int (pe_call (ok_law_draw T) (hr.mono (by decide)) rfl T.g_law_draw T.d_law_draw.kp (b_law_draw T.d_law_draw) .nil pass0 (pa_cons (pv 0) (pa_cons (pv 1) pa_nil))))))
      (pss_cons (ps_set (i := 3) sc_law_parts.nd rfl (Or.inl rfl) (pe_lst (pa_cons (pv 2) (pa_cons (pv 1) pa_nil))))
      (pss_cons (ps_for PassesOwn.never rfl (pi_list (pe_lst (pa_cons (pe_tup (pa_cons pe_int (pa_cons pe_int pa_nil))) (pa_cons (pe_tup (pa_cons pe_int (pa_cons pe_int pa_nil))) (pa_cons (pe_tup (pa_cons pe_int (pa_cons pe_int pa_nil))) (pa_cons (pe_tup (pa_cons pe_int (pa_cons pe_int pa_nil))) pa_nil)))))) (pg_tup rfl (pgs_cons (pg_name (i := 4) sc_law_parts.nd rfl (Or.inl rfl)) (pgs_cons (pg_name (i := 5) sc_law_parts.nd rfl (Or.inl rfl)) pgs_nil))) (pss_one (ps_expr (pe_bm PySem.F.plainAttrs_list PySem.F.slot_list_append PySem.F.type_list_append mt_append (pv 3) (pa_cons (pe_call (ok_law_pick T) (hr.mono (by decide)) rfl T.g_law_pick T.d_law_pick.kp (b_law_pick T.d_law_pick) .nil pass0 (pa_cons (pv 0) (pa_cons (pe_lst (pa_cons (pv 4) (pa_cons (pv 5) (pa_cons (pe_op op_add (pv 4) (pe_call (ok_law_draw T) (hr.mono (by decide)) rfl T.g_law_draw T.d_law_draw.kp (b_law_draw T.d_law_draw) .nil pass0 (pa_cons (pv 0) (pa_cons (pe_op op_add (pe_op op_sub (pv 5) (pv 4)) pe_int) pa_nil)))) pa_nil)))) pa_nil))) pa_nil)))))
      (pss_one (ps_ret (pv 3))))))), ?_⟩
    unfold sp_law_parts at h
    obtain ⟨s, rfl, hs, k⟩ := h
    walk_at "rd"
    refine use_draw (by omega) (by omega) hs fun i1 H1 i1a i1b s1 hs1 => ?_
    walk_at "rd"
    refine use_draw (by omega) (by omega) hs1 fun i2 H2 i2a i2b s2 hs2 => ?_
    walk_at "rd"
    intro p3 n3
    generalize eH3 : upd _ p3 _ = H3
    obtain ⟨s3, hp3⟩ := gen_new n3 eH3
    clear eH3
    obtain ⟨a0, b0, c0, hs20⟩ := id hs2
    have np3 : p3 ≠ s := (ne_of_none hs20 n3).symm
    walk_at "rd"
    refine use_pick hp3 np3 (by walk_at "sd") ⟨_, _, _, s3 _ _ hs20⟩ fun v H4 hv s4 hs4 => ?_
    obtain ⟨room, rfl, r0, r1⟩ : ∃ room : Int, v = .int room ∧ 1 ≤ room ∧ room ≤ 64 := by
      simp only [List.mem_cons, List.mem_nil_iff, or_false] at hv
      rcases hv with rfl | rfl | rfl
      · exact ⟨_, rfl, by omega, by omega⟩
      · exact ⟨_, rfl, by omega, by omega⟩
      · exact ⟨_, rfl, by omega, by omega⟩
    have f4 : SB s H H4 := ((s1.trans s2).trans s3.sb).trans s4
    walk_at "rd"
    refine use_draw (by omega) (by omega) hs4 fun i5 H5 i5a i5b s5 hs5 => ?_
    walk_at "rd"
    intro D5 n5
    obtain ⟨a5, b5, c5, hs50⟩ := id hs5
    have nD : D5 ≠ s := (ne_of_none hs50 n5).symm
    have f5 : SB s H H5 := f4.trans s5
    refine lc_range (lo := 0) (n := (1 + i5).toNat) (fun i H' => ∃ xs : List Int, xs.length = i ∧ (∀ x ∈ xs, 1 ≤ x ∧ x ≤ room) ∧ H' D5 = some (.lst (xs.map V.int)) ∧ SB s H5 H' ∧ Src H' s)
      ⟨[], rfl, by simp, upd_same, SB.refl.mut n5, _, _, _, by rw [upd_ne nD.symm]; exact hs50⟩ ?_ ?_
    · rintro i H' hi ⟨xs, hl, hb, hD, f, hs'⟩
      refine ⟨rfl, ?_⟩
      walk_at "rd"
      refine use_draw (by omega) (by omega) hs' fun j6 H6 i6a i6b s6 hs6 => ?_
      obtain ⟨a6, b6, c6, hs60⟩ := id hs6
      walk_at "rd"
      refine ⟨xs.map V.int, s6 _ _ nD hD, szlt (by rw [List.length_map]; omega), xs ++ [1 + j6], by rw [List.length_append, hl]; rfl, ?_, by rw [upd_same, List.map_append]; rfl, (f.trans s6).mut n5, a6, b6, c6, by rw [upd_ne nD.symm]; exact hs60⟩
      intro x hx
      rcases List.mem_append.mp hx with h | h
      · exact hb x h
      · rw [List.mem_singleton.mp h]
        constructor <;> omega
    · rintro H7 ⟨lens, hl, hb, hD, f7, hs7⟩
      have f70 : SB s H H7 := f5.trans f7
      walk_at "rd"
      intro p8 n8
      generalize eH8 : upd _ p8 _ = H8
      obtain ⟨s8, hp8⟩ := gen_new n8 eH8
      clear eH8
      walk_at "rd"
      intro q1 m1
      generalize eG1 : upd _ q1 _ = G1
      obtain ⟨t1, u1⟩ := gen_new m1 eG1
      clear eG1
      walk_at "rd"
      intro q2 m2
      generalize eG2 : upd _ q2 _ = G2
      obtain ⟨t2, u2⟩ := gen_new m2 eG2
      clear eG2
      walk_at "rd"
      intro q3 m3
      generalize eG3 : upd _ q3 _ = G3
      obtain ⟨t3, u3⟩ := gen_new m3 eG3
      clear eG3
      walk_at "rd"
      intro q4 m4
      generalize eG4 : upd _ q4 _ = G4
      obtain ⟨t4, u4⟩ := gen_new m4 eG4
      clear eG4
      walk_at "rd"
      intro q5 m5
      generalize eG5 : upd _ q5 _ = G5
      obtain ⟨t5, u5⟩ := gen_new m5 eG5
      clear eG5
      have u40 := t5 _ _ u4
      have u30 := (t4.trans t5) _ _ u3
      have u20 := ((t3.trans t4).trans t5) _ _ u2
      have u10 := (((t2.trans t3).trans t4).trans t5) _ _ u1
      have s85 : Same H8 G5 := (((t1.trans t2).trans t3).trans t4).trans t5
      have hp80 := s85 _ _ hp8
      obtain ⟨a7, b7, c7, hs70⟩ := id hs7
      have np8 : p8 ≠ s := (ne_of_none hs70 n8).symm
      have hs5' := (s8.trans s85) _ _ hs70
      have qs : ∀ q o, G5 q = some (HO.tup o) → q ≠ s ∧ q ≠ p8 := fun q o e => ⟨ne_of e hs5' (by intro z; cases z), ne_of e hp80 (by intro z; cases z)⟩
      have q5p : q5 ≠ p8 := (ne_of_none (((((t1.trans t2).trans t3).trans t4)) _ _ hp8) m5).symm
      have q5s : q5 ≠ s := (ne_of_none ((((((s8.trans t1).trans t2).trans t3).trans t4)) _ _ hs70) m5).symm
      have tb : ∀ (i : Nat) (x : V), [V.ref q1, V.ref q2, V.ref q3, V.ref q4][i]? = some x → ∃ (q : Addr) (b : Int × Int), x = .ref q ∧ bnds[i]? = some b ∧ b.1 ≤ b.2 ∧ b.2 ≤ 100 ∧ 0 ≤ b.1 ∧ G5 q = some (.tup [.int b.1, .int b.2]) := by
        intro i x hx
        match i, hx with
        | 0, hx => cases hx; exact ⟨q1, (2, 8), rfl, rfl, by decide, by decide, by decide, u10⟩
        | 1, hx => cases hx; exact ⟨q2, (1, 16), rfl, rfl, by decide, by decide, by decide, u20⟩
        | 2, hx => cases hx; exact ⟨q3, (1, 40), rfl, rfl, by decide, by decide, by decide, u30⟩
        | 3, hx => cases hx; exact ⟨q4, (1, 100), rfl, rfl, by decide, by decide, by decide, u40⟩
        | i + 4, hx => simp at hx
      refine ⟨_, rfl, ⟨_, SqL.of u5⟩, for_list (xs := [V.ref q1, V.ref q2, V.ref q3, V.ref q4]) (fun i σ H' => ∃ (ys : List Int) (v1 v2 v3 : Option V), σ = [some (.ref s), some (.int room), some (.ref D5), some (.ref p8), v1, v2, v3] ∧
        ys.length = i ∧ (∀ (j : Nat) (y : Int) (b : Int × Int), ys[j]? = some y → bnds[j]? = some b → b.1 ≤ y ∧ y ≤ b.2) ∧ H' p8 = some (.lst (.ref D5 :: .int room :: ys.map V.int)) ∧ SX [s, p8] G5 H' ∧ Src H' s)
        ⟨[], _, _, _, rfl, rfl, fun j y b h _ => by simp at h, hp80, SX.refl, _, _, _, hs5'⟩ ?_ ?_ ?_⟩
      · rintro i σ H' _ ⟨ys, v1, v2, v3, _, _, _, _, f, _⟩
        exact SqL.of (f _ _ (by simp [q5p, q5s]) u5)
      · rintro i x σ H' hx ⟨ys, v1, v2, v3, rfl, hl', hb', hp', f, hs'⟩
        obtain ⟨q, b, rfl, hbi, b1, b2, b3, hq⟩ := tb i x hx
        obtain ⟨qa, qb⟩ := qs _ _ hq
        have hq' := f _ _ (by simp [qa, qb]) hq
        walk_at "rd"
        refine ⟨.inl ⟨rfl, _, SqL.of hp'⟩, ?_⟩
        walk_at "rd"
        refine use_draw (by omega) (by omega) hs' fun i9 H9 i9a i9b s9 hs9 => ?_
        walk_at "rd"
        intro pA nA
        generalize eHA : upd _ pA _ = HA
        obtain ⟨sA, hpA⟩ := gen_new nA eHA
        clear eHA
        walk_at "rd"
        obtain ⟨a9, b9, c9, hs90⟩ := id hs9
        have nA' : pA ≠ s := (ne_of_none hs90 nA).symm
        refine use_pick hpA nA' (by walk_at "sd") ⟨_, _, _, sA _ _ hs90⟩ fun v HB hv sB hsB => ?_
        obtain ⟨y, rfl, y0, y1⟩ : ∃ y : Int, v = .int y ∧ b.1 ≤ y ∧ y ≤ b.2 := by
          simp only [List.mem_cons, List.mem_nil_iff, or_false] at hv
          rcases hv with rfl | rfl | rfl
          · exact ⟨_, rfl, by omega, by omega⟩
          · exact ⟨_, rfl, by omega, by omega⟩
          · exact ⟨_, rfl, by omega, by omega⟩
        walk_at "rd"
        have hpB := sB _ _ np8 (sA _ _ (s9 _ _ np8 hp'))
        obtain ⟨aB, bB, cB, hsB0⟩ := id hsB
        refine ⟨_, _, _, rfl, rfl, hpB, szlt (by simp; have := (List.getElem?_eq_some_iff.mp hx).1; simp at this; omega), ?_⟩
        refine ⟨ys ++ [y], _, _, _, rfl, by rw [List.length_append, hl']; rfl, ?_, by rw [upd_same, List.map_append]; rfl, (((f.trans (s9.sx (by simp))).trans sA.sx).trans (sB.sx (by simp))).upd (by simp), aB, bB, cB, by rw [upd_ne np8.symm]; exact hsB0⟩
        intro j z c hz hc
        by_cases hj : j < ys.length
        · rw [List.getElem?_append_left hj] at hz
          exact hb' j z c hz hc
        · rw [List.getElem?_append_right (by omega)] at hz
          have hj2 : j - ys.length = 0 := by
            by_cases h0 : j - ys.length = 0
            · exact h0
            · rw [List.getElem?_eq_none (by simp; omega)] at hz; cases hz
          rw [hj2] at hz
          cases hz
          have : j = i := by omega
          subst this
          rw [hbi] at hc
          cases hc
          exact ⟨y0, y1⟩
      · rintro σ H' ⟨ys, v1, v2, v3, rfl, hl', hb', hp', f, hs'⟩
        walk_at "rd"
        have hl4 : ys.length = 4 := hl'
        match ys, hl4, hb', hp' with
        | [y1, y2, y3, y4], _, hb', hp' =>
        have g1 := hb' 0 y1 _ rfl rfl
        have g2 := hb' 1 y2 _ rfl rfl
        have g3 := hb' 2 y3 _ rfl rfl
        have g4 := hb' 3 y4 _ rfl rfl
        have hD8 := s8 _ _ hD
        have nDp : D5 ≠ p8 := ne_of_none hD n8
        have hDE := f _ _ (by simp [nDp, nD]) (s85 _ _ hD8)
        refine k p8 H' ⟨lens, room, y1, y2, y3, y4⟩ ?_ hs' ⟨by show 0 < lens.length; omega, by show lens.length ≤ 6; omega, hb, r0, r1, g1, g2, g3, g4⟩ ⟨D5, hp', hDE⟩ ?_
        · intro c o hc ho
          have o7 := f70 c o hc ho
          exact f c o (by simp [hc, ne_of_none o7 n8]) (s85 _ _ (s8 _ _ o7))
        · exact fun H'' e => ⟨D5, e _ _ np8 hp', e _ _ nD hDE⟩

/-- the begin of an own error, at its class C, field f -/
@[irreducible] def sp_xi (C : Addr) (f : Str) : Sp := fun vs H Q _ => ∃ (a : Addr) (v : V), vs = [.ref a, v] ∧ H a = some (exo a C none) ∧ ∀ dx, H dx = none → dx ≠ a → Q .non (upd (upd H dx (exd dx [(f, v)])) a (exo a C (some dx)))
/-- an error is made -/
theorem mk_xi {C : Addr} {f : Str} {v : V} {H1 : Hp} {Q : XK} (h : ∀ d, H1 d = none → Q (.ref C) (some d) (upd H1 d (.xd [(f, v)]))) :
    [v].length ≤ 1000 ∧ ∀ a, H1 a = none → sp_xi C f (.ref a :: [v]) (upd H1 a (exo a C none)) (fun u H2 => u = .non ∧ ∃ (d : Addr) (fs : List (Str × V)), H2 a = some (exo a C (some d)) ∧ H2 d = some (exd d fs) ∧ H1 d = none ∧ Q (.ref C) (some d) (upd (del H2 a) d (.xd fs))) (fun _ _ _ => False) := by
  refine ⟨Nat.le_of_ble_eq_true rfl, fun a na => ?_⟩
  unfold sp_xi
  refine ⟨a, v, rfl, upd_same, fun dx nd ne => ⟨rfl, dx, [(f, v)], upd_same, ?_, ?_, ?_⟩⟩
  · rw [upd_ne ne, upd_same]
  · rwa [upd_ne ne] at nd
  · have nd1 : H1 dx = none := by rwa [upd_ne ne] at nd
    have e : upd (del (upd (upd (upd H1 a (exo a C none)) dx (exd dx [(f, v)])) a (exo a C (some dx))) a) dx (.xd [(f, v)]) = upd H1 dx (.xd [(f, v)]) := by
      funext b
      by_cases hb : b = dx
      · rw [hb, upd_same, upd_same]
      rw [upd_ne hb, upd_ne hb]
      by_cases ha : b = a
      · rw [ha, del_same, na]
      rw [del_ne ha, upd_ne ha, upd_ne hb, upd_ne ha]
    rw [e]
    exact h dx nd1
theorem mk_xi2 {C : Addr} {f : Str} {v : V} {H1 : Hp} {Q : XK} (h : ∀ d, H1 d = none → Q (.ref C) (some d) (upd H1 d (.xd [(f, v)]))) :
    ∀ a, H1 a = none → sp_xi C f (.ref a :: [v]) (upd H1 a (exo a C none)) (fun u H2 => u = .non ∧ ∃ (d : Addr) (fs : List (Str × V)), H2 a = some (exo a C (some d)) ∧ H2 d = some (exd d fs) ∧ H1 d = none ∧ Q (.ref C) (some d) (upd (del H2 a) d (.xd fs))) (fun _ _ _ => False) := (mk_xi h).2
/-- a value of some plain kind; objects keep F -/
inductive Ov (F : Addr → Prop) (H : Hp) : V → Prop
  | non : Ov F H .non
  | bl (b : Bool) : Ov F H (.bl b)
  | int (i : Int) : Ov F H (.int i)
  | str (s : Str) : Ov F H (.str s)
  | lst {a : Addr} {xs : List V} (f : F a) (h : H a = some (.lst xs)) : Ov F H (.ref a)
  | tup {a : Addr} {xs : List V} (f : F a) (h : H a = some (.tup xs)) : Ov F H (.ref a)
  | dct {a : Addr} {xs : List (Key × V)} (f : F a) (h : H a = some (.dK xs)) : Ov F H (.ref a)
theorem Ov.mono {F G : Addr → Prop} {H H' : Hp} {v : V} (h : Ov F H v) (k : ∀ a o, F a → H a = some o → H' a = some o) (g : ∀ a, F a → G a) : Ov G H' v := by
  cases h with
  | non => exact .non
  | bl b => exact .bl b
  | int i => exact .int i
  | str s => exact .str s
  | lst f h => exact .lst (g _ f) (k _ _ f h)
  | tup f h => exact .tup (g _ f) (k _ _ f h)
  | dct f h => exact .dct (g _ f) (k _ _ f h)
theorem Ov.isint {K : PySem.W.Frag} {F : Addr → Prop} {H : Hp} {v : V} {Q : VK} (h : Ov F H v) (q1 : ∀ i, v = .int i → Q (.bl true) H) (q2 : ∀ b, v = .bl b → Q (.bl true) H) (q3 : (∀ i, v ≠ .int i) → (∀ b, v ≠ .bl b) → Q (.bl false) H) : rIsiI K [v, .ty "int"] H Q := by
  unfold rIsiI
  cases h with
  | non => exact ⟨_, _, _, _, false, rfl, .ty _, .base .non, kit_ty (by decide +kernel), q3 (by intro _ z; cases z) (by intro _ z; cases z)⟩
  | bl b => exact ⟨_, _, _, _, true, rfl, .ty _, .base (.bl b), kit_ty (by decide +kernel), q2 b rfl⟩
  | int i => exact ⟨_, _, _, _, true, rfl, .ty _, .base (.int i), kit_ty (by decide +kernel), q1 i rfl⟩
  | str s => exact ⟨_, _, _, _, false, rfl, .ty _, .base (.str s), kit_ty (by decide +kernel), q3 (by intro _ z; cases z) (by intro _ z; cases z)⟩
  | lst f h => exact ⟨_, _, _, _, false, rfl, .ty _, .base (.lst h), kit_ty (by decide +kernel), q3 (by intro _ z; cases z) (by intro _ z; cases z)⟩
  | tup f h => exact ⟨_, _, _, _, false, rfl, .ty _, .base (.tup h), kit_ty (by decide +kernel), q3 (by intro _ z; cases z) (by intro _ z; cases z)⟩
  | dct f h => exact ⟨_, _, _, _, false, rfl, .ty _, .base (.dK h), kit_ty (by decide +kernel), q3 (by intro _ z; cases z) (by intro _ z; cases z)⟩
theorem isi_boolT {K : PySem.W.Frag} {H : Hp} {b : Bool} {Q : VK} (q : Q (.bl true) H) : rIsiI K [.bl b, .ty "bool"] H Q := by
  unfold rIsiI; exact ⟨_, _, _, _, true, rfl, .ty _, .base (.bl b), kit_ty (by decide +kernel), q⟩
theorem Ov.islist {K : PySem.W.Frag} {F : Addr → Prop} {H : Hp} {v : V} {Q : VK} (h : Ov F H v) (q1 : ∀ a xs, v = .ref a → H a = some (.lst xs) → Q (.bl true) H) (q2 : (∀ a xs, v = .ref a → H a ≠ some (.lst xs)) → Q (.bl false) H) : rIsiI K [v, .ty "list"] H Q := by
  unfold rIsiI
  cases h with
  | non => exact ⟨_, _, _, _, false, rfl, .ty _, .base .non, kit_ty (by decide +kernel), q2 (by intro _ _ z; cases z)⟩
  | bl b => exact ⟨_, _, _, _, false, rfl, .ty _, .base (.bl b), kit_ty (by decide +kernel), q2 (by intro _ _ z; cases z)⟩
  | int i => exact ⟨_, _, _, _, false, rfl, .ty _, .base (.int i), kit_ty (by decide +kernel), q2 (by intro _ _ z; cases z)⟩
  | str s => exact ⟨_, _, _, _, false, rfl, .ty _, .base (.str s), kit_ty (by decide +kernel), q2 (by intro _ _ z; cases z)⟩
  | lst f h => exact ⟨_, _, _, _, true, rfl, .ty _, .base (.lst h), kit_ty (by decide +kernel), q1 _ _ rfl h⟩
  | tup f h => exact ⟨_, _, _, _, false, rfl, .ty _, .base (.tup h), kit_ty (by decide +kernel), q2 (by intro _ _ z e; cases z; rw [h] at e; cases e)⟩
  | dct f h => exact ⟨_, _, _, _, false, rfl, .ty _, .base (.dK h), kit_ty (by decide +kernel), q2 (by intro _ _ z e; cases z; rw [h] at e; cases e)⟩
abbrev Any (_ : Addr) : Prop := True
/-- an integer from lo to hi -/
def BT (v : V) (lo hi : Int) : Prop := ∃ i : Int, v = .int i ∧ lo ≤ i ∧ i ≤ hi
@[irreducible] def sp_is_integer : Sp := fun vs H Q _ => ∃ v : V, vs = [v] ∧ Ov Any H v ∧ ∀ b, (b = true ↔ ∃ i, v = .int i) → Q (.bl b) H
theorem use_isint {v : V} {H : Hp} {Q : VK} {E : XK} (o : Ov Any H v) (q : ∀ b, (b = true ↔ ∃ i, v = .int i) → Q (.bl b) H) : sp_is_integer [v] H Q E := by unfold sp_is_integer; exact ⟨v, rfl, o, q⟩
theorem b_is_integer {K : PySem.W.Frag} {fd : FuncData} (F : F_is_integer K fd) : Binds K fd P_is_integer [] := FunD.bindsN F fun _ _ _ _ _ _ us hl => match us, hl with | [_], _ => rfl
theorem ok_is_integer (T : Txt K mg base D) : FnOk P w K mg base CX0 1 (He.fAd K ("is_integer", none)) (D D_is_integer) P_is_integer sp_is_integer := by
  refine T.d_is_integer.ok sc_is_integer (fun vs H Q E h => ?_) (fun cdv A outer s H vs Q E hr h => ?_)
  · unfold sp_is_integer at h
    first | (obtain ⟨rfl, _⟩ := h; rfl) | (obtain ⟨_, rfl, _⟩ := h; rfl) | (obtain ⟨_, _, rfl, _⟩ := h; rfl) | (obtain ⟨_, _, _, rfl, _⟩ := h; rfl) | (obtain ⟨_, _, _, _, rfl, _⟩ := h; rfl) | (obtain ⟨_, _, _, _, _, rfl, _⟩ := h; rfl) | (obtain ⟨_, _, _, _, _, _, rfl, _⟩ := h; rfl) | (obtain ⟨_, _, _, _, _, _, _, rfl, _⟩ := h; rfl) | (obtain ⟨_, _, _, _, _, _, _, _, rfl, _⟩ := h; rfl) | (obtain ⟨_, _, _, _, _, _, _, _, _, rfl, _⟩ := h; rfl) | (obtain ⟨_, _, _, _, _, _, _, _, _, _, rfl, _⟩ := h; rfl) | (obtain ⟨_, _, _, _, _, _, _, _, _, _, _, rfl, _⟩ := h; rfl)
  · refine ⟨_, PSs.nox (pss_one (ps_ret (pe_and (pe_callB (call_isiK2 (K := K)) (by rfl) T.n_isinstance (by decide +kernel) (pa_cons (pv 0) (pa_cons (pe_bltn (by rfl) T.n_int (by decide +kernel) (v := .ty "int") rfl) pa_nil))) (pe_one (pe_not (pe_callB (call_isiK2 (K := K)) (by rfl) T.n_isinstance (by decide +kernel) (pa_cons (pv 0) (pa_cons (pe_bltn (by rfl) T.n_bool (by decide +kernel) (v := .ty "bool") rfl) pa_nil)))))))), ?_⟩
    unfold sp_is_integer at h
    obtain ⟨v, rfl, o, q⟩ := h
    walk_at "rd"
    refine o.isint (fun i e => ?_) (fun b e => ?_) (fun n1 n2 => ?_)
    · subst e
      walk_at "rd"
      refine isi_bool ?_
      walk_at "rd"
      exact q true ⟨fun _ => ⟨_, rfl⟩, fun _ => rfl⟩
    · subst e
      walk_at "rd"
      refine isi_boolT ?_
      walk_at "rd"
      exact q false ⟨fun z => (by cases z), fun ⟨_, z⟩ => by cases z⟩
    · walk_at "rd"
      exact q false ⟨fun z => (by cases z), fun ⟨i, z⟩ => absurd z (n1 i)⟩

@[irreducible] def sp_is_between : Sp := fun vs H Q _ => ∃ (v : V) (lo hi : Int), vs = [v, .int lo, .int hi] ∧ Ov Any H v ∧ ∀ b, (b = true ↔ BT v lo hi) → Q (.bl b) H
theorem use_between {v : V} {lo hi : Int} {H : Hp} {Q : VK} {E : XK} (o : Ov Any H v) (q : ∀ b, (b = true ↔ BT v lo hi) → Q (.bl b) H) : sp_is_between [v, .int lo, .int hi] H Q E := by unfold sp_is_between; exact ⟨v, lo, hi, rfl, o, q⟩
theorem b_is_between {K : PySem.W.Frag} {fd : FuncData} (F : F_is_between K fd) : Binds K fd P_is_between [] := FunD.bindsN F fun _ _ _ _ _ _ us hl => match us, hl with | [_, _, _], _ => rfl
theorem ok_is_between (T : Txt K mg base D) : FnOk P w K mg base CX0 2 (He.fAd K ("is_between", none)) (D D_is_between) P_is_between sp_is_between := by
  refine T.d_is_between.ok sc_is_between (fun vs H Q E h => ?_) (fun cdv A outer s H vs Q E hr h => ?_)
  · unfold sp_is_between at h
    first | (obtain ⟨rfl, _⟩ := h; rfl) | (obtain ⟨_, rfl, _⟩ := h; rfl) | (obtain ⟨_, _, rfl, _⟩ := h; rfl) | (obtain ⟨_, _, _, rfl, _⟩ := h; rfl) | (obtain ⟨_, _, _, _, rfl, _⟩ := h; rfl) | (obtain ⟨_, _, _, _, _, rfl, _⟩ := h; rfl) | (obtain ⟨_, _, _, _, _, _, rfl, _⟩ := h; rfl) | (obtain ⟨_, _, _, _, _, _, _, rfl, _⟩ := h; rfl) | (obtain ⟨_, _, _, _, _, _, _, _, rfl, _⟩ := h; rfl) | (obtain ⟨_, _, _, _, _, _, _, _, _, rfl, _⟩ := h; rfl) | (obtain ⟨_, _, _, _, _, _, _, _, _, _, rfl, _⟩ := h; rfl) | (obtain ⟨_, _, _, _, _, _, _, _, _, _, _, rfl, _⟩ := h; rfl)
  · refine ⟨_, PSs.nox (pss_one (ps_ret (pe_and (pe_call (ok_is_integer T) (hr.mono (by decide)) rfl T.g_is_integer T.d_is_integer.kp (b_is_integer T.d_is_integer) .nil pass0 (pa_cons (pv 0) pa_nil)) (pe_one (pe_chain op_le op_le (pv 1) (pv 0) (pv 2)))))), ?_⟩
    unfold sp_is_between at h
    obtain ⟨v, lo, hi, rfl, o, q⟩ := h
    walk_at "rd"
    refine use_isint o fun b hb => ?_
    walk_at "rd"
    cases b with
    | false =>
      have n : ¬ ∃ i, v = .int i := fun z => by cases hb.2 z
      refine iteF_of rfl ?_
      exact q false ⟨fun z => (by cases z), fun ⟨i, e, _⟩ => absurd ⟨i, e⟩ n⟩
    | true =>
      obtain ⟨i, rfl⟩ := hb.1 rfl
      refine iteT_of rfl ?_
      walk_at "rd"
      refine iteB (fun c => ?_) (fun c => ?_)
      · have c := of_decide_eq_true c
        walk_at "rd"
        refine q _ ⟨fun z => ⟨i, rfl, c, of_decide_eq_true z⟩, fun ⟨j, e, h1, h2⟩ => ?_⟩
        cases e
        exact decide_eq_true h2
      · have c := of_decide_eq_false c
        refine q false ⟨fun z => (by cases z), fun ⟨j, e, h1, h2⟩ => ?_⟩
        cases e
        exact absurd h1 c

theorem use_betweenI {i lo hi : Int} {H : Hp} {Q : VK} {E : XK} (q : Q (.bl (decide (lo ≤ i ∧ i ≤ hi))) H) : sp_is_between [.int i, .int lo, .int hi] H Q E := use_between (.int i) fun b hb => by
  have e : b = decide (lo ≤ i ∧ i ≤ hi) := by
    rw [Bool.eq_iff_iff, hb, decide_eq_true_iff]
    exact ⟨fun ⟨j, z, h⟩ => by cases z; exact h, fun h => ⟨i, rfl, h⟩⟩
  rw [e]
  exact q
@[irreducible] def sp_check_part : Sp := fun vs H Q _ => ∃ (x : Str) (i lo hi : Int), vs = [.str x, .int i, .int lo, .int hi] ∧ (lo ≤ i ∧ i ≤ hi) ∧ Q .non H
theorem use_check_part {x : Str} {i lo hi : Int} {H : Hp} {Q : VK} {E : XK} (h : lo ≤ i ∧ i ≤ hi) (q : Q .non H) : sp_check_part [.str x, .int i, .int lo, .int hi] H Q E := by unfold sp_check_part; exact ⟨x, i, lo, hi, rfl, h, q⟩
theorem b_check_part {K : PySem.W.Frag} {fd : FuncData} (F : F_check_part K fd) : Binds K fd P_check_part [] := FunD.bindsN F fun _ _ _ _ _ _ us hl => match us, hl with | [_, _, _, _], _ => rfl
theorem ok_check_part (T : Txt K mg base D) : FnOk P w K mg base CX0 3 (He.fAd K ("check_part", none)) (D D_check_part) P_check_part sp_check_part := by
  refine T.d_check_part.ok sc_check_part (fun vs H Q E h => ?_) (fun cdv A outer s H vs Q E hr h => ?_)
  · unfold sp_check_part at h
    first | (obtain ⟨rfl, _⟩ := h; rfl) | (obtain ⟨_, rfl, _⟩ := h; rfl) | (obtain ⟨_, _, rfl, _⟩ := h; rfl) | (obtain ⟨_, _, _, rfl, _⟩ := h; rfl) | (obtain ⟨_, _, _, _, rfl, _⟩ := h; rfl) | (obtain ⟨_, _, _, _, _, rfl, _⟩ := h; rfl) | (obtain ⟨_, _, _, _, _, _, rfl, _⟩ := h; rfl) | (obtain ⟨_, _, _, _, _, _, _, rfl, _⟩ := h; rfl) | (obtain ⟨_, _, _, _, _, _, _, _, rfl, _⟩ := h; rfl) | (obtain ⟨_, _, _, _, _, _, _, _, _, rfl, _⟩ := h; rfl) | (obtain ⟨_, _, _, _, _, _, _, _, _, _, rfl, _⟩ := h; rfl) | (obtain ⟨_, _, _, _, _, _, _, _, _, _, _, rfl, _⟩ := h; rfl)
  · refine ⟨_, PSs.nox (pss_one (ps_if (pt_not (pt_val (pe_call (ok_is_between T) (hr.mono (by decide)) rfl T.g_is_between T.d_is_between.kp (b_is_between T.d_is_between) .nil pass0 (pa_cons (pv 1) (pa_cons (pv 2) (pa_cons (pv 3) pa_nil)))))) (pss_one ps_never) pss_nil)), ?_⟩
    unfold sp_check_part at h
    obtain ⟨x, i, lo, hi, rfl, h, q⟩ := h
    walk_at "rd"
    refine use_betweenI ?_
    rw [decide_eq_true h]
    walk_at "rd"
    exact q

/-- settings stand at a -/
def SetAt (K : PySem.W.Frag) (H : Hp) (a : Addr) (p : Prt) : Prop := ∃ dx t, H a = some (.ins (He.ga K "Settings") dx [("lengths", .ref t), ("size", .int p.size), ("fanout", .int p.fan), ("records", .int p.rec_), ("every", .int p.every), ("keep", .int p.keep)]) ∧ H t = some (.tup (p.lens.map V.int))
theorem SetAt.same {K : PySem.W.Frag} {H H' : Hp} {a : Addr} {p : Prt} (h : SetAt K H a p) (s : Same H H') : SetAt K H' a p := let ⟨dx, l, h1, h2⟩ := h; ⟨dx, l, s _ _ h1, s _ _ h2⟩
@[irreducible] def sp_Settings_init (K : PySem.W.Frag) : Sp := fun vs H Q _ => ∃ (a dx l : Addr) (p : Prt), vs = [.ref a, .ref l, .int p.size, .int p.fan, .int p.rec_, .int p.every, .int p.keep] ∧
  H a = some (.ins (He.ga K "Settings") dx []) ∧ H l = some (.lst (p.lens.map V.int)) ∧ p.Ok ∧ ∀ H', SB a H H' → SetAt K H' a p → Q .non H'
theorem use_set_init {K : PySem.W.Frag} {a dx l : Addr} {p : Prt} {H : Hp} {Q : VK} {E : XK} (ha : H a = some (.ins (He.ga K "Settings") dx [])) (hl : H l = some (.lst (p.lens.map V.int))) (ok : p.Ok) (k : ∀ H', SB a H H' → SetAt K H' a p → Q .non H') :
  sp_Settings_init K [.ref a, .ref l, .int p.size, .int p.fan, .int p.rec_, .int p.every, .int p.keep] H Q E := by unfold sp_Settings_init; exact ⟨a, dx, l, p, rfl, ha, hl, ok, k⟩
theorem b_Settings___init__ {K : PySem.W.Frag} {fd : FuncData} (F : F_Settings___init__ K fd) : KBn K fd P_Settings___init__ 3 ["fanout", "records", "every", "keep"] (fun us ws => us ++ ws) (fun vs zs => vs ++ zs) := kb_app F 3 ["fanout", "records", "every", "keep"] fun _ _ _ _ _ _ us ws h1 h2 => match us, ws, h1, h2 with | [_, _, _], [_, _, _, _], _, _ => rfl
theorem ok_Settings___init__ (T : Txt K mg base D) : FnOk P w K mg base CX0 4 (He.fAd K ("Settings", some "__init__")) (D D_Settings___init__) P_Settings___init__ (sp_Settings_init K) := by
  refine T.d_Settings___init__.ok sc_Settings___init__ (fun vs H Q E h => ?_) (fun cdv A outer s H vs Q E hr h => ?_)
  · unfold sp_Settings_init at h
    first | (obtain ⟨rfl, _⟩ := h; rfl) | (obtain ⟨_, rfl, _⟩ := h; rfl) | (obtain ⟨_, _, rfl, _⟩ := h; rfl) | (obtain ⟨_, _, _, rfl, _⟩ := h; rfl) | (obtain ⟨_, _, _, _, rfl, _⟩ := h; rfl) | (obtain ⟨_, _, _, _, _, rfl, _⟩ := h; rfl) | (obtain ⟨_, _, _, _, _, _, rfl, _⟩ := h; rfl) | (obtain ⟨_, _, _, _, _, _, _, rfl, _⟩ := h; rfl) | (obtain ⟨_, _, _, _, _, _, _, _, rfl, _⟩ := h; rfl) | (obtain ⟨_, _, _, _, _, _, _, _, _, rfl, _⟩ := h; rfl) | (obtain ⟨_, _, _, _, _, _, _, _, _, _, rfl, _⟩ := h; rfl) | (obtain ⟨_, _, _, _, _, _, _, _, _, _, _, rfl, _⟩ := h; rfl)
  · refine ⟨_, PSs.nox (pss_cons (ps_if (PW.pt (pw_or (pt_not (pt_val (pe_callB (call_isiK2 (K := K)) (by rfl) T.n_isinstance (by decide +kernel) (pa_cons (pv 1) (pa_cons (pe_bltn (by rfl) T.n_list (by decide +kernel) (v := .ty "list") rfl) pa_nil))))) (pw_or1 (pt_not (pt_chain op_le op_le pe_int (pe_callB (call_lenK (K := K)) (by rfl) T.n_len (by decide +kernel) (pa_cons (pv 1) pa_nil)) (pe_globi T.i_MOST_LENGTHS)))))) (pss_one ps_never) pss_nil)
      (pss_cons (ps_for PassesOwn.never rfl (pi_list (pv 1)) (pg_name (i := 7) sc_Settings___init__.nd rfl (Or.inl rfl)) (pss_one (ps_expr (pe_call (ok_check_part T) (hr.mono (by decide)) rfl T.g_check_part T.d_check_part.kp (b_check_part T.d_check_part) .nil pass0 (pa_cons pe_str (pa_cons (pv 7) (pa_cons pe_int (pa_cons (pe_globi T.i_MOST_SIZE) pa_nil))))))))
      (pss_cons (ps_expr (pe_call (ok_check_part T) (hr.mono (by decide)) rfl T.g_check_part T.d_check_part.kp (b_check_part T.d_check_part) .nil pass0 (pa_cons pe_str (pa_cons (pv 2) (pa_cons (pe_callB (cr_maxK (K := K) rfl) (by rfl) T.n_max (by decide +kernel) (pa_cons (pv 1) pa_nil)) (pa_cons (pe_globi T.i_MOST_SIZE) pa_nil))))))
      (pss_cons (ps_expr (pe_call (ok_check_part T) (hr.mono (by decide)) rfl T.g_check_part T.d_check_part.kp (b_check_part T.d_check_part) .nil pass0 (pa_cons pe_str (pa_cons (pv 3) (pa_cons pe_int (pa_cons (pe_globi T.i_MOST_FANOUT) pa_nil))))))
      (pss_cons (ps_expr (pe_call (ok_check_part T) (hr.mono (by decide)) rfl T.g_check_part T.d_check_part.kp (b_check_part T.d_check_part) .nil pass0 (pa_cons pe_str (pa_cons (pv 4) (pa_cons pe_int (pa_cons (pe_globi T.i_MOST_RECORDS) pa_nil))))))
      (pss_cons (ps_expr (pe_call (ok_check_part T) (hr.mono (by decide)) rfl T.g_check_part T.d_check_part.kp (b_check_part T.d_check_part) .nil pass0 (pa_cons pe_str (pa_cons (pv 5) (pa_cons pe_int (pa_cons (pe_globi T.i_MOST_EVERY) pa_nil))))))
      (pss_cons (ps_expr (pe_call (ok_check_part T) (hr.mono (by decide)) rfl T.g_check_part T.d_check_part.kp (b_check_part T.d_check_part) .nil pass0 (pa_cons pe_str (pa_cons (pv 6) (pa_cons pe_int (pa_cons (pe_globi T.i_MOST_KEEP) pa_nil))))))
      (pss_cons (ps_fld (pv 0) (pe_callTy (call_tupK (K := K)) (by rfl) T.n_tuple (by decide +kernel) (pa_cons (pv 1) pa_nil)) rfl)
      (pss_cons (ps_fld (pv 0) (pv 2) rfl)
      (pss_cons (ps_fld (pv 0) (pv 3) rfl)
      (pss_cons (ps_fld (pv 0) (pv 4) rfl)
      (pss_cons (ps_fld (pv 0) (pv 5) rfl)
      (pss_one (ps_fld (pv 0) (pv 6) rfl)))))))))))))), ?_⟩
    unfold sp_Settings_init at h
    obtain ⟨a, dx, l, p, rfl, ha, hl, ok, k⟩ := h
    walk_at "rd"
    refine isi_list hl ?_
    walk_at "rd"
    have l0 := ok.l0
    have l1 := ok.l1
    refine iteT_of (decide_eq_true (by rw [List.length_map]; omega)) ?_
    walk_at "rd"
    refine iteF_of (by rw [decide_eq_true (by rw [List.length_map]; omega)]; rfl) ?_
    walk_at "rd"
    refine for_list (xs := p.lens.map V.int) (fun i σ H' => H' = H ∧ ∃ v : Option V, σ = [some (.ref a), some (.ref l), some (.int p.size), some (.int p.fan), some (.int p.rec_), some (.int p.every), some (.int p.keep), v]) ⟨rfl, _, rfl⟩ ?_ ?_ ?_
    · rintro i σ H' _ ⟨rfl, _⟩
      exact SqL.of hl
    · rintro i x σ H' hx ⟨rfl, v, rfl⟩
      obtain ⟨z, hz, rfl⟩ := map_some hx
      have hb := ok.le z (List.mem_of_getElem? hz)
      have s1 := ok.s1
      walk_at "rd"
      refine use_check_part (by omega) ?_
      walk_at "rd"
      exact ⟨_, rfl⟩
    · rintro σ H' ⟨rfl, v, rfl⟩
      walk_at "rd"
      refine ⟨_, _, rfl, SqL.of hl, ok.l0, fun m hm _ => ?_⟩
      have hb := ok.le m hm
      have s1 := ok.s1
      walk_at "rd"
      refine use_check_part (by omega) ?_
      walk_at "rd"
      refine use_check_part ok.f ?_
      walk_at "rd"
      refine use_check_part ok.r ?_
      walk_at "rd"
      refine use_check_part ok.e ?_
      walk_at "rd"
      refine use_check_part ok.k ?_
      walk_at "rd"
      refine ⟨_, _, rfl, .inl ⟨SqL.of hl, ?_⟩⟩
      intro t n0
      generalize eG0 : upd _ t _ = G0
      obtain ⟨g0, ht⟩ := gen_new n0 eG0
      clear eG0
      have ha0 := g0 _ _ ha
      have nta : t ≠ a := (ne_of_none ha n0).symm
      walk_at "rd"
      generalize eG1 : upd _ _ _ = G1
      obtain ⟨g1, h1⟩ := gen_st eG1
      clear eG1
      try simp only [pf_Settings_0, pf_Settings_1, pf_Settings_2, pf_Settings_3, pf_Settings_4, pf_Settings_5, pf_Packing_0, pf_Packing_1, pf_Packing_2, pf_Packing_3, pf_Packing_4, pf_Packing_5] at h1
      walk_at "rd"
      generalize eG2 : upd _ _ _ = G2
      obtain ⟨g2, h2⟩ := gen_st eG2
      clear eG2
      try simp only [pf_Settings_0, pf_Settings_1, pf_Settings_2, pf_Settings_3, pf_Settings_4, pf_Settings_5, pf_Packing_0, pf_Packing_1, pf_Packing_2, pf_Packing_3, pf_Packing_4, pf_Packing_5] at h2
      walk_at "rd"
      generalize eG3 : upd _ _ _ = G3
      obtain ⟨g3, h3⟩ := gen_st eG3
      clear eG3
      try simp only [pf_Settings_0, pf_Settings_1, pf_Settings_2, pf_Settings_3, pf_Settings_4, pf_Settings_5, pf_Packing_0, pf_Packing_1, pf_Packing_2, pf_Packing_3, pf_Packing_4, pf_Packing_5] at h3
      walk_at "rd"
      generalize eG4 : upd _ _ _ = G4
      obtain ⟨g4, h4⟩ := gen_st eG4
      clear eG4
      try simp only [pf_Settings_0, pf_Settings_1, pf_Settings_2, pf_Settings_3, pf_Settings_4, pf_Settings_5, pf_Packing_0, pf_Packing_1, pf_Packing_2, pf_Packing_3, pf_Packing_4, pf_Packing_5] at h4
      walk_at "rd"
      generalize eG5 : upd _ _ _ = G5
      obtain ⟨g5, h5⟩ := gen_st eG5
      clear eG5
      try simp only [pf_Settings_0, pf_Settings_1, pf_Settings_2, pf_Settings_3, pf_Settings_4, pf_Settings_5, pf_Packing_0, pf_Packing_1, pf_Packing_2, pf_Packing_3, pf_Packing_4, pf_Packing_5] at h5
      walk_at "rd"
      generalize eG6 : upd _ _ _ = G6
      obtain ⟨g6, h6⟩ := gen_st eG6
      clear eG6
      try simp only [pf_Settings_0, pf_Settings_1, pf_Settings_2, pf_Settings_3, pf_Settings_4, pf_Settings_5, pf_Packing_0, pf_Packing_1, pf_Packing_2, pf_Packing_3, pf_Packing_4, pf_Packing_5] at h6
      refine k G6 ((((((g0.sb.trans g1).trans g2).trans g3).trans g4).trans g5).trans g6) ⟨dx, t, ?_, (((((g1.trans g2).trans g3).trans g4).trans g5).trans g6) _ _ nta ht⟩
      exact h6

@[irreducible] def sp_law_settings (K : PySem.W.Frag) : Sp := fun vs H Q _ => ∃ (a : Addr) (p : Prt), vs = [.ref a] ∧ PrtAt H a p ∧ p.Ok ∧ ∀ b H', H b = none → Same H H' → SetAt K H' b p → Q (.ref b) H'
theorem use_settings {K : PySem.W.Frag} {a : Addr} {p : Prt} {H : Hp} {Q : VK} {E : XK} (h : PrtAt H a p) (ok : p.Ok) (k : ∀ b H', H b = none → Same H H' → SetAt K H' b p → Q (.ref b) H') : sp_law_settings K [.ref a] H Q E := by
  unfold sp_law_settings; exact ⟨a, p, rfl, h, ok, k⟩
theorem b_law_settings {K : PySem.W.Frag} {fd : FuncData} (F : F_law_settings K fd) : Binds K fd P_law_settings [] := FunD.bindsN F fun _ _ _ _ _ _ us hl => match us, hl with | [_], _ => rfl
theorem ok_law_settings (T : Txt K mg base D) : FnOk P w K mg base CX0 6 (He.fAd K ("_law_settings", none)) (D D_law_settings) P_law_settings (sp_law_settings K) := by
  refine T.d_law_settings.ok sc_law_settings (fun vs H Q E h => ?_) (fun cdv A outer s H vs Q E hr h => ?_)
  · unfold sp_law_settings at h
    first | (obtain ⟨rfl, _⟩ := h; rfl) | (obtain ⟨_, rfl, _⟩ := h; rfl) | (obtain ⟨_, _, rfl, _⟩ := h; rfl) | (obtain ⟨_, _, _, rfl, _⟩ := h; rfl) | (obtain ⟨_, _, _, _, rfl, _⟩ := h; rfl) | (obtain ⟨_, _, _, _, _, rfl, _⟩ := h; rfl) | (obtain ⟨_, _, _, _, _, _, rfl, _⟩ := h; rfl) | (obtain ⟨_, _, _, _, _, _, _, rfl, _⟩ := h; rfl) | (obtain ⟨_, _, _, _, _, _, _, _, rfl, _⟩ := h; rfl) | (obtain ⟨_, _, _, _, _, _, _, _, _, rfl, _⟩ := h; rfl) | (obtain ⟨_, _, _, _, _, _, _, _, _, _, rfl, _⟩ := h; rfl) | (obtain ⟨_, _, _, _, _, _, _, _, _, _, _, rfl, _⟩ := h; rfl)
  · refine ⟨_, PSs.nox (pss_one (ps_ret (pe_makeK T.mk_Settings (ok_Settings___init__ T) (hr.mono (by decide)) rfl T.g_Settings (b_Settings___init__ T.d_Settings___init__) pass0 (pa_cons (pe_ix (ix_listK (K := K)) (pv 0) pe_int (fun _ _ => rfl)) (pa_cons (pe_ix (ix_listK (K := K)) (pv 0) pe_int (fun _ _ => rfl)) pa_nil)) (pk_cons (pe_ix (ix_listK (K := K)) (pv 0) pe_int (fun _ _ => rfl)) (pk_cons (pe_ix (ix_listK (K := K)) (pv 0) pe_int (fun _ _ => rfl)) (pk_cons (pe_ix (ix_listK (K := K)) (pv 0) pe_int (fun _ _ => rfl)) (pk_cons (pe_ix (ix_listK (K := K)) (pv 0) pe_int (fun _ _ => rfl)) pk_nil))))))), ?_⟩
    unfold sp_law_settings at h
    obtain ⟨a, p, rfl, ⟨l, ha, hl⟩, ok, k⟩ := h
    walk_at "rd"
    intro b dx n ndb neb
    generalize eG : upd (upd _ dx _) b _ = G
    obtain ⟨s, c⟩ := gen_mk n ndb eG
    clear eG
    refine use_set_init c (s _ _ hl) ok fun H2 s2 st => ?_
    walk_at "rd"
    exact k b H2 n (same_sb_new s s2 n) st

/-! ### how rows stand on pages: the numbers -/
def lenAt (p : Prt) (r : Nat) : Int := p.lens.getD (r % p.lens.length) 0
def usum (p : Prt) (r : Nat) : Nat → Int
  | 0 => 0
  | k + 1 => usum p r k + lenAt p (r + k)
theorem lenAt_ok {p : Prt} (ok : p.Ok) (r : Nat) : 1 ≤ lenAt p r ∧ lenAt p r ≤ p.size := by
  have h : r % p.lens.length < p.lens.length := Nat.mod_lt _ ok.l0
  unfold lenAt
  rw [List.getD_eq_getElem?_getD, List.getElem?_eq_getElem h]
  exact ok.le _ (List.getElem_mem h)
theorem usum_ge {p : Prt} (ok : p.Ok) (r : Nat) : ∀ k : Nat, (k : Int) ≤ usum p r k
  | 0 => by simp [usum]
  | k + 1 => by
    have h := usum_ge ok r k
    have h2 := (lenAt_ok ok (r + k)).1
    simp only [usum]
    omega
theorem usum_mono {p : Prt} (ok : p.Ok) (r : Nat) {j k : Nat} (h : j ≤ k) : usum p r j ≤ usum p r k := by
  induction k with
  | zero => have : j = 0 := by omega
            subst this; exact Int.le_refl _
  | succ k ih =>
    by_cases e : j = k + 1
    · subst e; exact Int.le_refl _
    · have h2 := (lenAt_ok ok (r + k)).1
      have h3 := ih (by omega)
      simp only [usum]
      omega
/-- so many rows fit on a page that begins with row r -/
def Fits (p : Prt) (r k : Nat) : Prop := usum p r k ≤ p.size ∧ p.size < usum p r (k + 1)
theorem Fits.uniq {p : Prt} (ok : p.Ok) {r j k : Nat} (a : Fits p r j) (b : Fits p r k) : j = k := by
  by_cases h : j < k
  · have := usum_mono ok r (show j + 1 ≤ k by omega)
    have := a.2; have := b.1; omega
  · by_cases h2 : k < j
    · have := usum_mono ok r (show k + 1 ≤ j by omega)
      have := b.2; have := a.1; omega
    · omega
theorem Fits.le {p : Prt} (ok : p.Ok) {r k : Nat} (a : Fits p r k) : k ≤ 64 := by
  have h1 := usum_ge ok r k
  have h2 := a.1
  have h3 := ok.s1
  omega
theorem Fits.pos {p : Prt} (ok : p.Ok) {r k : Nat} (a : Fits p r k) : 1 ≤ k := by
  match k, a with
  | 0, a =>
    have h := a.2
    simp only [usum] at h
    have := (lenAt_ok ok (r + 0)).2
    omega
  | k + 1, _ => omega
theorem fits_ex {p : Prt} (ok : p.Ok) (r : Nat) : ∃ k, Fits p r k := by
  have key : ∀ n : Nat, (∃ k, Fits p r k) ∨ usum p r n ≤ p.size := by
    intro n
    induction n with
    | zero => right; simp only [usum]; have := ok.s0; omega
    | succ n ih =>
      rcases ih with h | h
      · exact .inl h
      · by_cases e : usum p r (n + 1) ≤ p.size
        · exact .inr e
        · exact .inl ⟨n, h, by omega⟩
  rcases key 65 with h | h
  · exact h
  · have h1 := usum_ge ok r 65
    have h3 := ok.s1
    omega
/-- how many rows a page that begins with row r gets -/
noncomputable def rowsF (p : Prt) (r : Nat) : Nat := open Classical in if h : ∃ k, Fits p r k then h.choose else 1
theorem rowsF_ok {p : Prt} (ok : p.Ok) (r : Nat) : Fits p r (rowsF p r) := by
  unfold rowsF
  rw [dif_pos (fits_ex ok r)]
  exact (fits_ex ok r).choose_spec
theorem rowsF_eq {p : Prt} (ok : p.Ok) {r k : Nat} (h : Fits p r k) : rowsF p r = k := (rowsF_ok ok r).uniq ok h
theorem rowsF_le {p : Prt} (ok : p.Ok) (r : Nat) : rowsF p r ≤ 64 := (rowsF_ok ok r).le ok
theorem rowsF_pos {p : Prt} (ok : p.Ok) (r : Nat) : 1 ≤ rowsF p r := (rowsF_ok ok r).pos ok
theorem lenAt_mod {p : Prt} {r q : Nat} (h : r % p.lens.length = q % p.lens.length) (i : Nat) : lenAt p (r + i) = lenAt p (q + i) := by
  unfold lenAt
  rw [Nat.add_mod, h, ← Nat.add_mod]
theorem usum_mod {p : Prt} {r q : Nat} (h : r % p.lens.length = q % p.lens.length) : ∀ k, usum p r k = usum p q k
  | 0 => rfl
  | k + 1 => by simp only [usum]; rw [usum_mod h k, lenAt_mod h]
theorem rowsF_mod {p : Prt} (ok : p.Ok) {r q : Nat} (h : r % p.lens.length = q % p.lens.length) : rowsF p r = rowsF p q := by
  refine rowsF_eq ok ?_
  have := rowsF_ok ok q
  unfold Fits at this ⊢
  rw [usum_mod h, usum_mod h]
  exact this
/-- the first row of heap page n -/
noncomputable def startN (p : Prt) : Nat → Nat
  | 0 => 0
  | n + 1 => startN p n + rowsF p (startN p n)
/-! ### the cycle -/
theorem pigeon : ∀ (L n : Nat) (f : Nat → Nat), (∀ i, i < n → f i < L) → (∀ i j, i < j → j < n → f i ≠ f j) → n ≤ L
  | 0, n, f, h, _ => by
    match n with
    | 0 => exact Nat.le_refl 0
    | n + 1 => exact absurd (h 0 (by omega)) (by omega)
  | L + 1, 0, f, _, _ => Nat.zero_le _
  | L + 1, m + 1, f, h, inj => by
    have key := pigeon L m (fun i => if f i = L then f m else f i) (fun i hi => by
      have h1 := h i (by omega)
      have h2 := h m (by omega)
      have h3 := inj i m hi (by omega)
      show (if f i = L then f m else f i) < L
      split <;> omega) (fun i j hij hj => by
      have h3 := inj i j hij (by omega)
      have h4 := inj i m (by omega) (by omega)
      have h5 := inj j m hj (by omega)
      show (if f i = L then f m else f i) ≠ (if f j = L then f m else f j)
      split <;> split <;> omega)
    omega
noncomputable def resN (p : Prt) (n : Nat) : Nat := startN p n % p.lens.length
theorem resN_lt {p : Prt} (ok : p.Ok) (n : Nat) : resN p n < p.lens.length := Nat.mod_lt _ ok.l0
structure Cyc (p : Prt) (first pages : Nat) : Prop where
  pos : 0 < pages
  eq : resN p (first + pages) = resN p first
  inj : ∀ i j, i < j → j < first + pages → resN p i ≠ resN p j
theorem Cyc.le {p : Prt} (ok : p.Ok) {first pages : Nat} (c : Cyc p first pages) : first + pages ≤ 6 :=
  Nat.le_trans (pigeon p.lens.length (first + pages) (resN p) (fun i _ => resN_lt ok i) c.inj) ok.l1
noncomputable def stL (p : Prt) (n : Nat) : List V := (List.range (n + 1)).map fun j => V.int (startN p j)
theorem stL_succ (p : Prt) (n : Nat) : stL p (n + 1) = stL p n ++ [.int (startN p (n + 1))] := by
  unfold stL
  rw [List.range_succ, List.map_append]
  rfl
theorem stL_len (p : Prt) (n : Nat) : (stL p n).length = n + 1 := by unfold stL; rw [List.length_map, List.length_range]
theorem stL_get (p : Prt) {n j : Nat} (h : j ≤ n) : (stL p n)[j]? = some (.int (startN p j)) := by
  unfold stL
  rw [List.getElem?_map, List.getElem?_range (by omega)]
  rfl
theorem stL_last (p : Prt) (n : Nat) : atI (stL p n) (-1) = some (.int (startN p n)) := by
  match n with
  | 0 => exact atI_last [] _
  | n + 1 => rw [stL_succ]; exact atI_last _ _
/-- what the seen places' dict holds -/
def Seen (p : Prt) (n : Nat) (kvs : List (Key × V)) : Prop := kvs.length ≤ n ∧ (∀ j, j < n → valV kvs (.inl (resN p j : Int)) = some (.int j)) ∧ ∀ k : Int, valV kvs (.inl k) ≠ none → ∃ j, j < n ∧ k = (resN p j : Int)
theorem Seen.put {p : Prt} {n : Nat} {kvs : List (Key × V)} (s : Seen p n kvs) (h : valV kvs (.inl (resN p n : Int)) = none) : Seen p (n + 1) (putK kvs (.inl (resN p n : Int)) (.int n)) := by
  obtain ⟨s1, s2, s3⟩ := s
  refine ⟨Nat.le_trans (length_putK _ _ _) (by omega), fun j hj => ?_, fun k hk => ?_⟩
  · rw [valV_put]
    by_cases e : (Sum.inl (resN p j : Int) : Key) = Sum.inl (resN p n : Int)
    · rw [if_pos e]
      by_cases hjn : j = n
      · subst hjn; rfl
      · have := s2 j (by omega)
        rw [e, h] at this
        cases this
    · rw [if_neg e]
      have hjn : j ≠ n := fun z => e (by rw [z])
      exact s2 j (by omega)
  · rw [valV_put] at hk
    by_cases e : (Sum.inl k : Key) = Sum.inl (resN p n : Int)
    · exact ⟨n, by omega, Sum.inl.inj e⟩
    · rw [if_neg e] at hk
      obtain ⟨j, hj, ej⟩ := s3 k hk
      exact ⟨j, by omega, ej⟩
theorem at_len {p : Prt} (ok : p.Ok) (r : Nat) : atI (p.lens.map V.int) ((r : Int) % ((p.lens.map V.int).length : Int)) = some (.int (lenAt p r)) := by
  have hlt : r % p.lens.length < p.lens.length := Nat.mod_lt _ ok.l0
  refine atI_int (j := r % p.lens.length) ?_ ?_
  · rw [List.length_map]
    exact (Int.natCast_emod r p.lens.length).symm
  · rw [List.getElem?_map, List.getElem?_eq_getElem hlt]
    unfold lenAt
    rw [List.getD_eq_getElem?_getD, List.getElem?_eq_getElem hlt]
    rfl
theorem mlen0 {p : Prt} (ok : p.Ok) : (0 : Int) < ((p.lens.map V.int).length : Int) := by rw [List.length_map]; have := ok.l0; omega
theorem res_step {p : Prt} (ok : p.Ok) {i j : Nat} (h : resN p i = resN p j) : resN p (i + 1) = resN p (j + 1) := by
  unfold resN at h ⊢
  simp only [startN]
  rw [rowsF_mod ok h, Nat.add_mod, h, ← Nat.add_mod]
theorem res_add {p : Prt} (ok : p.Ok) {i j : Nat} (h : resN p i = resN p j) : ∀ k, resN p (i + k) = resN p (j + k)
  | 0 => h
  | k + 1 => res_step ok (res_add ok h k)
theorem Cyc.per {p : Prt} (ok : p.Ok) {first pages : Nat} (c : Cyc p first pages) {n : Nat} (h : first ≤ n) : resN p (n + pages) = resN p n := by
  have e := res_add ok c.eq (n - first)
  have e1 : first + pages + (n - first) = n + pages := by omega
  have e2 : first + (n - first) = n := by omega
  rw [e1, e2] at e
  exact e
theorem Cyc.red {p : Prt} (ok : p.Ok) {first pages : Nat} (c : Cyc p first pages) : ∀ n, first ≤ n → ∃ r, first ≤ r ∧ r < first + pages ∧ resN p n = resN p r := by
  intro n
  induction n using Nat.strongRecOn with
  | ind n ih =>
    intro h
    by_cases hl : n < first + pages
    · exact ⟨n, h, hl, rfl⟩
    · have hp := c.pos
      obtain ⟨r, h1, h2, h3⟩ := ih (n - pages) (by omega) (by omega)
      refine ⟨r, h1, h2, ?_⟩
      have := c.per ok (n := n - pages) (by omega)
      rw [show n - pages + pages = n by omega] at this
      rw [this, h3]
theorem Cyc.before {p : Prt} (ok : p.Ok) {first pages : Nat} (c : Cyc p first pages) {f g : Nat} (h : f < first) (hg : 1 ≤ g) : resN p f ≠ resN p (f + g) := by
  by_cases hl : f + g < first + pages
  · exact c.inj f (f + g) (by omega) hl
  · obtain ⟨r, h1, h2, h3⟩ := c.red ok (f + g) (by have := c.pos; omega)
    rw [h3]
    exact c.inj f r (by omega) h2
theorem Cyc.less {p : Prt} {first pages : Nat} (c : Cyc p first pages) {g : Nat} (hg : 1 ≤ g) (h : g < pages) : resN p first ≠ resN p (first + g) := c.inj _ _ (by omega) (by omega)
/-! ### far pages -/
theorem start_lt {p : Prt} (ok : p.Ok) (n : Nat) : startN p n < startN p (n + 1) := by
  have := rowsF_pos ok (startN p n)
  simp only [startN]
  omega
theorem start_mono {p : Prt} (ok : p.Ok) {m n : Nat} (h : m ≤ n) : startN p m ≤ startN p n := by
  induction n with
  | zero => have : m = 0 := by omega
            subst this; exact Nat.le_refl _
  | succ n ih =>
    by_cases e : m = n + 1
    · subst e; exact Nat.le_refl _
    · exact Nat.le_trans (ih (by omega)) (Nat.le_of_lt (start_lt ok n))
theorem start_ge {p : Prt} (ok : p.Ok) : ∀ n : Nat, n ≤ startN p n
  | 0 => Nat.zero_le _
  | n + 1 => by have := start_ge ok n; have := start_lt ok n; omega
noncomputable def rowsC (p : Prt) (first pages : Nat) : Nat := startN p (first + pages) - startN p first
theorem rowsC_pos {p : Prt} (ok : p.Ok) {first pages : Nat} (c : Cyc p first pages) : 0 < rowsC p first pages := by
  have h1 := start_lt ok first
  have h2 := start_mono ok (show first + 1 ≤ first + pages by have := c.pos; omega)
  unfold rowsC
  omega
theorem start_le {p : Prt} (ok : p.Ok) : ∀ n, startN p n ≤ 64 * n
  | 0 => Nat.le_refl _
  | n + 1 => by have := start_le ok n; have := rowsF_le ok (startN p n); simp only [startN]; omega
theorem rowsC_le {p : Prt} (ok : p.Ok) {first pages : Nat} (c : Cyc p first pages) : rowsC p first pages ≤ 384 := by
  have h1 := start_le ok (first + pages)
  have h2 := c.le ok
  unfold rowsC
  omega
theorem start_per {p : Prt} (ok : p.Ok) {first pages : Nat} (c : Cyc p first pages) {n : Nat} (h : first ≤ n) : startN p (n + pages) = startN p n + rowsC p first pages := by
  have key : ∀ k, startN p (first + k + pages) = startN p (first + k) + rowsC p first pages := by
    intro k
    induction k with
    | zero =>
      have := start_mono ok (show first ≤ first + pages by omega)
      show startN p (first + pages) = startN p first + (startN p (first + pages) - startN p first)
      omega
    | succ k ih =>
      have e : rowsF p (startN p (first + k + pages)) = rowsF p (startN p (first + k)) := rowsF_mod ok (c.per ok (n := first + k) (by omega))
      have e1 : first + (k + 1) + pages = (first + k + pages) + 1 := by omega
      rw [e1]
      simp only [startN]
      rw [e, ih]
      show startN p (first + k) + rowsC p first pages + rowsF p (startN p (first + k)) = startN p (first + k) + rowsF p (startN p (first + k)) + rowsC p first pages
      omega
  have := key (n - first)
  rw [show first + (n - first) = n by omega] at this
  exact this
theorem start_times {p : Prt} (ok : p.Ok) {first pages : Nat} (c : Cyc p first pages) {n : Nat} (h : first ≤ n) : ∀ t, startN p (n + t * pages) = startN p n + t * rowsC p first pages
  | 0 => by simp
  | t + 1 => by
    have e : n + (t + 1) * pages = n + t * pages + pages := by rw [Nat.succ_mul]; omega
    rw [e, start_per ok c (by omega), start_times ok c h t, Nat.succ_mul]
    omega
/-- row r stands on page n -/
def On (p : Prt) (r n : Nat) : Prop := startN p n ≤ r ∧ r < startN p (n + 1)
theorem On.uniq {p : Prt} (ok : p.Ok) {r m n : Nat} (a : On p r m) (b : On p r n) : m = n := by
  by_cases h : m < n
  · have := start_mono ok (show m + 1 ≤ n by omega)
    have := a.2; have := b.1; omega
  · by_cases h2 : n < m
    · have := start_mono ok (show n + 1 ≤ m by omega)
      have := b.2; have := a.1; omega
    · omega
theorem On.le {p : Prt} (ok : p.Ok) {r n : Nat} (a : On p r n) : n ≤ r := Nat.le_trans (start_ge ok n) a.1
def pkMeths : List Str := ["length", "rows_from", "start", "holder", "check_page", "units_of", "first_row", "page_of", "rows_on", "units_on", "units_left", "begun", "cycle"]
/-- a Packing, as far as its first fields go -/
structure PkB (K : PySem.W.Frag) (H : Hp) (a : Addr) (p : Prt) (dx : Addr) (fs : List (Str × V)) (t : Addr) : Prop where
  h : H a = some (.ins (He.ga K "Packing") dx fs)
  l : fs.lookup ("row_lengths" : Str) = some (V.ref t)
  r : fs.lookup ("room" : Str) = some (V.int p.size)
  m : ∀ x ∈ pkMeths, fs.lookup x = none
  t : H t = some (.tup (p.lens.map V.int))
def PkBase (K : PySem.W.Frag) (H : Hp) (a : Addr) (p : Prt) : Prop := ∃ dx fs t, PkB K H a p dx fs t
theorem PkBase.same {K : PySem.W.Frag} {H H' : Hp} {a : Addr} {p : Prt} (h : PkBase K H a p) (s : Same H H') : PkBase K H' a p := let ⟨dx, fs, t, b⟩ := h; ⟨dx, fs, t, s _ _ b.h, b.l, b.r, b.m, s _ _ b.t⟩
@[irreducible] def sp_Packing_length (K : PySem.W.Frag) : Sp := fun vs H Q _ => ∃ (a : Addr) (p : Prt) (r : Nat), vs = [.ref a, .int r] ∧ PkBase K H a p ∧ p.Ok ∧ Q (.int (lenAt p r)) H
theorem use_length {K : PySem.W.Frag} {a : Addr} {p : Prt} {r : Nat} {H : Hp} {Q : VK} {E : XK} {i : Int} (hi : i = (r : Int)) (b : PkBase K H a p) (ok : p.Ok) (q : Q (.int (lenAt p r)) H) : sp_Packing_length K [.ref a, .int i] H Q E := by
  subst hi; unfold sp_Packing_length; exact ⟨a, p, r, rfl, b, ok, q⟩
theorem b_Packing_length {K : PySem.W.Frag} {fd : FuncData} (F : F_Packing_length K fd) : Binds K fd P_Packing_length [] := FunD.bindsN F fun _ _ _ _ _ _ us hl => match us, hl with | [_, _], _ => rfl
theorem ok_Packing_length (T : Txt K mg base D) : FnOk P w K mg base CX0 1 (He.fAd K ("Packing", some "length")) (D D_Packing_length) P_Packing_length (sp_Packing_length K) := by
  refine T.d_Packing_length.ok sc_Packing_length (fun vs H Q E h => ?_) (fun cdv A outer s H vs Q E hr h => ?_)
  · unfold sp_Packing_length at h
    first | (obtain ⟨rfl, _⟩ := h; rfl) | (obtain ⟨_, rfl, _⟩ := h; rfl) | (obtain ⟨_, _, rfl, _⟩ := h; rfl) | (obtain ⟨_, _, _, rfl, _⟩ := h; rfl) | (obtain ⟨_, _, _, _, rfl, _⟩ := h; rfl) | (obtain ⟨_, _, _, _, _, rfl, _⟩ := h; rfl) | (obtain ⟨_, _, _, _, _, _, rfl, _⟩ := h; rfl) | (obtain ⟨_, _, _, _, _, _, _, rfl, _⟩ := h; rfl) | (obtain ⟨_, _, _, _, _, _, _, _, rfl, _⟩ := h; rfl) | (obtain ⟨_, _, _, _, _, _, _, _, _, rfl, _⟩ := h; rfl) | (obtain ⟨_, _, _, _, _, _, _, _, _, _, rfl, _⟩ := h; rfl) | (obtain ⟨_, _, _, _, _, _, _, _, _, _, _, rfl, _⟩ := h; rfl)
  · refine ⟨_, PSs.nox (pss_one (ps_ret (pe_ix (ix_tupK (K := K)) (pe_fldK (K := K) (pv 0) rfl) (pe_op op_mod (pv 1) (pe_callB (call_lenK (K := K)) (by rfl) T.n_len (by decide +kernel) (pa_cons (pe_fldK (K := K) (pv 0) rfl) pa_nil))) (fun _ _ => rfl)))), ?_⟩
    unfold sp_Packing_length at h
    obtain ⟨a, p, r, rfl, ⟨dx, fs, t, hb⟩, ok, q⟩ := h
    have h1 := hb.h
    have h2 := hb.l
    have h3 := hb.t
    have hl := ok.l0
    walk_at "rd"
    refine ⟨(by show (0 : Int) < ((p.lens.map V.int).length : Nat); rw [List.length_map]; omega), ?_⟩
    have hlt : r % p.lens.length < p.lens.length := Nat.mod_lt _ hl
    refine ⟨_, _, _, .int (lenAt p r), rfl, rfl, SqT.of h3, atI_int (j := r % p.lens.length) ?_ ?_, q⟩
    · rw [List.length_map]
      exact (Int.natCast_emod r p.lens.length).symm
    · rw [List.getElem?_map, List.getElem?_eq_getElem hlt]
      unfold lenAt
      rw [List.getD_eq_getElem?_getD, List.getElem?_eq_getElem hlt]
      rfl

@[irreducible] def sp_Packing_rows_from (K : PySem.W.Frag) : Sp := fun vs H Q _ => ∃ (a : Addr) (p : Prt) (r : Nat), vs = [.ref a, .int r] ∧ PkBase K H a p ∧ p.Ok ∧ ∀ H', Same H H' → Q (.int (rowsF p r)) H'
theorem use_rows_from {K : PySem.W.Frag} {a : Addr} {p : Prt} {r : Nat} {H : Hp} {Q : VK} {E : XK} {i : Int} (hi : i = (r : Int)) (b : PkBase K H a p) (ok : p.Ok) (q : ∀ H', Same H H' → Q (.int (rowsF p r)) H') : sp_Packing_rows_from K [.ref a, .int i] H Q E := by
  subst hi; unfold sp_Packing_rows_from; exact ⟨a, p, r, rfl, b, ok, q⟩
theorem b_Packing_rows_from {K : PySem.W.Frag} {fd : FuncData} (F : F_Packing_rows_from K fd) : Binds K fd P_Packing_rows_from [] := FunD.bindsN F fun _ _ _ _ _ _ us hl => match us, hl with | [_, _], _ => rfl
theorem ok_Packing_rows_from (T : Txt K mg base D) : FnOk P w K mg base CX0 2 (He.fAd K ("Packing", some "rows_from")) (D D_Packing_rows_from) P_Packing_rows_from (sp_Packing_rows_from K) := by
  refine T.d_Packing_rows_from.ok sc_Packing_rows_from (fun vs H Q E h => ?_) (fun cdv A outer s H vs Q E hr h => ?_)
  · unfold sp_Packing_rows_from at h
    first | (obtain ⟨rfl, _⟩ := h; rfl) | (obtain ⟨_, rfl, _⟩ := h; rfl) | (obtain ⟨_, _, rfl, _⟩ := h; rfl) | (obtain ⟨_, _, _, rfl, _⟩ := h; rfl) | (obtain ⟨_, _, _, _, rfl, _⟩ := h; rfl) | (obtain ⟨_, _, _, _, _, rfl, _⟩ := h; rfl) | (obtain ⟨_, _, _, _, _, _, rfl, _⟩ := h; rfl) | (obtain ⟨_, _, _, _, _, _, _, rfl, _⟩ := h; rfl) | (obtain ⟨_, _, _, _, _, _, _, _, rfl, _⟩ := h; rfl) | (obtain ⟨_, _, _, _, _, _, _, _, _, rfl, _⟩ := h; rfl) | (obtain ⟨_, _, _, _, _, _, _, _, _, _, rfl, _⟩ := h; rfl) | (obtain ⟨_, _, _, _, _, _, _, _, _, _, _, rfl, _⟩ := h; rfl)
  · refine ⟨_, PSs.nox (pss_cons (ps_asg (pe_tup (pa_cons pe_int (pa_cons pe_int pa_nil))) (pg_tup rfl (pgs_cons (pg_name (i := 2) sc_Packing_rows_from.nd rfl (Or.inl rfl)) (pgs_cons (pg_name (i := 3) sc_Packing_rows_from.nd rfl (Or.inl rfl)) pgs_nil))))
      (pss_cons (ps_while PassesOwn.never (pt_cmpR op_le (pe_op op_add (pv 3) (pe_meth (pv 0) T.c_Packing T.m_Packing_length (ok_Packing_length T) (hr.mono (by decide)) (b_Packing_length T.d_Packing_length) .nil pass0 (pa_cons (pe_op op_add (pv 1) (pv 2)) pa_nil))) (pe_fldK (K := K) (pv 0) rfl) (nomark _)) (pss_cons (ps_aug (i := 3) sc_Packing_rows_from.nd rfl (Or.inl rfl) (pe_meth (pv 0) T.c_Packing T.m_Packing_length (ok_Packing_length T) (hr.mono (by decide)) (b_Packing_length T.d_Packing_length) .nil pass0 (pa_cons (pe_op op_add (pv 1) (pv 2)) pa_nil)) ip_add)
      (pss_one (ps_aug (i := 2) sc_Packing_rows_from.nd rfl (Or.inl rfl) pe_int ip_add))))
      (pss_one (ps_ret (pv 2))))), ?_⟩
    unfold sp_Packing_rows_from at h
    obtain ⟨a, p, r, rfl, b, ok, q⟩ := h
    obtain ⟨dx, fs, t, hb⟩ := id b
    have h1 := hb.h
    have h2 := hb.r
    have h3 := hb.m "length" (by decide)
    walk_at "rd"
    intro t0 n0
    generalize eH0 : upd _ t0 _ = H0
    obtain ⟨s0, ht0⟩ := gen_new n0 eH0
    clear eH0
    have h1 := s0 _ _ h1
    have b := b.same s0
    have q : Q (.int (rowsF p r)) H0 := q H0 s0
    walk_at "rd"
    refine ⟨fun m σ H' => ∃ k : Nat, H' = H0 ∧ σ = [some (.ref a), some (.int r), some (.int k), some (.int (usum p r k))] ∧ usum p r k ≤ p.size ∧ m = 65 - k, ⟨65, 0, rfl, rfl, by simp only [usum]; have := ok.s0; omega, rfl⟩, ?_⟩
    rintro m σ H' ⟨k, rfl, rfl, hk, rfl⟩
    walk_at "rd"
    refine use_length (r := r + k) (by omega) b ok ?_
    walk_at "rd"
    refine iteB (fun c => ?_) (fun c => ?_)
    · have c := of_decide_eq_true c
      have hk2 : usum p r (k + 1) ≤ p.size := c
      have hk3 := usum_ge ok r (k + 1)
      have hs := ok.s1
      refine ⟨fun σ' H'' => ∃ m', m' < 65 - k ∧ ∃ k : Nat, H'' = H' ∧ σ' = [some (.ref a), some (.int r), some (.int k), some (.int (usum p r k))] ∧ usum p r k ≤ p.size ∧ m' = 65 - k, fun _ _ h => h, ?_⟩
      walk_at "rd"
      refine use_length (r := r + k) (by omega) b ok ?_
      walk_at "rd"
      exact ⟨65 - (k + 1), by omega, k + 1, rfl, rfl, hk2, rfl⟩
    · have c := of_decide_eq_false c
      walk_at "rd"
      have e : rowsF p r = k := rowsF_eq ok ⟨hk, by simp only [usum]; omega⟩
      rw [e] at q
      exact q

@[irreducible] def sp_check_settings (K : PySem.W.Frag) : Sp := fun vs H Q _ => ∃ (a dx : Addr) (fs : List (Str × V)), vs = [.ref a] ∧ H a = some (.ins (He.ga K "Settings") dx fs) ∧ Q .non H
theorem use_check_settings {K : PySem.W.Frag} {a dx : Addr} {fs : List (Str × V)} {H : Hp} {Q : VK} {E : XK} (h : H a = some (.ins (He.ga K "Settings") dx fs)) (q : Q .non H) : sp_check_settings K [.ref a] H Q E := by
  unfold sp_check_settings; exact ⟨a, dx, fs, rfl, h, q⟩
theorem b_check_settings {K : PySem.W.Frag} {fd : FuncData} (F : F_check_settings K fd) : Binds K fd P_check_settings [] := FunD.bindsN F fun _ _ _ _ _ _ us hl => match us, hl with | [_], _ => rfl
theorem ok_check_settings (T : Txt K mg base D) : FnOk P w K mg base CX0 1 (He.fAd K ("check_settings", none)) (D D_check_settings) P_check_settings (sp_check_settings K) := by
  refine T.d_check_settings.ok sc_check_settings (fun vs H Q E h => ?_) (fun cdv A outer s H vs Q E hr h => ?_)
  · unfold sp_check_settings at h
    first | (obtain ⟨rfl, _⟩ := h; rfl) | (obtain ⟨_, rfl, _⟩ := h; rfl) | (obtain ⟨_, _, rfl, _⟩ := h; rfl) | (obtain ⟨_, _, _, rfl, _⟩ := h; rfl) | (obtain ⟨_, _, _, _, rfl, _⟩ := h; rfl) | (obtain ⟨_, _, _, _, _, rfl, _⟩ := h; rfl) | (obtain ⟨_, _, _, _, _, _, rfl, _⟩ := h; rfl) | (obtain ⟨_, _, _, _, _, _, _, rfl, _⟩ := h; rfl) | (obtain ⟨_, _, _, _, _, _, _, _, rfl, _⟩ := h; rfl) | (obtain ⟨_, _, _, _, _, _, _, _, _, rfl, _⟩ := h; rfl) | (obtain ⟨_, _, _, _, _, _, _, _, _, _, rfl, _⟩ := h; rfl) | (obtain ⟨_, _, _, _, _, _, _, _, _, _, _, rfl, _⟩ := h; rfl)
  · refine ⟨_, PSs.nox (pss_one (ps_if (pt_not (pt_val (pe_callB (call_isiK2 (K := K)) (by rfl) T.n_isinstance (by decide +kernel) (pa_cons (pv 0) (pa_cons (pe_glob (v := .ref (He.ga K "Settings")) rfl T.g_Settings rfl) pa_nil))))) (pss_one ps_never) pss_nil)), ?_⟩
    unfold sp_check_settings at h
    obtain ⟨a, dx, fs, rfl, ha, q⟩ := h
    walk_at "rd"
    refine isi_own ha T.c_Settings T.ic_Settings T.kk_Settings_Settings ?_
    walk_at "rd"
    exact q

/-- a whole Packing -/
def PkAt (K : PySem.W.Frag) (H : Hp) (a : Addr) (p : Prt) (first pages : Nat) : Prop := ∃ dx t l, H a = some (.ins (He.ga K "Packing") dx [("row_lengths", .ref t), ("room", .int p.size), ("starts", .ref l), ("first", .int first), ("pages", .int pages), ("rows", .int ((startN p (first + pages) : Int) - startN p first))]) ∧
  H t = some (.tup (p.lens.map V.int)) ∧ H l = some (.lst (stL p (first + pages)))
theorem PkAt.same {K : PySem.W.Frag} {H H' : Hp} {a : Addr} {p : Prt} {first pages : Nat} (h : PkAt K H a p first pages) (s : Same H H') : PkAt K H' a p first pages := let ⟨dx, t, l, h1, h2, h3⟩ := h; ⟨dx, t, l, s _ _ h1, s _ _ h2, s _ _ h3⟩
@[irreducible] def sp_Packing_init (K : PySem.W.Frag) : Sp := fun vs H Q _ => ∃ (a dx b : Addr) (p : Prt), vs = [.ref a, .ref b] ∧ H a = some (.ins (He.ga K "Packing") dx []) ∧ SetAt K H b p ∧ p.Ok ∧
  ∀ H' first pages, SB a H H' → Cyc p first pages → PkAt K H' a p first pages → (∀ s xs H'', H s = some (.lst xs) → SB s H' H'' → PkAt K H'' a p first pages) → Q .non H'
theorem use_packing_init {K : PySem.W.Frag} {a dx b : Addr} {p : Prt} {H : Hp} {Q : VK} {E : XK} (h : H a = some (.ins (He.ga K "Packing") dx [])) (hb : SetAt K H b p) (ok : p.Ok)
  (k : ∀ H' first pages, SB a H H' → Cyc p first pages → PkAt K H' a p first pages → (∀ s xs H'', H s = some (.lst xs) → SB s H' H'' → PkAt K H'' a p first pages) → Q .non H') : sp_Packing_init K [.ref a, .ref b] H Q E := by
  unfold sp_Packing_init; exact ⟨a, dx, b, p, rfl, h, hb, ok, k⟩
theorem b_Packing___init__ {K : PySem.W.Frag} {fd : FuncData} (F : F_Packing___init__ K fd) : Binds K fd P_Packing___init__ [] := FunD.bindsN F fun _ _ _ _ _ _ us hl => match us, hl with | [_, _], _ => rfl
theorem ok_Packing___init__ (T : Txt K mg base D) : FnOk P w K mg base CX0 3 (He.fAd K ("Packing", some "__init__")) (D D_Packing___init__) P_Packing___init__ (sp_Packing_init K) := by
  refine T.d_Packing___init__.ok sc_Packing___init__ (fun vs H Q E h => ?_) (fun cdv A outer s H vs Q E hr h => ?_)
  · unfold sp_Packing_init at h
    first | (obtain ⟨rfl, _⟩ := h; rfl) | (obtain ⟨_, rfl, _⟩ := h; rfl) | (obtain ⟨_, _, rfl, _⟩ := h; rfl) | (obtain ⟨_, _, _, rfl, _⟩ := h; rfl) | (obtain ⟨_, _, _, _, rfl, _⟩ := h; rfl) | (obtain ⟨_, _, _, _, _, rfl, _⟩ := h; rfl) | (obtain ⟨_, _, _, _, _, _, rfl, _⟩ := h; rfl) | (obtain ⟨_, _, _, _, _, _, _, rfl, _⟩ := h; rfl) | (obtain ⟨_, _, _, _, _, _, _, _, rfl, _⟩ := h; rfl) | (obtain ⟨_, _, _, _, _, _, _, _, _, rfl, _⟩ := h; rfl) | (obtain ⟨_, _, _, _, _, _, _, _, _, _, rfl, _⟩ := h; rfl) | (obtain ⟨_, _, _, _, _, _, _, _, _, _, _, rfl, _⟩ := h; rfl)
  · refine ⟨_, PSs.nox (pss_cons (ps_expr (pe_call (ok_check_settings T) (hr.mono (by decide)) rfl T.g_check_settings T.d_check_settings.kp (b_check_settings T.d_check_settings) .nil pass0 (pa_cons (pv 1) pa_nil)))
      (pss_cons (ps_fld (pv 0) (pe_fldK (K := K) (pv 1) rfl) rfl)
      (pss_cons (ps_fld (pv 0) (pe_fldK (K := K) (pv 1) rfl) rfl)
      (pss_cons (ps_fld (pv 0) (pe_lst (pa_cons pe_int pa_nil)) rfl)
      (pss_cons (ps_set (i := 2) sc_Packing___init__.nd rfl (Or.inl rfl) pe_dnewK)
      (pss_cons (ps_while PassesOwn.never (pt_cmp (pc_dnotin (hu_of hr) (pe_op op_mod (pe_ix (ix_listK (K := K)) (pe_fldK (K := K) (pv 0) rfl) (pe_un un_neg pe_int) (fun _ _ => rfl)) (pe_callB (call_lenK (K := K)) (by rfl) T.n_len (by decide +kernel) (pa_cons (pe_fldK (K := K) (pv 0) rfl) pa_nil))) (pv 2))) (pss_cons (ps_dput (hu_of hr) (pv 2) (pe_op op_mod (pe_ix (ix_listK (K := K)) (pe_fldK (K := K) (pv 0) rfl) (pe_un un_neg pe_int) (fun _ _ => rfl)) (pe_callB (call_lenK (K := K)) (by rfl) T.n_len (by decide +kernel) (pa_cons (pe_fldK (K := K) (pv 0) rfl) pa_nil))) (pe_op op_sub (pe_callB (call_lenK (K := K)) (by rfl) T.n_len (by decide +kernel) (pa_cons (pe_fldK (K := K) (pv 0) rfl) pa_nil)) pe_int) rfl)
      (pss_one (ps_expr (pe_bm PySem.F.plainAttrs_list PySem.F.slot_list_append PySem.F.type_list_append mt_append (pe_fldK (K := K) (pv 0) rfl) (pa_cons (pe_op op_add (pe_ix (ix_listK (K := K)) (pe_fldK (K := K) (pv 0) rfl) (pe_un un_neg pe_int) (fun _ _ => rfl)) (pe_meth (pv 0) T.c_Packing T.m_Packing_rows_from (ok_Packing_rows_from T) (hr.mono (by decide)) (b_Packing_rows_from T.d_Packing_rows_from) .nil pass0 (pa_cons (pe_ix (ix_listK (K := K)) (pe_fldK (K := K) (pv 0) rfl) (pe_un un_neg pe_int) (fun _ _ => rfl)) pa_nil))) pa_nil))))))
      (pss_cons (ps_fld (pv 0) (pe_dget (hu_of hr) (pv 2) (pe_op op_mod (pe_ix (ix_listK (K := K)) (pe_fldK (K := K) (pv 0) rfl) (pe_un un_neg pe_int) (fun _ _ => rfl)) (pe_callB (call_lenK (K := K)) (by rfl) T.n_len (by decide +kernel) (pa_cons (pe_fldK (K := K) (pv 0) rfl) pa_nil))) (fun _ _ => rfl)) rfl)
      (pss_cons (ps_fld (pv 0) (pe_op op_sub (pe_op op_sub (pe_callB (call_lenK (K := K)) (by rfl) T.n_len (by decide +kernel) (pa_cons (pe_fldK (K := K) (pv 0) rfl) pa_nil)) pe_int) (pe_fldK (K := K) (pv 0) rfl)) rfl)
      (pss_one (ps_fld (pv 0) (pe_op op_sub (pe_ix (ix_listK (K := K)) (pe_fldK (K := K) (pv 0) rfl) (pe_un un_neg pe_int) (fun _ _ => rfl)) (pe_ix (ix_listK (K := K)) (pe_fldK (K := K) (pv 0) rfl) (pe_fldK (K := K) (pv 0) rfl) (fun _ _ => rfl))) rfl)))))))))), ?_⟩
    unfold sp_Packing_init at h
    obtain ⟨a, dx, b, p, rfl, ha, ⟨dy, t, hb, ht⟩, ok, k⟩ := h
    have l0 := ok.l0
    have l1 := ok.l1
    have nab : a ≠ b := ne_of ha hb (by intro z; injection z with _ _ z3; cases z3)
    have nat : t ≠ a := ne_of ht ha (by intro z; cases z)
    walk_at "rd"
    refine use_check_settings hb ?_
    walk_at "rd"
    generalize eG1 : upd _ _ _ = G1
    obtain ⟨g1, h1⟩ := gen_st eG1
    clear eG1
    try simp only [pf_Settings_0, pf_Settings_1, pf_Settings_2, pf_Settings_3, pf_Settings_4, pf_Settings_5, pf_Packing_0, pf_Packing_1, pf_Packing_2, pf_Packing_3, pf_Packing_4, pf_Packing_5] at h1
    have hb1 := g1 _ _ nab.symm hb
    walk_at "rd"
    generalize eG2 : upd _ _ _ = G2
    obtain ⟨g2, h2⟩ := gen_st eG2
    clear eG2
    try simp only [pf_Settings_0, pf_Settings_1, pf_Settings_2, pf_Settings_3, pf_Settings_4, pf_Settings_5, pf_Packing_0, pf_Packing_1, pf_Packing_2, pf_Packing_3, pf_Packing_4, pf_Packing_5] at h2
    walk_at "rd"
    intro l n3
    generalize eG3 : upd _ l _ = G3
    obtain ⟨g3, h3⟩ := gen_new n3 eG3
    clear eG3
    have h23 := g3 _ _ h2
    have nla : l ≠ a := (ne_of_none h2 n3).symm
    walk_at "rd"
    generalize eG4 : upd _ _ _ = G4
    obtain ⟨g4, h4⟩ := gen_st eG4
    clear eG4
    try simp only [pf_Settings_0, pf_Settings_1, pf_Settings_2, pf_Settings_3, pf_Settings_4, pf_Settings_5, pf_Packing_0, pf_Packing_1, pf_Packing_2, pf_Packing_3, pf_Packing_4, pf_Packing_5] at h4
    have h34 := g4 _ _ nla h3
    walk_at "rd"
    intro d n5
    generalize eG5 : upd _ d _ = G5
    obtain ⟨g5, h5⟩ := gen_new n5 eG5
    clear eG5
    have h45 := g5 _ _ h4
    have h35 := g5 _ _ h34
    have nda : d ≠ a := (ne_of_none h4 n5).symm
    have ndl : d ≠ l := (ne_of_none h34 n5).symm
    have ht5 := g5 _ _ (g4 _ _ nat (g3 _ _ (g2 _ _ nat (g1 _ _ nat ht))))
    have ntl : t ≠ l := ne_of ht5 h35 (by intro z; cases z)
    have ntd : t ≠ d := ne_of ht5 h5 (by intro z; cases z)
    have fro : ∀ H', SX [l, d] G5 H' → H' a = some (.ins (He.ga K "Packing") dx [(("row_lengths" : Str), V.ref t), (("room" : Str), V.int p.size), (("starts" : Str), V.ref l)]) ∧ H' t = some (.tup (p.lens.map V.int)) := fun H' f => ⟨f _ _ (by simp [nla.symm, nda.symm]) h45, f _ _ (by simp [ntl, ntd]) ht5⟩
    walk_at "rd"
    refine ⟨fun m σ H' => ∃ (n : Nat) (kvs : List (Key × V)), σ = [some (.ref a), some (.ref b), some (.ref d)] ∧ SX [l, d] G5 H' ∧ H' l = some (.lst (stL p n)) ∧ H' d = some (.dK kvs) ∧ Seen p n kvs ∧
      (∀ i j, i < j → j < n → resN p i ≠ resN p j) ∧ n ≤ 6 ∧ m = 7 - n, ⟨7, 0, [], rfl, SX.refl, h35, h5, ⟨Nat.le_refl _, fun j hj => absurd hj (by omega), fun k hk => absurd rfl hk⟩, fun i j _ hj => absurd hj (by omega), by omega, rfl⟩, ?_⟩
    rintro m σ H' ⟨n, kvs, rfl, fx, hl, hd, hs, inj, hn, rfl⟩
    obtain ⟨ha', ht'⟩ := fro _ fx
    have base : ∀ G, Same H' G → PkBase K G a p := fun G g => ⟨dx, _, t, g _ _ ha', by kernel_rfl, by kernel_rfl, none_all (by kernel_rfl), g _ _ ht'⟩
    walk_at "rd"
    have elen : ((p.lens.map V.int).length : Int) = (p.lens.length : Int) := by rw [List.length_map]
    have eres : (startN p n : Int) % ((p.lens.map V.int).length : Int) = (resN p n : Int) := by rw [elen]; exact (Int.natCast_emod _ _).symm
    have e0 : (0 : Int) < ((p.lens.map V.int).length : Int) := by rw [elen]; omega
    refine ⟨_, _, _, _, rfl, rfl, SqL.of hl, stL_last p n, ?_⟩
    walk_at "rd"
    have hg : ∀ G, G d = some (.dK kvs) → DGet G d (.int ((startN p n : Int) % ((p.lens.map V.int).length : Int))) (valV kvs (Sum.inl (resN p n : Int))) := fun G h => by
      rw [eres]; exact DGet.k (k := Sum.inl (resN p n : Int)) h
    refine ⟨_, _, rfl, hg _ hd, ?_⟩
    walk_at "rd"
    cases hv : valV kvs (Sum.inl (resN p n : Int)) with
    | none =>
      refine iteT ?_
      have inj2 : ∀ i j, i < j → j < n + 1 → resN p i ≠ resN p j := fun i j hij hj => by
        by_cases hjn : j = n
        · subst hjn
          intro z
          have := hs.2.1 i hij
          rw [z, hv] at this
          cases this
        · exact inj i j hij (by omega)
      have hn7 : n + 1 ≤ 6 := Nat.le_trans (pigeon p.lens.length (n + 1) (resN p) (fun i _ => resN_lt ok i) inj2) ok.l1
      refine ⟨fun σ' H'' => ∃ m', m' < 7 - n ∧ ∃ (n : Nat) (kvs : List (Key × V)), σ' = [some (.ref a), some (.ref b), some (.ref d)] ∧ SX [l, d] G5 H'' ∧ H'' l = some (.lst (stL p n)) ∧ H'' d = some (.dK kvs) ∧ Seen p n kvs ∧
        (∀ i j, i < j → j < n → resN p i ≠ resN p j) ∧ n ≤ 6 ∧ m' = 7 - n, fun _ _ h => h, ?_⟩
      walk_at "rd"
      refine ⟨_, _, _, _, rfl, rfl, SqL.of hl, stL_last p n, ?_⟩
      walk_at "rd"
      have hput : DPut H' d (.int ((startN p n : Int) % ((p.lens.map V.int).length : Int))) (.int (((stL p n).length : Int) - 1)) (upd H' d (.dK (putK kvs (Sum.inl (resN p n : Int)) (.int n)))) := by
        have e2 : ((stL p n).length : Int) - 1 = (n : Int) := by rw [stL_len]; omega
        rw [eres, e2]
        exact DPut.k (k := Sum.inl (resN p n : Int)) hd (szlt (Nat.le_trans hs.1 (by omega)))
      refine ⟨_, _, rfl, hput, ?_⟩
      generalize eG7 : upd _ _ _ = G7
      obtain ⟨g7, h7⟩ := gen_st eG7
      clear eG7
      try simp only [pf_Settings_0, pf_Settings_1, pf_Settings_2, pf_Settings_3, pf_Settings_4, pf_Settings_5, pf_Packing_0, pf_Packing_1, pf_Packing_2, pf_Packing_3, pf_Packing_4, pf_Packing_5] at h7
      have hl7 := g7 _ _ ndl.symm hl
      have ha7 := g7 _ _ nda.symm ha'
      have ht7 := g7 _ _ ntd ht'
      walk_at "rd"
      refine ⟨.inl ⟨rfl, _, SqL.of hl7⟩, ?_⟩
      walk_at "rd"
      refine ⟨_, _, _, _, rfl, rfl, SqL.of hl7, stL_last p n, ?_⟩
      walk_at "rd"
      refine ⟨_, _, _, _, rfl, rfl, SqL.of hl7, stL_last p n, ?_⟩
      walk_at "rd"
      refine use_rows_from (r := startN p n) rfl ⟨dx, _, t, ha7, by kernel_rfl, by kernel_rfl, none_all (by kernel_rfl), ht7⟩ ok fun G8 g8 => ?_
      walk_at "rd"
      refine ⟨_, _, _, rfl, rfl, g8 _ _ hl7, szlt (by rw [stL_len]; omega), ?_⟩
      generalize eG9 : upd _ _ _ = G9
      obtain ⟨g9, h9⟩ := gen_st eG9
      clear eG9
      try simp only [pf_Settings_0, pf_Settings_1, pf_Settings_2, pf_Settings_3, pf_Settings_4, pf_Settings_5, pf_Packing_0, pf_Packing_1, pf_Packing_2, pf_Packing_3, pf_Packing_4, pf_Packing_5] at h9
      refine ⟨7 - (n + 1), by omega, n + 1, putK kvs (Sum.inl (resN p n : Int)) (.int n), rfl, ?_, ?_, g9 _ _ ndl (g8 _ _ h7), hs.put hv, inj2, hn7, rfl⟩
      · exact ((fx.trans (g7.sx (by simp))).trans g8.sx).trans (g9.sx (by simp))
      · rw [h9, stL_succ]
        exact congrArg (fun z => some (HO.lst (stL p n ++ [V.int z]))) (Int.natCast_add _ _).symm
    | some v =>
      refine iteF ?_
      obtain ⟨j, hj, ej⟩ := hs.2.2 (resN p n : Int) (by rw [hv]; simp)
      have hvj := hs.2.1 j hj
      have hv0 := hv
      rw [← ej, hv] at hvj
      cases hvj
      have ejn : resN p n = resN p j := by omega
      walk_at "rd"
      refine ⟨_, _, _, _, rfl, rfl, SqL.of hl, stL_last p n, ?_⟩
      walk_at "rd"
      refine ⟨_, .int j, rfl, ?_, ?_⟩
      · have := hg _ hd
        rw [hv0] at this
        exact this
      walk_at "rd"
      generalize eK1 : upd _ _ _ = K1
      obtain ⟨k1, e1⟩ := gen_st eK1
      clear eK1
      try simp only [pf_Settings_0, pf_Settings_1, pf_Settings_2, pf_Settings_3, pf_Settings_4, pf_Settings_5, pf_Packing_0, pf_Packing_1, pf_Packing_2, pf_Packing_3, pf_Packing_4, pf_Packing_5] at e1
      have hl1 := k1 _ _ nla hl
      walk_at "rd"
      generalize eK2 : upd _ _ _ = K2
      obtain ⟨k2, e2⟩ := gen_st eK2
      clear eK2
      try simp only [pf_Settings_0, pf_Settings_1, pf_Settings_2, pf_Settings_3, pf_Settings_4, pf_Settings_5, pf_Packing_0, pf_Packing_1, pf_Packing_2, pf_Packing_3, pf_Packing_4, pf_Packing_5] at e2
      have hl2 := k2 _ _ nla hl1
      walk_at "rd"
      refine ⟨_, _, _, _, rfl, rfl, SqL.of hl2, stL_last p n, ?_⟩
      walk_at "rd"
      refine ⟨_, _, _, _, rfl, rfl, SqL.of hl2, atI_int (j := j) rfl (stL_get p (show j ≤ n by omega)), ?_⟩
      walk_at "rd"
      generalize eK3 : upd _ _ _ = K3
      obtain ⟨k3, e3⟩ := gen_st eK3
      clear eK3
      try simp only [pf_Settings_0, pf_Settings_1, pf_Settings_2, pf_Settings_3, pf_Settings_4, pf_Settings_5, pf_Packing_0, pf_Packing_1, pf_Packing_2, pf_Packing_3, pf_Packing_4, pf_Packing_5] at e3
      have eN : j + (n - j) = n := by omega
      have e7 : ((stL p n).length : Int) - 1 - (j : Int) = ((n - j : Nat) : Int) := by rw [stL_len]; omega
      have q1 : K3 a = some (.ins (He.ga K "Packing") dx [("row_lengths", .ref t), ("room", .int p.size), ("starts", .ref l), ("first", .int j), ("pages", .int (n - j : Nat)), ("rows", .int ((startN p (j + (n - j)) : Int) - startN p j))]) := by
        rw [eN, ← e7]
        exact e3
      have q2 : K3 t = some (.tup (p.lens.map V.int)) := k3 _ _ nat (k2 _ _ nat (k1 _ _ nat ht'))
      have q3 : K3 l = some (.lst (stL p (j + (n - j)))) := by
        rw [eN]
        exact k3 _ _ nla hl2
      refine k K3 j (n - j) ?_ ⟨by omega, by rw [eN]; exact ejn, fun x y hxy hy => inj x y hxy (by omega)⟩ ⟨dx, t, l, q1, q2, q3⟩ fun s xs H'' hs0 e => ?_
      · intro c o hc ho
        have o2 := g2 _ _ hc (g1 _ _ hc ho)
        have o4 := g4 _ _ hc (g3 _ _ o2)
        exact k3 _ _ hc (k2 _ _ hc (k1 _ _ hc (fx _ _ (by simp [ne_of_none o2 n3, ne_of_none o4 n5]) (g5 _ _ o4))))
      · have nsa : s ≠ a := ne_of hs0 ha (by intro z; cases z)
        have nst : s ≠ t := ne_of hs0 ht (by intro z; cases z)
        have nsl : s ≠ l := ne_of_none (g2 _ _ nsa (g1 _ _ nsa hs0)) n3
        exact ⟨dx, t, l, e _ _ nsa.symm q1, e _ _ nst.symm q2, e _ _ nsl.symm q3⟩

@[irreducible] def sp_Packing_start (K : PySem.W.Frag) : Sp := fun vs H Q _ => ∃ (a : Addr) (p : Prt) (first pages n : Nat), vs = [.ref a, .int n] ∧ PkAt K H a p first pages ∧ p.Ok ∧ Cyc p first pages ∧ ∀ H', Same H H' → Q (.int (startN p n)) H'
theorem use_start {K : PySem.W.Frag} {a : Addr} {p : Prt} {first pages n : Nat} {H : Hp} {Q : VK} {E : XK} {i : Int} (hi : i = (n : Int)) (h : PkAt K H a p first pages) (ok : p.Ok) (c : Cyc p first pages) (k : ∀ H', Same H H' → Q (.int (startN p n)) H') :
  sp_Packing_start K [.ref a, .int i] H Q E := by subst hi; unfold sp_Packing_start; exact ⟨a, p, first, pages, n, rfl, h, ok, c, k⟩
theorem b_Packing_start {K : PySem.W.Frag} {fd : FuncData} (F : F_Packing_start K fd) : Binds K fd P_Packing_start [] := FunD.bindsN F fun _ _ _ _ _ _ us hl => match us, hl with | [_, _], _ => rfl
theorem ok_Packing_start (T : Txt K mg base D) : FnOk P w K mg base CX0 1 (He.fAd K ("Packing", some "start")) (D D_Packing_start) P_Packing_start (sp_Packing_start K) := by
  refine T.d_Packing_start.ok sc_Packing_start (fun vs H Q E h => ?_) (fun cdv A outer s H vs Q E hr h => ?_)
  · unfold sp_Packing_start at h
    first | (obtain ⟨rfl, _⟩ := h; rfl) | (obtain ⟨_, rfl, _⟩ := h; rfl) | (obtain ⟨_, _, rfl, _⟩ := h; rfl) | (obtain ⟨_, _, _, rfl, _⟩ := h; rfl) | (obtain ⟨_, _, _, _, rfl, _⟩ := h; rfl) | (obtain ⟨_, _, _, _, _, rfl, _⟩ := h; rfl) | (obtain ⟨_, _, _, _, _, _, rfl, _⟩ := h; rfl) | (obtain ⟨_, _, _, _, _, _, _, rfl, _⟩ := h; rfl) | (obtain ⟨_, _, _, _, _, _, _, _, rfl, _⟩ := h; rfl) | (obtain ⟨_, _, _, _, _, _, _, _, _, rfl, _⟩ := h; rfl) | (obtain ⟨_, _, _, _, _, _, _, _, _, _, rfl, _⟩ := h; rfl) | (obtain ⟨_, _, _, _, _, _, _, _, _, _, _, rfl, _⟩ := h; rfl)
  · refine ⟨_, PSs.nox (pss_cons (ps_if (pt_cmpR op_lt (pv 1) (pe_fldK (K := K) (pv 0) rfl) (nomark _)) (pss_one (ps_ret (pe_ix (ix_listK (K := K)) (pe_fldK (K := K) (pv 0) rfl) (pv 1) (fun _ _ => rfl)))) pss_nil)
      (pss_cons (ps_asg (pe_callB call_divmod (by rfl) T.n_divmod (by decide +kernel) (pa_cons (pe_op op_sub (pv 1) (pe_fldK (K := K) (pv 0) rfl)) (pa_cons (pe_fldK (K := K) (pv 0) rfl) pa_nil))) (pg_tup rfl (pgs_cons (pg_name (i := 2) sc_Packing_start.nd rfl (Or.inl rfl)) (pgs_cons (pg_name (i := 3) sc_Packing_start.nd rfl (Or.inl rfl)) pgs_nil))))
      (pss_one (ps_ret (pe_op op_add (pe_ix (ix_listK (K := K)) (pe_fldK (K := K) (pv 0) rfl) (pe_op op_add (pe_fldK (K := K) (pv 0) rfl) (pv 3)) (fun _ _ => rfl)) (pe_op op_mul (pv 2) (pe_fldK (K := K) (pv 0) rfl))))))), ?_⟩
    unfold sp_Packing_start at h
    obtain ⟨a, p, first, pages, n, rfl, ⟨dx, t, l, h1, h2, h3⟩, ok, c, k⟩ := h
    have hle := c.le ok
    have hpos := c.pos
    walk_at "rd"
    refine iteB (fun d => ?_) (fun d => ?_)
    · have d := of_decide_eq_true d
      walk_at "rd"
      refine ⟨_, _, _, _, rfl, rfl, SqL.of h3, atI_int (j := n) rfl (stL_get p (by omega)), ?_⟩
      exact k H (Same.refl H)
    · have d := of_decide_eq_false d
      walk_at "rd"
      intro q n1
      generalize eG1 : upd _ q _ = G1
      obtain ⟨s1, c1⟩ := gen_new n1 eG1
      clear eG1
      have h31 := s1 _ _ h3
      have h11 := s1 _ _ h1
      walk_at "rd"
      have e1 : ((n : Int) - (first : Int)) / (pages : Int) = (((n - first) / pages : Nat) : Int) := by rw [← Int.ofNat_sub (by omega)]; rfl
      have e2 : ((n : Int) - (first : Int)) % (pages : Int) = (((n - first) % pages : Nat) : Int) := by rw [← Int.ofNat_sub (by omega)]; rfl
      have hm : (n - first) % pages < pages := Nat.mod_lt _ hpos
      refine ⟨_, _, _, _, rfl, rfl, SqL.of h31, atI_int (j := first + (n - first) % pages) (by rw [e2]; omega) (stL_get p (by omega)), ?_⟩
      walk_at "rd"
      have hr := rowsC_le ok c
      have hsp := start_mono ok (show first ≤ first + pages by omega)
      have er : (startN p (first + pages) : Int) - (startN p first : Int) = (rowsC p first pages : Int) := by unfold rowsC; omega
      refine ⟨cmr (by rw [er]; omega) (by rw [er]; omega), ?_⟩
      walk_at "rd"
      have e3 : (startN p n : Int) = (startN p (first + (n - first) % pages) : Int) + (((n : Int) - (first : Int)) / (pages : Int)) * ((startN p (first + pages) : Int) - (startN p first : Int)) := by
        rw [e1, er, ← Int.natCast_mul, ← Int.natCast_add, ← start_times ok c (show first ≤ first + (n - first) % pages by omega)]
        have := Nat.mod_add_div (n - first) pages
        rw [show first + (n - first) % pages + (n - first) / pages * pages = n by rw [Nat.mul_comm]; omega]
      have q1 := k G1 s1
      rw [e3] at q1
      exact q1

@[irreducible] def sp_Packing_holder (K : PySem.W.Frag) : Sp := fun vs H Q _ => ∃ (a : Addr) (p : Prt) (first pages r : Nat), vs = [.ref a, .int r] ∧ PkAt K H a p first pages ∧ p.Ok ∧ Cyc p first pages ∧ ∀ n H', On p r n → Same H H' → Q (.int n) H'
theorem use_holder {K : PySem.W.Frag} {a : Addr} {p : Prt} {first pages r : Nat} {H : Hp} {Q : VK} {E : XK} {i : Int} (hi : i = (r : Int)) (h : PkAt K H a p first pages) (ok : p.Ok) (c : Cyc p first pages) (k : ∀ n H', On p r n → Same H H' → Q (.int n) H') :
  sp_Packing_holder K [.ref a, .int i] H Q E := by subst hi; unfold sp_Packing_holder; exact ⟨a, p, first, pages, r, rfl, h, ok, c, k⟩
/-- the first row of the cycle that is like row r, and how many cycles lie between -/
theorem near_of {p : Prt} (ok : p.Ok) {first pages : Nat} (c : Cyc p first pages) (r : Nat) : ∃ t near, r = near + t * rowsC p first pages ∧ near < startN p (first + pages) ∧ (t = 0 ∨ startN p first ≤ near) ∧
    (startN p first ≤ r → t = (r - startN p first) / rowsC p first pages) ∧ (r < startN p first → t = 0) := by
  have h1 := rowsC_pos ok c
  have h2 := start_mono ok (show first ≤ first + pages by omega)
  have er : rowsC p first pages = startN p (first + pages) - startN p first := rfl
  by_cases h : startN p first ≤ r
  · refine ⟨(r - startN p first) / rowsC p first pages, startN p first + (r - startN p first) % rowsC p first pages, ?_, ?_, .inr (by omega), fun _ => rfl, fun z => by omega⟩
    · have := Nat.mod_add_div (r - startN p first) (rowsC p first pages)
      rw [Nat.mul_comm] at this
      omega
    · have := Nat.mod_lt (r - startN p first) h1
      omega
  · exact ⟨0, r, by omega, by omega, .inl rfl, fun z => absurd z h, fun _ => rfl⟩
theorem par6 {A B : Option V} {x y : Int} (h : x = y) {l : List (Option V)} : A :: B :: some (V.int x) :: l = A :: B :: some (V.int y) :: l := by subst h; rfl
theorem b_Packing_holder {K : PySem.W.Frag} {fd : FuncData} (F : F_Packing_holder K fd) : Binds K fd P_Packing_holder [] := FunD.bindsN F fun _ _ _ _ _ _ us hl => match us, hl with | [_, _], _ => rfl
theorem ok_Packing_holder (T : Txt K mg base D) : FnOk P w K mg base CX0 1 (He.fAd K ("Packing", some "holder")) (D D_Packing_holder) P_Packing_holder (sp_Packing_holder K) := by
  refine T.d_Packing_holder.ok sc_Packing_holder (fun vs H Q E h => ?_) (fun cdv A outer s H vs Q E hr h => ?_)
  · unfold sp_Packing_holder at h
    first | (obtain ⟨rfl, _⟩ := h; rfl) | (obtain ⟨_, rfl, _⟩ := h; rfl) | (obtain ⟨_, _, rfl, _⟩ := h; rfl) | (obtain ⟨_, _, _, rfl, _⟩ := h; rfl) | (obtain ⟨_, _, _, _, rfl, _⟩ := h; rfl) | (obtain ⟨_, _, _, _, _, rfl, _⟩ := h; rfl) | (obtain ⟨_, _, _, _, _, _, rfl, _⟩ := h; rfl) | (obtain ⟨_, _, _, _, _, _, _, rfl, _⟩ := h; rfl) | (obtain ⟨_, _, _, _, _, _, _, _, rfl, _⟩ := h; rfl) | (obtain ⟨_, _, _, _, _, _, _, _, _, rfl, _⟩ := h; rfl) | (obtain ⟨_, _, _, _, _, _, _, _, _, _, rfl, _⟩ := h; rfl) | (obtain ⟨_, _, _, _, _, _, _, _, _, _, _, rfl, _⟩ := h; rfl)
  · refine ⟨_, PSs.nox (pss_cons (ps_set (i := 2) sc_Packing_holder.nd rfl (Or.inl rfl) pe_int)
      (Evl.pss_cut (ps_if (pt_cmpR op_ge (pv 1) (pe_ix (ix_listK (K := K)) (pe_fldK (K := K) (pv 0) rfl) (pe_fldK (K := K) (pv 0) rfl) (fun _ _ => rfl)) (nomark _)) (pss_one (ps_set (i := 2) sc_Packing_holder.nd rfl (Or.inl rfl) (pe_op op_fdivW (pe_op op_sub (pv 1) (pe_ix (ix_listK (K := K)) (pe_fldK (K := K) (pv 0) rfl) (pe_fldK (K := K) (pv 0) rfl) (fun _ _ => rfl))) (pe_fldK (K := K) (pv 0) rfl)))) pss_nil)
      (pss_cons (ps_set (i := 3) sc_Packing_holder.nd rfl (Or.inr rfl) (pe_op op_sub (pv 1) (pe_op op_mul (pv 2) (pe_fldK (K := K) (pv 0) rfl))))
      (pss_cons (ps_set (i := 4) sc_Packing_holder.nd rfl (Or.inl rfl) (pe_ix (ix_listK (K := K)) (pe_lc (own := [("place", 5)]) rfl sc_Packing_holder.nd (pi_range1 (by rfl) T.n_range (pa_cons (pe_callB (call_lenK (K := K)) (by rfl) T.n_len (by decide +kernel) (pa_cons (pe_fldK (K := K) (pv 0) rfl) pa_nil)) pa_nil)) (blkOk_by (N := N_Packing_holder) (sc := defScope s_Packing_holder) (by decide +kernel)) (fun _ _ _ _ _ => (pg_name (i := 5) sc_Packing_holder.nd rfl (Or.inl rfl))) (fun _ _ _ _ _ => (pts_one (pt_cmpR op_le (pe_ix (ix_listK (K := K)) (pe_fldK (K := K) (pv 0) rfl) (pv 5) (fun _ _ => rfl)) (pv 3) (nomark _)))) (fun _ _ _ _ _ => (pv 5))) (pe_un un_neg pe_int) (fun _ _ => rfl)))
      (pss_one (ps_ret (pe_op op_add (pv 4) (pe_op op_mul (pv 2) (pe_fldK (K := K) (pv 0) rfl))))))))), ?_⟩
    unfold sp_Packing_holder at h
    obtain ⟨a, p, first, pages, r, rfl, ⟨dx, t, l, h1, h2, h3⟩, ok, c, k⟩ := h
    have hle := c.le ok
    have hpos := c.pos
    have hsp := start_mono ok (show first ≤ first + pages by omega)
    have er : (startN p (first + pages) : Int) - (startN p first : Int) = (rowsC p first pages : Int) := by unfold rowsC; omega
    have hr0 := rowsC_pos ok c
    have hr1 := rowsC_le ok c
    obtain ⟨tm, near, en, hn, ht, hu, hv⟩ := near_of ok c r
    have hsl := stL_len p (first + pages)
    walk_at "rd"
    refine ⟨fun σ' H' => H' = H ∧ σ' = [some (.ref a), some (.int r), some (.int tm), none, none, none], ?_, ?_⟩
    · walk_at "rd"
      refine ⟨_, _, _, _, rfl, rfl, SqL.of h3, atI_int (j := first) rfl (stL_get p (by omega)), ?_⟩
      walk_at "rd"
      refine iteB (fun d => ?_) (fun d => ?_)
      · have d := of_decide_eq_true d
        have d2 : startN p first ≤ r := by omega
        walk_at "rd"
        refine ⟨_, _, _, _, rfl, rfl, SqL.of h3, atI_int (j := first) rfl (stL_get p (by omega)), ?_⟩
        walk_at "rd"
        have e9 : ((r : Int) - (startN p first : Int)) / ((startN p (first + pages) : Int) - (startN p first : Int)) = (tm : Int) := by
          rw [er, ← Int.ofNat_sub d2, hu d2]; rfl
        exact par6 e9
      · have d := of_decide_eq_false d
        walk_at "rd"
        have e9 := hv (by omega)
        subst e9
        rfl
    rintro σ H' ⟨rfl, rfl⟩
    walk_at "rd"
    have hs0 : startN p 0 = 0 := rfl
    have enear : (r : Int) - (tm : Int) * ((startN p (first + pages) : Int) - (startN p first : Int)) = (near : Int) := by
      rw [er, ← Int.natCast_mul]; omega
    intro D1 n1
    have nl : l ≠ D1 := ne_of_none h3 n1
    refine lc_range (lo := 0) (n := Int.toNat _) (fun i G => ∃ c, G D1 = some (.lst ((List.range c).map fun (j : Nat) => V.int (j : Int))) ∧ SX [D1] H' G ∧ (∀ j, j < i → (startN p j ≤ near ↔ j < c)) ∧ c ≤ i) ⟨0, upd_same, SX.refl.mut n1, fun j hj => absurd hj (by omega), Nat.le_refl _⟩ ?_ ?_
    · rintro i G hi ⟨m, hD, f, hc, hm⟩
      have hi2 : i ≤ first + pages := by omega
      refine ⟨rfl, ?_⟩
      have h3' := f _ _ (by simp [nl]) h3
      have h1' := f _ _ (by simp [ne_of_none h1 n1]) h1
      walk_at "rd"
      refine ⟨_, _, _, _, rfl, rfl, SqL.of h3', atI_int (j := i) (by omega) (stL_get p hi2), ?_⟩
      walk_at "rd"
      refine iteB (fun d => ?_) (fun d => ?_)
      · have d := of_decide_eq_true d
        have d : startN p i ≤ near := by
          have d2 : (startN p i : Int) ≤ (r : Int) - (tm : Int) * ((startN p (first + pages) : Int) - (startN p first : Int)) := d
          omega
        walk_at "rd"
        have hmi : m = i := by
          by_cases h : m = i
          · exact h
          · have z := (hc m (by omega)).mp (Nat.le_trans (start_mono ok (by omega)) d)
            omega
        subst hmi
        refine ⟨_, hD, szlt (by rw [List.length_map, List.length_range]; omega), m + 1, ?_, f.upd (by simp), fun j hj => ⟨fun _ => hj, fun _ => Nat.le_trans (start_mono ok (by omega)) d⟩, Nat.le_refl _⟩
        rw [upd_same, List.range_succ, List.map_append]
        exact congrArg (fun z => some (HO.lst (List.map (fun (j : Nat) => V.int (j : Int)) (List.range m) ++ [V.int z]))) (Int.zero_add _)
      · have d := of_decide_eq_false d
        have d : ¬ startN p i ≤ near := by
          have d2 : ¬ (startN p i : Int) ≤ (r : Int) - (tm : Int) * ((startN p (first + pages) : Int) - (startN p first : Int)) := d
          omega
        refine ⟨m, hD, f, fun j hj => ?_, by omega⟩
        by_cases h : j = i
        · subst h
          exact ⟨fun z => absurd z d, fun z => by omega⟩
        · exact hc j (by omega)
    · rintro G ⟨m, hD, f, hc, hm⟩
      have hlen : (Int.toNat (((stL p (first + pages)).length : Nat) : Int)) = first + pages + 1 := by rw [stL_len]; omega
      rw [hlen] at hc hm
      have m1 : 0 < m := (hc 0 (by omega)).mp (by rw [hs0]; omega)
      have m2 : m ≤ first + pages := by
        by_cases h : m ≤ first + pages
        · exact h
        · have := (hc (first + pages) (by omega)).mpr (by omega)
          omega
      obtain ⟨m, rfl⟩ : ∃ m', m = m' + 1 := ⟨m - 1, by omega⟩
      have b1 := (hc m (by omega)).mpr (by omega)
      have b2 : near < startN p (m + 1) := by
        by_cases h : startN p (m + 1) ≤ near
        · have := (hc (m + 1) (by omega)).mp h
          omega
        · omega
      have hat : atI ((List.range (m + 1)).map fun (j : Nat) => V.int (j : Int)) (-1) = some (.int (m : Int)) := by
        rw [List.range_succ, List.map_append]
        exact atI_last _ _
      have sG : Same H' G := fun b o ho => f _ _ (by simp [ne_of_none ho n1]) ho
      have h11 := sG _ _ h1
      walk_at "rd"
      refine ⟨_, _, _, _, rfl, rfl, SqL.of hD, hat, ?_⟩
      walk_at "rd"
      have ePn : (m : Int) + (tm : Int) * (pages : Int) = ((m + tm * pages : Nat) : Int) := by rw [← Int.natCast_mul]; omega
      have on : On p r (m + tm * pages) := by
        rcases ht with ht | ht
        · subst ht
          simp only [Nat.zero_mul, Nat.add_zero] at en ⊢
          rw [en]
          exact ⟨b1, b2⟩
        · have hmf : first ≤ m := by
            by_cases h : first ≤ m
            · exact h
            · have := start_mono ok (show m + 1 ≤ first by omega)
              omega
          have e1 := start_times ok c hmf tm
          have e2 := start_times ok c (show first ≤ m + 1 by omega) tm
          refine ⟨?_, ?_⟩
          · rw [e1, en]; omega
          · rw [show m + tm * pages + 1 = m + 1 + tm * pages by omega, e2, en]; omega
      have q := k _ G on sG
      rw [← ePn] at q
      exact q

@[irreducible] def sp_check_row : Sp := fun vs H Q _ => ∃ i m : Int, vs = [.int i, .int m] ∧ (0 ≤ i ∧ i ≤ m - 1) ∧ Q .non H
theorem use_check_row {i m : Int} {H : Hp} {Q : VK} {E : XK} (h : 0 ≤ i ∧ i ≤ m - 1) (q : Q .non H) : sp_check_row [.int i, .int m] H Q E := by unfold sp_check_row; exact ⟨i, m, rfl, h, q⟩
theorem b_check_row_1 {K : PySem.W.Frag} {fd : FuncData} (F : F_check_row K fd) : ∃ ds, Vals [.int (1000000000000000000000000000000)] ds ∧ Binds K fd P_check_row ds := FunD.binds1 F 1 0 (by intro z; cases z) rfl fun _ _ _ _ _ _ _ us its h1 h2 => match us, its, h1, h2 with | [_], [_], _, _ => ⟨_, rfl, rfl⟩
theorem b_check_row_2 {K : PySem.W.Frag} {fd : FuncData} (F : F_check_row K fd) : ∃ ds, Vals [] ds ∧ Binds K fd P_check_row ds := FunD.binds1 F 2 1 (by intro z; cases z) rfl fun _ _ _ _ _ _ _ us its h1 h2 => match us, its, h1, h2 with | [_, _], [_], _, _ => ⟨_, rfl, rfl⟩
theorem ok_check_row (T : Txt K mg base D) : FnOk P w K mg base CX0 3 (He.fAd K ("check_row", none)) (D D_check_row) P_check_row sp_check_row := by
  refine T.d_check_row.ok sc_check_row (fun vs H Q E h => ?_) (fun cdv A outer s H vs Q E hr h => ?_)
  · unfold sp_check_row at h
    first | (obtain ⟨rfl, _⟩ := h; rfl) | (obtain ⟨_, rfl, _⟩ := h; rfl) | (obtain ⟨_, _, rfl, _⟩ := h; rfl) | (obtain ⟨_, _, _, rfl, _⟩ := h; rfl) | (obtain ⟨_, _, _, _, rfl, _⟩ := h; rfl) | (obtain ⟨_, _, _, _, _, rfl, _⟩ := h; rfl) | (obtain ⟨_, _, _, _, _, _, rfl, _⟩ := h; rfl) | (obtain ⟨_, _, _, _, _, _, _, rfl, _⟩ := h; rfl) | (obtain ⟨_, _, _, _, _, _, _, _, rfl, _⟩ := h; rfl) | (obtain ⟨_, _, _, _, _, _, _, _, _, rfl, _⟩ := h; rfl) | (obtain ⟨_, _, _, _, _, _, _, _, _, _, rfl, _⟩ := h; rfl) | (obtain ⟨_, _, _, _, _, _, _, _, _, _, _, rfl, _⟩ := h; rfl)
  · refine ⟨_, PSs.nox (pss_one (ps_if (pt_not (pt_val (pe_call (ok_is_between T) (hr.mono (by decide)) rfl T.g_is_between T.d_is_between.kp (b_is_between T.d_is_between) .nil pass0 (pa_cons (pv 0) (pa_cons pe_int (pa_cons (pe_op op_sub (pv 1) pe_int) pa_nil)))))) (pss_one ps_never) pss_nil)), ?_⟩
    unfold sp_check_row at h
    obtain ⟨i, m, rfl, h, q⟩ := h
    walk_at "rd"
    refine use_betweenI ?_
    rw [decide_eq_true h]
    walk_at "rd"
    exact q

@[irreducible] def sp_check_moment : Sp := fun vs H Q _ => ∃ i : Int, vs = [.int i] ∧ (0 ≤ i ∧ i ≤ 1000000000000000000000000000000) ∧ Q .non H
theorem use_check_moment {i : Int} {H : Hp} {Q : VK} {E : XK} (h : 0 ≤ i ∧ i ≤ 1000000000000000000000000000000) (q : Q .non H) : sp_check_moment [.int i] H Q E := by unfold sp_check_moment; exact ⟨i, rfl, h, q⟩
@[irreducible] def sp_Packing_units_of (K : PySem.W.Frag) : Sp := fun vs H Q _ => ∃ (a : Addr) (p : Prt) (r k : Nat), vs = [.ref a, .int r, .int ((r : Int) + k)] ∧ PkBase K H a p ∧ p.Ok ∧ k ≤ 1000 ∧ ∀ H', Same H H' → Q (.int (usum p r k)) H'
theorem use_units_of {K : PySem.W.Frag} {a : Addr} {p : Prt} {r k : Nat} {H : Hp} {Q : VK} {E : XK} {i j : Int} (hi : i = (r : Int)) (hj : j = (r : Int) + k) (h : PkBase K H a p) (ok : p.Ok) (hk : k ≤ 1000) (q : ∀ H', Same H H' → Q (.int (usum p r k)) H') :
  sp_Packing_units_of K [.ref a, .int i, .int j] H Q E := by subst hi hj; unfold sp_Packing_units_of; exact ⟨a, p, r, k, rfl, h, ok, hk, q⟩
def lensL (p : Prt) (r k : Nat) : List Int := (List.range k).map fun i => lenAt p (r + i)
theorem lensL_succ (p : Prt) (r k : Nat) : lensL p r (k + 1) = lensL p r k ++ [lenAt p (r + k)] := by
  unfold lensL
  rw [List.range_succ, List.map_append]
  rfl
theorem lensL_sum (p : Prt) (r : Nat) : ∀ k, (lensL p r k).sum = usum p r k
  | 0 => rfl
  | k + 1 => by rw [lensL_succ, List.sum_append, lensL_sum p r k]; simp [usum]
theorem pk_base {K : PySem.W.Frag} {H : Hp} {a : Addr} {p : Prt} {first pages : Nat} (h : PkAt K H a p first pages) : PkBase K H a p := by
  obtain ⟨dx, t, l, h1, h2, h3⟩ := h
  exact ⟨dx, _, t, h1, by kernel_rfl, by kernel_rfl, none_all (by kernel_rfl), h2⟩
theorem b_Packing_units_of {K : PySem.W.Frag} {fd : FuncData} (F : F_Packing_units_of K fd) : Binds K fd P_Packing_units_of [] := FunD.bindsN F fun _ _ _ _ _ _ us hl => match us, hl with | [_, _, _], _ => rfl
theorem ok_Packing_units_of (T : Txt K mg base D) : FnOk P w K mg base CX0 2 (He.fAd K ("Packing", some "units_of")) (D D_Packing_units_of) P_Packing_units_of (sp_Packing_units_of K) := by
  refine T.d_Packing_units_of.ok sc_Packing_units_of (fun vs H Q E h => ?_) (fun cdv A outer s H vs Q E hr h => ?_)
  · unfold sp_Packing_units_of at h
    first | (obtain ⟨rfl, _⟩ := h; rfl) | (obtain ⟨_, rfl, _⟩ := h; rfl) | (obtain ⟨_, _, rfl, _⟩ := h; rfl) | (obtain ⟨_, _, _, rfl, _⟩ := h; rfl) | (obtain ⟨_, _, _, _, rfl, _⟩ := h; rfl) | (obtain ⟨_, _, _, _, _, rfl, _⟩ := h; rfl) | (obtain ⟨_, _, _, _, _, _, rfl, _⟩ := h; rfl) | (obtain ⟨_, _, _, _, _, _, _, rfl, _⟩ := h; rfl) | (obtain ⟨_, _, _, _, _, _, _, _, rfl, _⟩ := h; rfl) | (obtain ⟨_, _, _, _, _, _, _, _, _, rfl, _⟩ := h; rfl) | (obtain ⟨_, _, _, _, _, _, _, _, _, _, rfl, _⟩ := h; rfl) | (obtain ⟨_, _, _, _, _, _, _, _, _, _, _, rfl, _⟩ := h; rfl)
  · refine ⟨_, PSs.nox (pss_one (ps_ret (pe_callB (cr_sumK (K := K) rfl) (by rfl) T.n_sum (by decide +kernel) (pa_cons (pe_lc (own := [("one", 3)]) rfl sc_Packing_units_of.nd (pi_rangeB (by rfl) T.n_range (pa_cons (pv 1) (pa_cons (pv 2) pa_nil))) (blkOk_by (N := N_Packing_units_of) (sc := defScope s_Packing_units_of) (by decide +kernel)) (fun _ _ _ _ _ => (pg_name (i := 3) sc_Packing_units_of.nd rfl (Or.inl rfl))) (fun _ _ _ _ _ => pts_nil) (fun _ _ _ _ _ => (pe_meth (pv 0) T.c_Packing T.m_Packing_length (ok_Packing_length T) (hr.mono (by decide)) (b_Packing_length T.d_Packing_length) .nil pass0 (pa_cons (pv 3) pa_nil)))) pa_nil)))), ?_⟩
    unfold sp_Packing_units_of at h
    obtain ⟨a, p, r, k, rfl, hb, ok, hk, q⟩ := h
    obtain ⟨dx, fs, t, b⟩ := id hb
    have h1 := b.h
    have h3 := b.m "length" (by decide)
    walk_at "rd"
    intro D1 n1
    refine lc_range (lo := (r : Int)) (n := Int.toNat _) (fun i G => G D1 = some (.lst ((lensL p r i).map V.int)) ∧ SX [D1] H G) ⟨upd_same, SX.refl.mut n1⟩ ?_ ?_
    · rintro i G hi ⟨hD, f⟩
      refine ⟨rfl, ?_⟩
      have h1' := f _ _ (by simp [ne_of_none h1 n1]) h1
      have sG : Same H G := fun b o ho => f _ _ (by simp [ne_of_none ho n1]) ho
      walk_at "rd"
      refine use_length (r := r + i) (by omega) (hb.same sG) ok ?_
      refine ⟨_, hD, szlt (by rw [List.length_map]; unfold lensL; rw [List.length_map, List.length_range]; omega), ?_, f.upd (by simp)⟩
      rw [upd_same, lensL_succ, List.map_append]
      rfl
    · rintro G ⟨hD, f⟩
      have sG : Same H G := fun b o ho => f _ _ (by simp [ne_of_none ho n1]) ho
      have ek : Int.toNat ((r : Int) + (k : Int) - (r : Int)) = k := by omega
      rw [ek] at hD
      walk_at "rd"
      refine ⟨_, _, rfl, SqL.of hD, ?_⟩
      rw [lensL_sum]
      exact q G sG

theorem ne_eq {i j : Int} {A B : Prop} (h : i = j) (b : B) : if (!decide (V.int i = V.int j)) = true then A else B := by
  subst h
  rw [decide_eq_true rfl]
  exact iteF b
@[irreducible] def sp_Packing_page_of (K : PySem.W.Frag) : Sp := fun vs H Q _ => ∃ (a : Addr) (p : Prt) (first pages r : Nat), vs = [.ref a, .int r] ∧ PkAt K H a p first pages ∧ p.Ok ∧ Cyc p first pages ∧ r < 1000000000000000000000000000000 ∧ ∀ n H', On p r n → Same H H' → Q (.int n) H'
theorem use_page_of {K : PySem.W.Frag} {a : Addr} {p : Prt} {first pages r : Nat} {H : Hp} {Q : VK} {E : XK} {i : Int} (hi : i = (r : Int)) (h : PkAt K H a p first pages) (ok : p.Ok) (c : Cyc p first pages) (hr : r < 1000000000000000000000000000000)
  (k : ∀ n H', On p r n → Same H H' → Q (.int n) H') : sp_Packing_page_of K [.ref a, .int i] H Q E := by subst hi; unfold sp_Packing_page_of; exact ⟨a, p, first, pages, r, rfl, h, ok, c, hr, k⟩
theorem b_Packing_page_of {K : PySem.W.Frag} {fd : FuncData} (F : F_Packing_page_of K fd) : Binds K fd P_Packing_page_of [] := FunD.bindsN F fun _ _ _ _ _ _ us hl => match us, hl with | [_, _], _ => rfl
theorem ok_Packing_page_of (T : Txt K mg base D) : FnOk P w K mg base CX0 4 (He.fAd K ("Packing", some "page_of")) (D D_Packing_page_of) P_Packing_page_of (sp_Packing_page_of K) := by
  refine T.d_Packing_page_of.ok sc_Packing_page_of (fun vs H Q E h => ?_) (fun cdv A outer s H vs Q E hr h => ?_)
  · unfold sp_Packing_page_of at h
    first | (obtain ⟨rfl, _⟩ := h; rfl) | (obtain ⟨_, rfl, _⟩ := h; rfl) | (obtain ⟨_, _, rfl, _⟩ := h; rfl) | (obtain ⟨_, _, _, rfl, _⟩ := h; rfl) | (obtain ⟨_, _, _, _, rfl, _⟩ := h; rfl) | (obtain ⟨_, _, _, _, _, rfl, _⟩ := h; rfl) | (obtain ⟨_, _, _, _, _, _, rfl, _⟩ := h; rfl) | (obtain ⟨_, _, _, _, _, _, _, rfl, _⟩ := h; rfl) | (obtain ⟨_, _, _, _, _, _, _, _, rfl, _⟩ := h; rfl) | (obtain ⟨_, _, _, _, _, _, _, _, _, rfl, _⟩ := h; rfl) | (obtain ⟨_, _, _, _, _, _, _, _, _, _, rfl, _⟩ := h; rfl) | (obtain ⟨_, _, _, _, _, _, _, _, _, _, _, rfl, _⟩ := h; rfl)
  · refine ⟨_, PSs.nox (pss_cons (ps_expr (pe_call (ok_check_row T) (hr.mono (by decide)) rfl T.g_check_row T.d_check_row.kp (b_check_row_1 T.d_check_row).choose_spec.2 (b_check_row_1 T.d_check_row).choose_spec.1 pass0 (pa_cons (pv 1) pa_nil)))
      (pss_one (ps_ret (pe_meth (pv 0) T.c_Packing T.m_Packing_holder (ok_Packing_holder T) (hr.mono (by decide)) (b_Packing_holder T.d_Packing_holder) .nil pass0 (pa_cons (pv 1) pa_nil))))), ?_⟩
    unfold sp_Packing_page_of at h
    obtain ⟨a, p, first, pages, r, rfl, hpk, ok, c, hr, k⟩ := h
    obtain ⟨dx, t, l, h1, h2, h3⟩ := id hpk
    walk_at "rd"
    refine use_check_row ⟨by omega, by omega⟩ ?_
    walk_at "rd"
    refine use_holder rfl hpk ok c fun n G on g => ?_
    exact k n G on g

theorem b_InvalidPage___init__ {K : PySem.W.Frag} {fd : FuncData} (F : F_InvalidPage___init__ K fd) : Binds K fd P_InvalidPage___init__ [] := FunD.bindsN F fun _ _ _ _ _ _ us hl => match us, hl with | [_, _], _ => rfl
theorem ok_InvalidPage___init__ (T : Txt K mg base D) : FnOk P w K mg base CX0 1 (He.fAd K ("InvalidPage", some "__init__")) (D D_InvalidPage___init__) P_InvalidPage___init__ (sp_xi (He.ga K "InvalidPage") "page") := by
  refine T.d_InvalidPage___init__.ok sc_InvalidPage___init__ (fun vs H Q E h => ?_) (fun cdv A outer s H vs Q E hr h => ?_)
  · unfold sp_xi at h
    first | (obtain ⟨rfl, _⟩ := h; rfl) | (obtain ⟨_, rfl, _⟩ := h; rfl) | (obtain ⟨_, _, rfl, _⟩ := h; rfl) | (obtain ⟨_, _, _, rfl, _⟩ := h; rfl) | (obtain ⟨_, _, _, _, rfl, _⟩ := h; rfl) | (obtain ⟨_, _, _, _, _, rfl, _⟩ := h; rfl) | (obtain ⟨_, _, _, _, _, _, rfl, _⟩ := h; rfl) | (obtain ⟨_, _, _, _, _, _, _, rfl, _⟩ := h; rfl) | (obtain ⟨_, _, _, _, _, _, _, _, rfl, _⟩ := h; rfl) | (obtain ⟨_, _, _, _, _, _, _, _, _, rfl, _⟩ := h; rfl) | (obtain ⟨_, _, _, _, _, _, _, _, _, _, rfl, _⟩ := h; rfl) | (obtain ⟨_, _, _, _, _, _, _, _, _, _, _, rfl, _⟩ := h; rfl)
  · refine ⟨_, PSs.nox (pss_cons (ps_expr (pe_leI T.lb_StoreError rfl T.g_StoreError (pa_cons (pv 0) (pa_cons pe_str pa_nil))))
      (pss_one (ps_leS (pv 0) (pv 1)))), ?_⟩
    unfold sp_xi at h
    obtain ⟨a, v, rfl, ha, k⟩ := h
    walk_at "rd"
    refine ⟨a, _, [.str "invalid page"], rfl, Nat.le_of_ble_eq_true rfl, T.le_InvalidPage, ha, ?_⟩
    walk_at "rd"
    exact ⟨a, _, rfl, T.le_InvalidPage, T.ln_InvalidPage_page, ha, fun dx nd ne => k dx nd ne⟩

/-- what is let out with a page that is none -/
def EPg (K : PySem.W.Frag) (v : V) (H : Hp) (E : XK) : Prop := ∀ d H', H d = none → Same H H' → H' d = some (.xd [("page", v)]) → E (.ref (He.ga K "InvalidPage")) (some d) H'
theorem EPg.at {K : PySem.W.Frag} {v : V} {H G : Hp} {E : XK} (h : EPg K v H E) (s : Same H G) : EPg K v G E := fun d H' nd g hd => h d H' (s.free nd) (s.trans g) hd
/-- a value is the number of a heap page -/
def IsPg (p : Prt) (v : V) : Prop := ∃ n : Nat, v = .int n ∧ startN p n < 1000000000000000000000000000000
@[irreducible] def sp_Packing_check_page (K : PySem.W.Frag) : Sp := fun vs H Q E => ∃ (a : Addr) (p : Prt) (first pages : Nat) (v : V), vs = [.ref a, v] ∧ PkAt K H a p first pages ∧ p.Ok ∧ Cyc p first pages ∧ Ov Any H v ∧ (IsPg p v → ∀ H', Same H H' → Q .non H') ∧ (¬ IsPg p v → EPg K v H E)
theorem use_check_pageX {K : PySem.W.Frag} {a : Addr} {p : Prt} {first pages : Nat} {v : V} {H : Hp} {Q : VK} {E : XK} (h : PkAt K H a p first pages) (ok : p.Ok) (c : Cyc p first pages) (o : Ov Any H v) (q : IsPg p v → ∀ H', Same H H' → Q .non H') (e : ¬ IsPg p v → EPg K v H E) :
  sp_Packing_check_page K [.ref a, v] H Q E := by unfold sp_Packing_check_page; exact ⟨a, p, first, pages, v, rfl, h, ok, c, o, q, e⟩
theorem b_Packing_check_page {K : PySem.W.Frag} {fd : FuncData} (F : F_Packing_check_page K fd) : Binds K fd P_Packing_check_page [] := FunD.bindsN F fun _ _ _ _ _ _ us hl => match us, hl with | [_, _], _ => rfl
theorem ok_Packing_check_page (T : Txt K mg base D) : FnOk P w K mg base (L2.CX P w) 3 (He.fAd K ("Packing", some "check_page")) (D D_Packing_check_page) P_Packing_check_page (sp_Packing_check_page K) := by
  refine T.d_Packing_check_page.ok sc_Packing_check_page (fun vs H Q E h => ?_) (fun cdv A outer s H vs Q E hr h => ?_)
  · unfold sp_Packing_check_page at h
    first | (obtain ⟨rfl, _⟩ := h; rfl) | (obtain ⟨_, rfl, _⟩ := h; rfl) | (obtain ⟨_, _, rfl, _⟩ := h; rfl) | (obtain ⟨_, _, _, rfl, _⟩ := h; rfl) | (obtain ⟨_, _, _, _, rfl, _⟩ := h; rfl) | (obtain ⟨_, _, _, _, _, rfl, _⟩ := h; rfl) | (obtain ⟨_, _, _, _, _, _, rfl, _⟩ := h; rfl) | (obtain ⟨_, _, _, _, _, _, _, rfl, _⟩ := h; rfl) | (obtain ⟨_, _, _, _, _, _, _, _, rfl, _⟩ := h; rfl) | (obtain ⟨_, _, _, _, _, _, _, _, _, rfl, _⟩ := h; rfl) | (obtain ⟨_, _, _, _, _, _, _, _, _, _, rfl, _⟩ := h; rfl) | (obtain ⟨_, _, _, _, _, _, _, _, _, _, _, rfl, _⟩ := h; rfl)
  · refine ⟨_, (pss_one (ps_if (PW.pt (pw_or (pt_not (pt_val (pe_call (ok_is_integer T) (hr.mono (by decide)) rfl T.g_is_integer T.d_is_integer.kp (b_is_integer T.d_is_integer) .nil pass0 (pa_cons (pv 1) pa_nil)))) (pw_or (pt_cmpR op_lt (pv 1) pe_int (nomark _)) (pw_or1 (pt_cmpR op_ge (pe_meth (pv 0) T.c_Packing T.m_Packing_start (ok_Packing_start T) (hr.mono (by decide)) (b_Packing_start T.d_Packing_start) .nil pass0 (pa_cons (pv 1) pa_nil)) (pe_globi T.i_MOST_ROW) (nomark _)))))) (pss_one (ps_raise rfl (takes_of rfl rfl rfl rfl) (pmk_le T.le_InvalidPage T.li_InvalidPage T.lt_InvalidPage (ok_InvalidPage___init__ T) (hr.mono (by decide)) rfl T.g_InvalidPage (b_InvalidPage___init__ T.d_InvalidPage___init__) pass0 (pa_cons (pv 1) pa_nil)))) pss_nil)), ?_⟩
    unfold sp_Packing_check_page at h
    obtain ⟨a, p, first, pages, v, rfl, hpk, ok, c, o, q, e⟩ := h
    obtain ⟨dx, t, l, h1, h2, h3⟩ := id hpk
    walk_at "rd"
    refine use_isint o fun b hb => ?_
    cases b with
    | false =>
      have n : ¬ ∃ i, v = .int i := fun z => by cases hb.2 z
      walk_at "rd"
      exact mk_xi fun d nd => e (fun ⟨m, z, _⟩ => n ⟨_, z⟩) d _ nd (same_new nd) upd_same
    | true =>
      obtain ⟨i, rfl⟩ := hb.1 rfl
      walk_at "rd"
      refine iteB (fun c1 => ?_) (fun c1 => ?_)
      · have c1 := of_decide_eq_true c1
        walk_at "rd"
        exact mk_xi fun d nd => e (fun ⟨m, z, _⟩ => by cases z; omega) d _ nd (same_new nd) upd_same
      · have c1 := of_decide_eq_false c1
        obtain ⟨m, rfl⟩ : ∃ m : Nat, i = (m : Int) := ⟨i.toNat, by omega⟩
        walk_at "rd"
        refine use_start rfl hpk ok c fun G g => ?_
        walk_at "rd"
        refine iteB (fun c2 => ?_) (fun c2 => ?_)
        · have c2 := of_decide_eq_true c2
          walk_at "rd"
          exact mk_xi fun d nd => e (fun ⟨m', z, z2⟩ => by cases z; omega) d _ (g.free nd) (g.trans (same_new nd)) upd_same
        · have c2 := of_decide_eq_false c2
          walk_at "rd"
          exact q ⟨m, rfl, by omega⟩ G g

@[irreducible] def sp_Packing_first_row (K : PySem.W.Frag) : Sp := fun vs H Q E => ∃ (a : Addr) (p : Prt) (first pages : Nat) (v : V), vs = [.ref a, v] ∧ PkAt K H a p first pages ∧ p.Ok ∧ Cyc p first pages ∧ Ov Any H v ∧ (∀ n : Nat, v = .int n → startN p n < 1000000000000000000000000000000 → ∀ H', Same H H' → Q (.int (startN p n)) H') ∧ (¬ IsPg p v → EPg K v H E)
theorem use_first_rowX {K : PySem.W.Frag} {a : Addr} {p : Prt} {first pages : Nat} {v : V} {H : Hp} {Q : VK} {E : XK} (h : PkAt K H a p first pages) (ok : p.Ok) (c : Cyc p first pages) (o : Ov Any H v)
  (q : ∀ n : Nat, v = .int n → startN p n < 1000000000000000000000000000000 → ∀ H', Same H H' → Q (.int (startN p n)) H') (e : ¬ IsPg p v → EPg K v H E) : sp_Packing_first_row K [.ref a, v] H Q E := by unfold sp_Packing_first_row; exact ⟨a, p, first, pages, v, rfl, h, ok, c, o, q, e⟩
theorem b_Packing_first_row {K : PySem.W.Frag} {fd : FuncData} (F : F_Packing_first_row K fd) : Binds K fd P_Packing_first_row [] := FunD.bindsN F fun _ _ _ _ _ _ us hl => match us, hl with | [_, _], _ => rfl
theorem ok_Packing_first_row (T : Txt K mg base D) : FnOk P w K mg base (L2.CX P w) 4 (He.fAd K ("Packing", some "first_row")) (D D_Packing_first_row) P_Packing_first_row (sp_Packing_first_row K) := by
  refine T.d_Packing_first_row.ok sc_Packing_first_row (fun vs H Q E h => ?_) (fun cdv A outer s H vs Q E hr h => ?_)
  · unfold sp_Packing_first_row at h
    first | (obtain ⟨rfl, _⟩ := h; rfl) | (obtain ⟨_, rfl, _⟩ := h; rfl) | (obtain ⟨_, _, rfl, _⟩ := h; rfl) | (obtain ⟨_, _, _, rfl, _⟩ := h; rfl) | (obtain ⟨_, _, _, _, rfl, _⟩ := h; rfl) | (obtain ⟨_, _, _, _, _, rfl, _⟩ := h; rfl) | (obtain ⟨_, _, _, _, _, _, rfl, _⟩ := h; rfl) | (obtain ⟨_, _, _, _, _, _, _, rfl, _⟩ := h; rfl) | (obtain ⟨_, _, _, _, _, _, _, _, rfl, _⟩ := h; rfl) | (obtain ⟨_, _, _, _, _, _, _, _, _, rfl, _⟩ := h; rfl) | (obtain ⟨_, _, _, _, _, _, _, _, _, _, rfl, _⟩ := h; rfl) | (obtain ⟨_, _, _, _, _, _, _, _, _, _, _, rfl, _⟩ := h; rfl)
  · refine ⟨_, (pss_cons (ps_expr (pe_meth (pv 0) T.c_Packing T.m_Packing_check_page (ok_Packing_check_page T) (hr.mono (by decide)) (b_Packing_check_page T.d_Packing_check_page) .nil (L2.passes_call (takes_of rfl rfl rfl rfl) (fun _ _ _ _ h => h)) (pa_cons (pv 1) pa_nil)))
      (pss_one (ps_ret (pe_meth (pv 0) T.c_Packing T.m_Packing_start (ok_Packing_start T) (hr.mono (by decide)) (b_Packing_start T.d_Packing_start) .nil pass0 (pa_cons (pv 1) pa_nil))))), ?_⟩
    unfold sp_Packing_first_row at h
    obtain ⟨a, p, first, pages, v, rfl, hpk, ok, c, o, q, e⟩ := h
    obtain ⟨dx, t, l, h1, h2, h3⟩ := id hpk
    walk_at "rd"
    refine use_check_pageX hpk ok c o (fun ⟨n, ev, hn⟩ G g => ?_) e
    subst ev
    have h1' := g _ _ h1
    walk_at "rd"
    refine use_start rfl (hpk.same g) ok c fun G2 g2 => ?_
    exact q n rfl hn G2 (g.trans g2)

@[irreducible] def sp_Packing_rows_on (K : PySem.W.Frag) : Sp := fun vs H Q E => ∃ (a : Addr) (p : Prt) (first pages : Nat) (v : V), vs = [.ref a, v] ∧ PkAt K H a p first pages ∧ p.Ok ∧ Cyc p first pages ∧ Ov Any H v ∧ (∀ n : Nat, v = .int n → startN p n < 1000000000000000000000000000000 → ∀ H', Same H H' → Q (.int (rowsF p (startN p n))) H') ∧ (¬ IsPg p v → EPg K v H E)
theorem use_rows_onX {K : PySem.W.Frag} {a : Addr} {p : Prt} {first pages : Nat} {v : V} {H : Hp} {Q : VK} {E : XK} (h : PkAt K H a p first pages) (ok : p.Ok) (c : Cyc p first pages) (o : Ov Any H v)
  (q : ∀ n : Nat, v = .int n → startN p n < 1000000000000000000000000000000 → ∀ H', Same H H' → Q (.int (rowsF p (startN p n))) H') (e : ¬ IsPg p v → EPg K v H E) : sp_Packing_rows_on K [.ref a, v] H Q E := by unfold sp_Packing_rows_on; exact ⟨a, p, first, pages, v, rfl, h, ok, c, o, q, e⟩
theorem b_Packing_rows_on {K : PySem.W.Frag} {fd : FuncData} (F : F_Packing_rows_on K fd) : Binds K fd P_Packing_rows_on [] := FunD.bindsN F fun _ _ _ _ _ _ us hl => match us, hl with | [_, _], _ => rfl
theorem ok_Packing_rows_on (T : Txt K mg base D) : FnOk P w K mg base (L2.CX P w) 4 (He.fAd K ("Packing", some "rows_on")) (D D_Packing_rows_on) P_Packing_rows_on (sp_Packing_rows_on K) := by
  refine T.d_Packing_rows_on.ok sc_Packing_rows_on (fun vs H Q E h => ?_) (fun cdv A outer s H vs Q E hr h => ?_)
  · unfold sp_Packing_rows_on at h
    first | (obtain ⟨rfl, _⟩ := h; rfl) | (obtain ⟨_, rfl, _⟩ := h; rfl) | (obtain ⟨_, _, rfl, _⟩ := h; rfl) | (obtain ⟨_, _, _, rfl, _⟩ := h; rfl) | (obtain ⟨_, _, _, _, rfl, _⟩ := h; rfl) | (obtain ⟨_, _, _, _, _, rfl, _⟩ := h; rfl) | (obtain ⟨_, _, _, _, _, _, rfl, _⟩ := h; rfl) | (obtain ⟨_, _, _, _, _, _, _, rfl, _⟩ := h; rfl) | (obtain ⟨_, _, _, _, _, _, _, _, rfl, _⟩ := h; rfl) | (obtain ⟨_, _, _, _, _, _, _, _, _, rfl, _⟩ := h; rfl) | (obtain ⟨_, _, _, _, _, _, _, _, _, _, rfl, _⟩ := h; rfl) | (obtain ⟨_, _, _, _, _, _, _, _, _, _, _, rfl, _⟩ := h; rfl)
  · refine ⟨_, (pss_cons (ps_expr (pe_meth (pv 0) T.c_Packing T.m_Packing_check_page (ok_Packing_check_page T) (hr.mono (by decide)) (b_Packing_check_page T.d_Packing_check_page) .nil (L2.passes_call (takes_of rfl rfl rfl rfl) (fun _ _ _ _ h => h)) (pa_cons (pv 1) pa_nil)))
      (pss_one (ps_ret (pe_op op_sub (pe_meth (pv 0) T.c_Packing T.m_Packing_start (ok_Packing_start T) (hr.mono (by decide)) (b_Packing_start T.d_Packing_start) .nil pass0 (pa_cons (pe_op op_add (pv 1) pe_int) pa_nil)) (pe_meth (pv 0) T.c_Packing T.m_Packing_start (ok_Packing_start T) (hr.mono (by decide)) (b_Packing_start T.d_Packing_start) .nil pass0 (pa_cons (pv 1) pa_nil)))))), ?_⟩
    unfold sp_Packing_rows_on at h
    obtain ⟨a, p, first, pages, v, rfl, hpk, ok, c, o, q, e⟩ := h
    obtain ⟨dx, t, l, h1, h2, h3⟩ := id hpk
    walk_at "rd"
    refine use_check_pageX hpk ok c o (fun ⟨n, ev, hn⟩ G g => ?_) e
    subst ev
    have h1' := g _ _ h1
    walk_at "rd"
    refine use_start (n := n + 1) rfl (hpk.same g) ok c fun G2 g2 => ?_
    have h1'' := g2 _ _ h1'
    walk_at "rd"
    refine use_start rfl (hpk.same (g.trans g2)) ok c fun G3 g3 => ?_
    have e : ((startN p (n + 1) : Nat) : Int) - (startN p n : Int) = (rowsF p (startN p n) : Int) := by simp only [startN]; omega
    have q := q n rfl hn G3 ((g.trans g2).trans g3)
    rw [← e] at q
    walk_at "rd"
    exact q

@[irreducible] def sp_Packing_units_on (K : PySem.W.Frag) : Sp := fun vs H Q E => ∃ (a : Addr) (p : Prt) (first pages : Nat) (v : V), vs = [.ref a, v] ∧ PkAt K H a p first pages ∧ p.Ok ∧ Cyc p first pages ∧ Ov Any H v ∧ (∀ n : Nat, v = .int n → startN p n < 1000000000000000000000000000000 → ∀ H', Same H H' → Q (.int (usum p (startN p n) (rowsF p (startN p n)))) H') ∧ (¬ IsPg p v → EPg K v H E)
theorem use_units_onX {K : PySem.W.Frag} {a : Addr} {p : Prt} {first pages : Nat} {v : V} {H : Hp} {Q : VK} {E : XK} (h : PkAt K H a p first pages) (ok : p.Ok) (c : Cyc p first pages) (o : Ov Any H v)
  (q : ∀ n : Nat, v = .int n → startN p n < 1000000000000000000000000000000 → ∀ H', Same H H' → Q (.int (usum p (startN p n) (rowsF p (startN p n)))) H') (e : ¬ IsPg p v → EPg K v H E) : sp_Packing_units_on K [.ref a, v] H Q E := by unfold sp_Packing_units_on; exact ⟨a, p, first, pages, v, rfl, h, ok, c, o, q, e⟩
theorem b_Packing_units_on {K : PySem.W.Frag} {fd : FuncData} (F : F_Packing_units_on K fd) : Binds K fd P_Packing_units_on [] := FunD.bindsN F fun _ _ _ _ _ _ us hl => match us, hl with | [_, _], _ => rfl
theorem ok_Packing_units_on (T : Txt K mg base D) : FnOk P w K mg base (L2.CX P w) 4 (He.fAd K ("Packing", some "units_on")) (D D_Packing_units_on) P_Packing_units_on (sp_Packing_units_on K) := by
  refine T.d_Packing_units_on.ok sc_Packing_units_on (fun vs H Q E h => ?_) (fun cdv A outer s H vs Q E hr h => ?_)
  · unfold sp_Packing_units_on at h
    first | (obtain ⟨rfl, _⟩ := h; rfl) | (obtain ⟨_, rfl, _⟩ := h; rfl) | (obtain ⟨_, _, rfl, _⟩ := h; rfl) | (obtain ⟨_, _, _, rfl, _⟩ := h; rfl) | (obtain ⟨_, _, _, _, rfl, _⟩ := h; rfl) | (obtain ⟨_, _, _, _, _, rfl, _⟩ := h; rfl) | (obtain ⟨_, _, _, _, _, _, rfl, _⟩ := h; rfl) | (obtain ⟨_, _, _, _, _, _, _, rfl, _⟩ := h; rfl) | (obtain ⟨_, _, _, _, _, _, _, _, rfl, _⟩ := h; rfl) | (obtain ⟨_, _, _, _, _, _, _, _, _, rfl, _⟩ := h; rfl) | (obtain ⟨_, _, _, _, _, _, _, _, _, _, rfl, _⟩ := h; rfl) | (obtain ⟨_, _, _, _, _, _, _, _, _, _, _, rfl, _⟩ := h; rfl)
  · refine ⟨_, (pss_cons (ps_expr (pe_meth (pv 0) T.c_Packing T.m_Packing_check_page (ok_Packing_check_page T) (hr.mono (by decide)) (b_Packing_check_page T.d_Packing_check_page) .nil (L2.passes_call (takes_of rfl rfl rfl rfl) (fun _ _ _ _ h => h)) (pa_cons (pv 1) pa_nil)))
      (pss_one (ps_ret (pe_meth (pv 0) T.c_Packing T.m_Packing_units_of (ok_Packing_units_of T) (hr.mono (by decide)) (b_Packing_units_of T.d_Packing_units_of) .nil pass0 (pa_cons (pe_meth (pv 0) T.c_Packing T.m_Packing_start (ok_Packing_start T) (hr.mono (by decide)) (b_Packing_start T.d_Packing_start) .nil pass0 (pa_cons (pv 1) pa_nil)) (pa_cons (pe_meth (pv 0) T.c_Packing T.m_Packing_start (ok_Packing_start T) (hr.mono (by decide)) (b_Packing_start T.d_Packing_start) .nil pass0 (pa_cons (pe_op op_add (pv 1) pe_int) pa_nil)) pa_nil)))))), ?_⟩
    unfold sp_Packing_units_on at h
    obtain ⟨a, p, first, pages, v, rfl, hpk, ok, c, o, q, e⟩ := h
    obtain ⟨dx, t, l, h1, h2, h3⟩ := id hpk
    walk_at "rd"
    refine use_check_pageX hpk ok c o (fun ⟨n, ev, hn⟩ G g => ?_) e
    subst ev
    have h1' := g _ _ h1
    walk_at "rd"
    refine use_start rfl (hpk.same g) ok c fun G2 g2 => ?_
    have h1'' := g2 _ _ h1'
    walk_at "rd"
    refine use_start (n := n + 1) rfl (hpk.same (g.trans g2)) ok c fun G3 g3 => ?_
    have hl := rowsF_le ok (startN p n)
    walk_at "rd"
    refine use_units_of (r := startN p n) (k := rowsF p (startN p n)) rfl (by simp only [startN]; omega) (pk_base (hpk.same ((g.trans g2).trans g3))) ok (by omega) fun G4 g4 => ?_
    exact q n rfl hn G4 (((g.trans g2).trans g3).trans g4)

theorem ofs_ok (s : String) : PyData.strOk (Str.ofString s) = true := by
  unfold PyData.strOk
  rw [PySem.Str.ofString_eq_toList]
  show ((s.toList.map Char.toNat).toArray.all fun c => decide (c < 0x110000)) = true
  rw [List.all_toArray, List.all_eq_true]
  intro x hx
  obtain ⟨c, _, rfl⟩ := List.mem_map.mp hx
  refine decide_eq_true ?_
  have h : c.toNat < 0xd800 ∨ (0xdfff < c.toNat ∧ c.toNat < 0x110000) := c.valid
  omega
/-- an object whose text is told -/
structure Shw (K : PySem.W.Frag) (H : Hp) (v : V) (d : PyData) : Prop where
  dq : Dq K H v d
  sh : d.showable = true
  dp : d.depth ≤ 10
  ln : d.shown.length ≤ 5000
  ok : PyData.strOk d.shown = true
mutual
theorem Dq.ext {K : PySem.W.Frag} {H H' : Hp} (e : ExtN H H') : ∀ (d : PyData) (v : V), Dq K H v d → Dq K H' v d
  | .none, _, h => by cases h; exact .non
  | .bool b, _, h => by cases h; exact .bl b
  | .int i, _, h => by cases h; exact .int i
  | .str x, _, h => by cases h; exact .str x
  | .list ds, _, h => by
    cases h with
    | lst hs ha => exact .lst (extN_seq e hs) (Dq.extAll e ds _ ha)
  | .tuple ds, _, h => by
    cases h with
    | tup hs ha => exact .tup (hs.imp (fun h => h.imp (fun h => e _ _ h fun _ z => nomatch z) fun ⟨o, h⟩ => ⟨o, e _ _ h fun _ z => nomatch z⟩) id) (Dq.extAll e ds _ ha)
  | .dict _, _, h => by
    cases h with
    | dct hs => exact .dct (e _ _ hs fun _ z => nomatch z)
theorem Dq.extAll {K : PySem.W.Frag} {H H' : Hp} (e : ExtN H H') : ∀ (ds : List PyData) (vs : List V), DqAll K H vs ds → DqAll K H' vs ds
  | [], _, h => by cases h; exact .nil
  | d :: ds, _, h => by
    cases h with
    | cons h1 h2 => exact .cons (Dq.ext e d _ h1) (Dq.extAll e ds _ h2)
end
theorem Shw.ext {K : PySem.W.Frag} {H H' : Hp} {v : V} {d : PyData} (h : Shw K H v d) (e : ExtN H H') : Shw K H' v d := ⟨Dq.ext e _ _ h.dq, h.sh, h.dp, h.ln, h.ok⟩
theorem use_repr {K : PySem.W.Frag} {H : Hp} {v : V} {d : PyData} {Q : VK} (h : Shw K H v d) (q : Q (.str d.shown) H) : rRepr K [v] H Q := by unfold rRepr; exact ⟨v, d, rfl, h.dq, h.sh, Nat.le_trans h.dp (by decide), szl (Nat.le_trans h.ln (by decide)), q⟩
theorem log2_ok {i : Int} (h : i.natAbs ≤ 100000000000000000000000000000000000000000000000000) : i.natAbs.log2 < 1920 := log2_lt (Nat.lt_of_le_of_lt h (by decide +kernel)) (by decide)
theorem shw_int {K : PySem.W.Frag} {H : Hp} {i : Int} (h : i.natAbs ≤ 100000000000000000000000000000000000000000000000000) : Shw K H (.int i) (.int i) :=
  ⟨.int i, decide_eq_true (log2_ok h), Nat.le_of_ble_eq_true rfl, by
    have := int_text_length_le (k := 1920) (by decide) (log2_ok h)
    show (Str.ofString (toString i)).length ≤ 5000
    rw [PySem.ofString_length]
    omega, ofs_ok _⟩
theorem shw_bl {K : PySem.W.Frag} {H : Hp} (b : Bool) : Shw K H (.bl b) (.bool b) := ⟨.bl b, rfl, Nat.le_of_ble_eq_true rfl, by cases b <;> exact Nat.le_of_ble_eq_true (by decide +kernel), by cases b <;> decide +kernel⟩
theorem shw_non {K : PySem.W.Frag} {H : Hp} : Shw K H .non .none := ⟨.non, rfl, Nat.le_of_ble_eq_true rfl, Nat.le_of_ble_eq_true (by decide +kernel), by decide +kernel⟩
theorem shw_str0 {K : PySem.W.Frag} {H : Hp} : Shw K H (.str "0") (.str "0") := ⟨.str _, rfl, Nat.le_of_ble_eq_true rfl, Nat.le_of_ble_eq_true (by decide +kernel), by decide +kernel⟩
theorem shw_lst0 {K : PySem.W.Frag} {H : Hp} {a : Addr} (h : H a = some (.lst [.int 0])) : Shw K H (.ref a) (.list [.int 0]) := ⟨.lst (SqL.of h) (.cons (.int 0) .nil), by decide +kernel, Nat.le_of_ble_eq_true rfl, Nat.le_of_ble_eq_true (by decide +kernel), by decide +kernel⟩
theorem shw_tup0 {K : PySem.W.Frag} {H : Hp} {a : Addr} (h : H a = some (.tup [.int 0])) : Shw K H (.ref a) (.tuple [.int 0]) := ⟨.tup (SqT.of h) (.cons (.int 0) .nil), by decide +kernel, Nat.le_of_ble_eq_true rfl, Nat.le_of_ble_eq_true (by decide +kernel), by decide +kernel⟩
theorem shw_dct0 {K : PySem.W.Frag} {H : Hp} {a : Addr} (h : H a = some (.dK [])) : Shw K H (.ref a) (.dict []) := ⟨.dct h, rfl, Nat.le_of_ble_eq_true rfl, Nat.le_of_ble_eq_true (by decide +kernel), by decide +kernel⟩
/-- the text of a list of one -/
theorem repr_one {K : PySem.W.Frag} {H : Hp} {a : Addr} {v : V} {d : PyData} {Q : VK} (h : H a = some (.lst [v])) (s : Shw K H v d) (q : Q (.str (PyData.list [d]).shown) H) : rRepr K [.ref a] H Q := by
  unfold rRepr
  refine ⟨.ref a, .list [d], rfl, .lst (SqL.of h) (.cons s.dq .nil), ?_, ?_, ?_, q⟩
  · show (d.showable && true) = true
    rw [s.sh]
    rfl
  · have := s.dp
    show max d.depth 0 + 1 ≤ 50
    omega
  · have h1 := shownLen_on .list d
    have h2 := s.ln
    refine szl ?_
    show (Wrap.list.on d).shown.length ≤ 100000
    rw [h1]
    show d.shown.length + 2 ≤ 100000
    omega
/-- a value that is refused; where it is an integer, it keeps P -/
structure OddV (K : PySem.W.Frag) (H : Hp) (P : Int → Prop) (v : V) : Prop where
  o : Ov Any H v
  s : ∃ d, Shw K H v d
  b : ∀ i, v = .int i → P i
theorem OddV.ext {K : PySem.W.Frag} {H H' : Hp} {P : Int → Prop} {v : V} (h : OddV K H P v) (e : ExtN H H') : OddV K H' P v := by
  refine ⟨?_, let ⟨d, z⟩ := h.s; ⟨d, z.ext e⟩, h.b⟩
  have o := h.o
  cases o with
  | non => exact .non
  | bl b => exact .bl b
  | int i => exact .int i
  | str s => exact .str s
  | lst f hh => exact .lst f (e _ _ hh fun _ z => nomatch z)
  | tup f hh => exact .tup f (e _ _ hh fun _ z => nomatch z)
  | dct f hh => exact .dct f (e _ _ hh fun _ z => nomatch z)
theorem odv_int {K : PySem.W.Frag} {H : Hp} {P : Int → Prop} {i : Int} (h : i.natAbs ≤ 100000000000000000000000000000000000000000000000000) (p : P i) : OddV K H P (.int i) := ⟨.int i, ⟨_, shw_int h⟩, fun j e => by cases e; exact p⟩
theorem odv_bl {K : PySem.W.Frag} {H : Hp} {P : Int → Prop} (b : Bool) : OddV K H P (.bl b) := ⟨.bl b, ⟨_, shw_bl b⟩, fun j e => by cases e⟩
theorem odv_non {K : PySem.W.Frag} {H : Hp} {P : Int → Prop} : OddV K H P .non := ⟨.non, ⟨_, shw_non⟩, fun j e => by cases e⟩
theorem odv_str0 {K : PySem.W.Frag} {H : Hp} {P : Int → Prop} : OddV K H P (.str "0") := ⟨.str _, ⟨_, shw_str0⟩, fun j e => by cases e⟩
theorem odv_lst0 {K : PySem.W.Frag} {H : Hp} {P : Int → Prop} {a : Addr} (h : H a = some (.lst [.int 0])) : OddV K H P (.ref a) := ⟨.lst True.intro h, ⟨_, shw_lst0 h⟩, fun j e => by cases e⟩
theorem odv_tup0 {K : PySem.W.Frag} {H : Hp} {P : Int → Prop} {a : Addr} (h : H a = some (.tup [.int 0])) : OddV K H P (.ref a) := ⟨.tup True.intro h, ⟨_, shw_tup0 h⟩, fun j e => by cases e⟩
theorem odv_dct0 {K : PySem.W.Frag} {H : Hp} {P : Int → Prop} {a : Addr} (h : H a = some (.dK [])) : OddV K H P (.ref a) := ⟨.dct True.intro h, ⟨_, shw_dct0 h⟩, fun j e => by cases e⟩
def TT_law_said (K : PySem.W.Frag) : (XK → Hp → VK → Prop) → Hp → VK → Prop := fun tl H Q => ∀ Q2 : VK, (∀ v H', Q (.str "none") H' → Q2 v H') →
  tl (fun cls d H' => cls = .ref (He.ga K "InvalidPage") ∧ ∃ dd v x, d = some dd ∧ H' dd = some (.xd [("page", v)]) ∧ Shw K H' v x ∧ Q (.str x.shown) H') H Q2
theorem b_law_said {K : PySem.W.Frag} {fd : FuncData} (F : F_law_said K fd) : Binds K fd P_law_said [] := FunD.bindsN F fun _ _ _ _ _ _ us hl => match us, hl with | [_], _ => rfl
theorem gv_law_said {X : Cx} (T : Txt X.K X.mg X.base D) (hgd0 : X.A.guards = some []) (hr0 : Room 1 X.A) {q : Str} {cdv : Value} : GivesTo X N_law_said "_law_said" (defScope s_law_said) (He.fAd X.K ("_law_said", none)) cdv (defBody s_law_said) "ask" q (TT_law_said X.K) := by
  intro f c' s H Q tl act hc h
  have hr : Room 0 (X.A.deeper (envOfC "_law_said" (defScope s_law_said) s.heap.objs.size (He.fAd X.K ("_law_said", none)) cdv)) := hr0.deeper _
  have hgd : (X.A.deeper (envOfC "_law_said" (defScope s_law_said) s.heap.objs.size (He.fAd X.K ("_law_said", none)) cdv)).guards = some [] := hgd0
  refine ⟨_, (pss_cons (ps_tryN rfl rfl L2.takes0 (fun W pn xe tk po => (pss_one (ps_expr (pe_ask rfl (fun Ech W2 tk2 hW => act W2 pn xe Ech _ _ tk2 hW) tk)))) (HdsN.named (i := 1) sc_law_said.nd rfl rfl ⟨rfl, by decide, Or.inl T.g_StoreError⟩ (fun ex oe cl dd pn hz hf => (pss_cons (ps_if (PW.pt (pw_or (pt_not (pt_val (pe_callB (call_isLe hz hf) (by rfl) T.n_isinstance (by decide +kernel) (pa_cons (pv 1) (pa_cons (pe_glob (v := .ref (He.ga X.K "InvalidPage")) rfl T.g_InvalidPage rfl) pa_nil))))) (pw_or (pt_val (pe_callB (call_isLe hz hf) (by rfl) T.n_isinstance (by decide +kernel) (pa_cons (pv 1) (pa_cons (pe_glob (v := .ref (He.ga X.K "InvalidRow")) rfl T.g_InvalidRow rfl) pa_nil)))) (pw_or1 (pt_val (pe_callB (call_isLe hz hf) (by rfl) T.n_isinstance (by decide +kernel) (pa_cons (pv 1) (pa_cons (pe_glob (v := .ref (He.ga X.K "InvalidNumber")) rfl T.g_InvalidNumber rfl) pa_nil)))))))) (pss_one (ps_ret pe_str)) pss_nil)
      (pss_one (ps_ret (pe_callB (call_repr (K := X.K) hgd hr.units T.sm) (by rfl) T.n_repr (by decide +kernel) (pa_cons (pe_xf T.le_InvalidPage.xf T.ln_InvalidPage_page hz hf (pv 1)) pa_nil)))))) HdsN.nil))
      (pss_one (ps_ret pe_str))), ?_⟩
  unfold TT_law_said at h
  refine ⟨_, ?_, rfl, hc, h _ ?_⟩
  · rintro cls d σ' H' hl ⟨rfl, dd, v, x, rfl, hd, sx, q⟩
    obtain ⟨x1, x2, rfl⟩ : ∃ x1 x2, σ' = [x1, x2] := by
      match σ', hl with
      | [x1, x2], _ => exact ⟨x1, x2, rfl⟩
    refine ⟨true, T.xm_InvalidPage_StoreError, fun _ ex nex => ?_, fun z => by cases z⟩
    walk_at "rd"
    refine ⟨_, _, dd, _, _, rfl, rfl, rfl, hd, T.le_InvalidPage, T.ic_InvalidPage, T.kk_InvalidPage_InvalidPage, ?_⟩
    walk_at "rd"
    refine ⟨_, _, dd, _, _, rfl, rfl, rfl, hd, T.le_InvalidPage, T.ic_InvalidPage, T.kk_InvalidPage_InvalidRow, ?_⟩
    walk_at "rd"
    refine ⟨_, _, dd, _, _, rfl, rfl, rfl, hd, T.le_InvalidPage, T.ic_InvalidPage, T.kk_InvalidPage_InvalidNumber, ?_⟩
    walk_at "s1"
    walk_at "s1"
    refine ⟨rfl, rfl, dd, _, _, rfl, hd, rfl, ?_⟩
    refine use_repr sx ?_
    exact q
  · intro v H' q
    walk_at "rd"
    exact q

theorem PkAt.ext {K : PySem.W.Frag} {H H' : Hp} {a : Addr} {p : Prt} {first pages : Nat} (h : PkAt K H a p first pages) (s : ExtN H H') : PkAt K H' a p first pages := let ⟨dx, t, l, h1, h2, h3⟩ := h; ⟨dx, t, l, s _ _ h1 fun _ z => (nomatch z), s _ _ h2 fun _ z => (nomatch z), s _ _ h3 fun _ z => (nomatch z)⟩
/-- what is told of a value in the place of a page -/
def Said (K : PySem.W.Frag) (H : Hp) (p : Prt) (v : V) (w : Str) : Prop := Ov Any H v ∧ ((IsPg p v ∧ w = "none") ∨ (¬ IsPg p v ∧ ∃ d, Shw K H v d ∧ w = d.shown))
theorem Said.ext {K : PySem.W.Frag} {H H' : Hp} {p : Prt} {v : V} {w : Str} (h : Said K H p v w) (e : ExtN H H') : Said K H' p v w := by
  obtain ⟨o, h⟩ := h
  refine ⟨?_, h.imp id fun ⟨n, d, s, z⟩ => ⟨n, d, s.ext e, z⟩⟩
  cases o with
  | non => exact .non
  | bl b => exact .bl b
  | int i => exact .int i
  | str s => exact .str s
  | lst f hh => exact .lst f (e _ _ hh fun _ z => nomatch z)
  | tup f hh => exact .tup f (e _ _ hh fun _ z => nomatch z)
  | dct f hh => exact .dct f (e _ _ hh fun _ z => nomatch z)
theorem Said.yes {K : PySem.W.Frag} {H : Hp} {p : Prt} {v : V} {w : Str} (h : Said K H p v w) (i : IsPg p v) : w = "none" := h.2.elim (fun z => z.2) fun z => absurd i z.1
theorem Said.no {K : PySem.W.Frag} {H : Hp} {p : Prt} {v : V} {w : Str} (h : Said K H p v w) (i : ¬ IsPg p v) : ∃ d, Shw K H v d ∧ w = d.shown := h.2.elim (fun z => absurd z.1 i) fun z => z.2
/-- one asking -/
theorem said_of {K : PySem.W.Frag} {tl : XK → Hp → VK → Prop} {H : Hp} {p : Prt} {v : V} {w : Str} {Cont : VK} (sd : Said K H p v w)
    (run : ∀ (Q2 : VK) (E : XK), (∀ u G, Same H G → IsPg p v → Q2 u G) → (¬ IsPg p v → EPg K v H E) → tl E H Q2) (cont : ∀ G, Same H G → Cont (.str w) G) : TT_law_said K tl H Cont := by
  unfold TT_law_said
  intro Q2 hQ2
  refine run Q2 _ (fun u G g ip => hQ2 u G (by have := cont G g; rw [sd.yes ip] at this; exact this)) fun ni d G nd g hd => ?_
  obtain ⟨x, sx, hx⟩ := sd.no ni
  exact ⟨rfl, d, v, x, rfl, hd, sx.ext g.extN, by have := cont G g; rw [hx] at this; exact this⟩
@[irreducible] def sp_law_pages_said (K : PySem.W.Frag) : Sp := fun vs H Q _ => ∃ (a : Addr) (p : Prt) (first pages : Nat) (v : V) (w : Str), vs = [.ref a, v] ∧ PkAt K H a p first pages ∧ p.Ok ∧ Cyc p first pages ∧ Said K H p v w ∧ Tabs (lamT K) H ∧
  ∀ q H', ExtN H H' → Tabs (lamT K) H' → H' q = some (.lst [.str w, .str w, .str w]) → Q (.ref q) H'
theorem use_pages_said {K : PySem.W.Frag} {a : Addr} {p : Prt} {first pages : Nat} {v : V} {w : Str} {H : Hp} {Q : VK} {E : XK} (h : PkAt K H a p first pages) (ok : p.Ok) (c : Cyc p first pages) (s : Said K H p v w) (t : Tabs (lamT K) H)
  (k : ∀ q H', ExtN H H' → Tabs (lamT K) H' → H' q = some (.lst [.str w, .str w, .str w]) → Q (.ref q) H') : sp_law_pages_said K [.ref a, v] H Q E := by unfold sp_law_pages_said; exact ⟨a, p, first, pages, v, w, rfl, h, ok, c, s, t, k⟩
theorem b_law_pages_said {K : PySem.W.Frag} {fd : FuncData} (F : F_law_pages_said K fd) : Binds K fd P_law_pages_said [] := FunD.bindsN F fun _ _ _ _ _ _ us hl => match us, hl with | [_, _], _ => rfl
theorem ok_law_pages_said (T : Txt K mg base D) : FnG P w K mg base CX0 7 (He.fAd K ("_law_pages_said", none)) (D D_law_pages_said) P_law_pages_said (sp_law_pages_said K) := by
  refine okG T.d_law_pages_said sc_law_pages_said (fun vs H Q E h => ?_) (fun A outer s H vs Q E hgd hr h => ?_)
  · unfold sp_law_pages_said at h
    first | (obtain ⟨rfl, _⟩ := h; rfl) | (obtain ⟨_, rfl, _⟩ := h; rfl) | (obtain ⟨_, _, rfl, _⟩ := h; rfl) | (obtain ⟨_, _, _, rfl, _⟩ := h; rfl) | (obtain ⟨_, _, _, _, rfl, _⟩ := h; rfl) | (obtain ⟨_, _, _, _, _, rfl, _⟩ := h; rfl) | (obtain ⟨_, _, _, _, _, _, rfl, _⟩ := h; rfl) | (obtain ⟨_, _, _, _, _, _, _, rfl, _⟩ := h; rfl) | (obtain ⟨_, _, _, _, _, _, _, _, rfl, _⟩ := h; rfl) | (obtain ⟨_, _, _, _, _, _, _, _, _, rfl, _⟩ := h; rfl) | (obtain ⟨_, _, _, _, _, _, _, _, _, _, rfl, _⟩ := h; rfl) | (obtain ⟨_, _, _, _, _, _, _, _, _, _, _, rfl, _⟩ := h; rfl)
  · refine ⟨_, PSs.nox (pss_cons (ps_set (i := 2) sc_law_pages_said.nd rfl (Or.inl rfl) (pe_lst (pa_cons (pe_lamF (k := 4) (T := lamT K) T.d_law_said (b_law_said T.d_law_said) rfl T.g_law_said sc_law_said rfl (.inl rfl) (fun cdv => gv_law_said T hgd (hr.mono (by decide))) (tb_law_pages_said T) rfl lm_law_pages_said (lu_law_pages_said T) (hr.mono (by decide)) (lamS_by (sc := defScope s_law_pages_said) (by decide +kernel)) rfl (fun _ _ _ _ _ => rfl) (fun A outer s H E f c' hr => (pe_meth (pv 0) T.c_Packing T.m_Packing_first_row (ok_Packing_first_row T) (hr.mono (by decide)) (b_Packing_first_row T.d_Packing_first_row) .nil (L2.passes_call (takes_of rfl rfl rfl rfl) (fun _ _ _ _ h => h)) (pa_cons (pv 1) pa_nil)))) pa_nil)))
      (pss_cons (ps_expr (pe_bm PySem.F.plainAttrs_list PySem.F.slot_list_append PySem.F.type_list_append mt_append (pv 2) (pa_cons (pe_lamF (k := 4) (T := lamT K) T.d_law_said (b_law_said T.d_law_said) rfl T.g_law_said sc_law_said rfl (.inl rfl) (fun cdv => gv_law_said T hgd (hr.mono (by decide))) (tb_law_pages_said T) rfl lm_law_pages_said (lu_law_pages_said T) (hr.mono (by decide)) (lamS_by (sc := defScope s_law_pages_said) (by decide +kernel)) rfl (fun _ _ _ _ _ => rfl) (fun A outer s H E f c' hr => (pe_meth (pv 0) T.c_Packing T.m_Packing_rows_on (ok_Packing_rows_on T) (hr.mono (by decide)) (b_Packing_rows_on T.d_Packing_rows_on) .nil (L2.passes_call (takes_of rfl rfl rfl rfl) (fun _ _ _ _ h => h)) (pa_cons (pv 1) pa_nil)))) pa_nil)))
      (pss_cons (ps_expr (pe_bm PySem.F.plainAttrs_list PySem.F.slot_list_append PySem.F.type_list_append mt_append (pv 2) (pa_cons (pe_lamF (k := 4) (T := lamT K) T.d_law_said (b_law_said T.d_law_said) rfl T.g_law_said sc_law_said rfl (.inl rfl) (fun cdv => gv_law_said T hgd (hr.mono (by decide))) (tb_law_pages_said T) rfl lm_law_pages_said (lu_law_pages_said T) (hr.mono (by decide)) (lamS_by (sc := defScope s_law_pages_said) (by decide +kernel)) rfl (fun _ _ _ _ _ => rfl) (fun A outer s H E f c' hr => (pe_meth (pv 0) T.c_Packing T.m_Packing_units_on (ok_Packing_units_on T) (hr.mono (by decide)) (b_Packing_units_on T.d_Packing_units_on) .nil (L2.passes_call (takes_of rfl rfl rfl rfl) (fun _ _ _ _ h => h)) (pa_cons (pv 1) pa_nil)))) pa_nil)))
      (pss_one (ps_ret (pv 2)))))), ?_⟩
    unfold sp_law_pages_said at h
    obtain ⟨a, p, first, pages, v, w, rfl, hpk, ok, c, sd, hT, k⟩ := h
    walk_at "rd"
    intro M1 g1 t1
    have e1 : ExtN H M1 := g1
    have k1 := hpk.ext e1
    obtain ⟨dx1, tt1, ll1, hk1, _, _⟩ := id k1
    refine said_of (sd.ext e1) (fun Q2 E yes no => ?_) (fun N1 s1 => ?_)
    · walk_at "rd"
      exact use_first_rowX k1 ok c (sd.ext e1).1 (fun n ev hn G g => yes _ G g ⟨n, ev, hn⟩) no
    have x1 : ExtN H N1 := e1.trans s1.extN
    have y1 : Tabs (lamT K) N1 := t1.ext s1
    walk_at "rd"
    intro q nq
    generalize eZ1 : upd _ q _ = Z1
    obtain ⟨sq, cq⟩ := gen_new nq eZ1
    clear eZ1
    have nH : ∀ b o, H b = some o → (∀ ps, o ≠ .tbl ps) → b ≠ q := fun b o h z e => by
      have := x1 b o h z
      rw [e, nq] at this
      cases this
    have xz1 : ExtN H Z1 := x1.trans sq.extN
    have yz1 : Tabs (lamT K) Z1 := y1.ext sq
    walk_at "rd"
    refine ⟨.inl ⟨rfl, _, SqL.of cq⟩, ?_⟩
    walk_at "rd"
    intro M2 g2 t2
    have e2 : ExtN H M2 := xz1.trans g2
    have k2 := hpk.ext e2
    obtain ⟨dx2, tt2, ll2, hk2, _, _⟩ := id k2
    refine said_of (sd.ext e2) (fun Q2 E yes no => ?_) (fun N2 s2 => ?_)
    · walk_at "rd"
      exact use_rows_onX k2 ok c (sd.ext e2).1 (fun n ev hn G g => yes _ G g ⟨n, ev, hn⟩) no
    have x2 : ExtN H N2 := e2.trans s2.extN
    have y2 : Tabs (lamT K) N2 := t2.ext s2
    walk_at "rd"
    have cq2 := s2 _ _ (g2 _ _ cq fun _ z => nomatch z)
    refine ⟨_, _, _, rfl, rfl, cq2, szlt (Nat.le_of_ble_eq_true rfl), ?_⟩
    generalize ez2 : upd N2 q _ = Z2
    obtain ⟨gz2, cz2⟩ := gen_st ez2
    clear ez2
    have xz2 : ExtN H Z2 := fun b o h z => gz2 _ _ (nH b o h z) (x2 _ _ h z)
    have yz2 : Tabs (lamT K) Z2 := tabs_sb y2 cq2 gz2
    walk_at "rd"
    refine ⟨.inl ⟨rfl, _, SqL.of cz2⟩, ?_⟩
    walk_at "rd"
    intro M3 g3 t3
    have e3 : ExtN H M3 := xz2.trans g3
    have k3 := hpk.ext e3
    obtain ⟨dx3, tt3, ll3, hk3, _, _⟩ := id k3
    refine said_of (sd.ext e3) (fun Q2 E yes no => ?_) (fun N3 s3 => ?_)
    · walk_at "rd"
      exact use_units_onX k3 ok c (sd.ext e3).1 (fun n ev hn G g => yes _ G g ⟨n, ev, hn⟩) no
    have x3 : ExtN H N3 := e3.trans s3.extN
    have y3 : Tabs (lamT K) N3 := t3.ext s3
    walk_at "rd"
    have cq3 := s3 _ _ (g3 _ _ cz2 fun _ z => nomatch z)
    refine ⟨_, _, _, rfl, rfl, cq3, szlt (Nat.le_of_ble_eq_true rfl), ?_⟩
    generalize ez3 : upd N3 q _ = Z3
    obtain ⟨gz3, cz3⟩ := gen_st ez3
    clear ez3
    have xz3 : ExtN H Z3 := fun b o h z => gz3 _ _ (nH b o h z) (x3 _ _ h z)
    have yz3 : Tabs (lamT K) Z3 := tabs_sb y3 cq3 gz3
    walk_at "rd"
    exact k q Z3 xz3 yz3 cz3

@[irreducible] def sp_law_right (K : PySem.W.Frag) : Sp := fun vs H Q _ => ∃ (s : Addr), vs = [.ref s] ∧ Src H s ∧ Tabs (lamT K) H ∧ ∀ H', EB s H H' → Src H' s → Tabs (lamT K) H' → Q (.bl true) H'
theorem use_right {K : PySem.W.Frag} {s : Addr} {H : Hp} {Q : VK} {E : XK} (h : Src H s) (t : Tabs (lamT K) H) (k : ∀ H', EB s H H' → Src H' s → Tabs (lamT K) H' → Q (.bl true) H') : sp_law_right K [.ref s] H Q E := by unfold sp_law_right; exact ⟨s, rfl, h, t, k⟩
theorem src_tabs {T : List (Addr × Str)} {s : Addr} {H H1 : Hp} (t : Tabs T H) (h : Src H s) (a : SB s H H1) : Tabs T H1 := let ⟨_, _, _, hs⟩ := h; tabs_sb t hs a
/- sizes -/
theorem usum_hi {p : Prt} (ok : p.Ok) (r k : Nat) (h : k ≤ rowsF p r) : (k : Int) ≤ p.size := by
  have h1 := usum_ge ok r (rowsF p r)
  have h2 := (rowsF_ok ok r).1
  omega
theorem start_le_size' {p : Prt} (ok : p.Ok) : ∀ n : Nat, (startN p n : Int) ≤ p.size * (n : Int)
  | 0 => by simp [startN]
  | n + 1 => by
    have h1 := start_le_size' ok n
    have h2 := usum_hi ok (startN p n) _ (Nat.le_refl _)
    have e : p.size * ((n + 1 : Nat) : Int) = p.size * (n : Int) + p.size := by push_cast; rw [Int.mul_add, Int.mul_one]
    rw [e]
    simp only [startN]
    push_cast
    omega
theorem neL_str3 {K : PySem.W.Frag} {H : Hp} {a b : Addr} {w : Str} {Q : VK} (h1 : H a = some (.lst [.str w, .str w, .str w])) (h2 : H b = some (.lst [.str w, .str w, .str w])) (ok : PyData.strOk w = true) (q : Q (.bl false) H) : rNeN K (.ref a) (.ref b) H Q := by
  have nb : NB (.list [.str w, .str w, .str w]) := by
    refine ⟨?_, Nat.le_of_ble_eq_true rfl⟩
    show (PyData.strOk w && (PyData.strOk w && (PyData.strOk w && true))) = true
    rw [ok]
    rfl
  refine use_neN (.lst (SqL.of h1) (.cons (.str w) (.cons (.str w) (.cons (.str w) .nil)))) (.lst (SqL.of h2) (.cons (.str w) (.cons (.str w) (.cons (.str w) .nil)))) nb nb fun c hc => ?_
  cases c with
  | false => exact q
  | true => exact absurd rfl (hc.1 rfl)
theorem last_facts {p : Prt} (ok : p.Ok) {n : Nat} (on : On p 999999999999999999999999999999 n) : startN p n < 1000000000000000000000000000000 ∧ 2 ≤ n ∧ n ≤ 999999999999999999999999999999 ∧ ∀ m : Nat, n < m → ¬ startN p m < 1000000000000000000000000000000 := by
  have h1 := on.1
  have h2 := on.2
  refine ⟨by omega, ?_, on.le ok, fun m hm hz => ?_⟩
  · by_cases z : 2 ≤ n
    · exact z
    · have h3 := start_le_size' ok (n + 1)
      have h4 := ok.s1
      have h5 : p.size * ((n + 1 : Nat) : Int) ≤ 64 * 2 := Int.mul_le_mul h4 (by omega) (by omega) (by decide)
      omega
  · have := start_mono ok (show n + 1 ≤ m by omega)
    omega
theorem b_law_right {K : PySem.W.Frag} {fd : FuncData} (F : F_law_right K fd) : Binds K fd P_law_right [] := FunD.bindsN F fun _ _ _ _ _ _ us hl => match us, hl with | [_], _ => rfl
theorem ok_law_right (T : Txt K mg base D) : FnG P w K mg base CX0 8 (He.fAd K ("_law_right", none)) (D D_law_right) P_law_right (sp_law_right K) := by
  refine okG T.d_law_right sc_law_right (fun vs H Q E h => ?_) (fun A outer s H vs Q E hgd hr h => ?_)
  · unfold sp_law_right at h
    first | (obtain ⟨rfl, _⟩ := h; rfl) | (obtain ⟨_, rfl, _⟩ := h; rfl) | (obtain ⟨_, _, rfl, _⟩ := h; rfl) | (obtain ⟨_, _, _, rfl, _⟩ := h; rfl) | (obtain ⟨_, _, _, _, rfl, _⟩ := h; rfl) | (obtain ⟨_, _, _, _, _, rfl, _⟩ := h; rfl) | (obtain ⟨_, _, _, _, _, _, rfl, _⟩ := h; rfl) | (obtain ⟨_, _, _, _, _, _, _, rfl, _⟩ := h; rfl) | (obtain ⟨_, _, _, _, _, _, _, _, rfl, _⟩ := h; rfl) | (obtain ⟨_, _, _, _, _, _, _, _, _, rfl, _⟩ := h; rfl) | (obtain ⟨_, _, _, _, _, _, _, _, _, _, rfl, _⟩ := h; rfl) | (obtain ⟨_, _, _, _, _, _, _, _, _, _, _, rfl, _⟩ := h; rfl)
  · refine ⟨_, PSs.nox (pss_cons (ps_set (i := 1) sc_law_right.nd rfl (Or.inl rfl) (pe_make T.mk_Packing (ok_Packing___init__ T) (hr.mono (by decide)) rfl T.g_Packing (b_Packing___init__ T.d_Packing___init__) .nil pass0 (pa_cons (pe_call (ok_law_settings T) (hr.mono (by decide)) rfl T.g_law_settings T.d_law_settings.kp (b_law_settings T.d_law_settings) .nil pass0 (pa_cons (pe_call (ok_law_parts T) (hr.mono (by decide)) rfl T.g_law_parts T.d_law_parts.kp (b_law_parts T.d_law_parts) .nil pass0 (pa_cons (pv 0) pa_nil)) pa_nil)) pa_nil)))
      (pss_cons (ps_set (i := 2) sc_law_right.nd rfl (Or.inl rfl) (pe_meth (pv 1) T.c_Packing T.m_Packing_page_of (ok_Packing_page_of T) (hr.mono (by decide)) (b_Packing_page_of T.d_Packing_page_of) .nil pass0 (pa_cons (pe_op op_sub (pe_powc (c := 1000000000000000000000000000000) (by decide)) pe_int) pa_nil)))
      (pss_cons (ps_set (i := 3) sc_law_right.nd rfl (Or.inl rfl) (pe_lst (pa_cons pe_non (pa_cons pe_bl (pa_cons pe_bl (pa_cons pe_str (pa_cons (pe_lst (pa_cons pe_int pa_nil)) (pa_cons (pe_tup (pa_cons pe_int pa_nil)) (pa_cons pe_dnewK (pa_cons (pe_un un_neg pe_int) (pa_cons (pe_un un_neg pe_int) (pa_cons (pe_op op_add (pv 2) pe_int) (pa_cons (pe_op op_add (pv 2) pe_int) (pa_cons (pe_powc (c := 1000000000000000000000000000000) (by decide)) (pa_cons (pe_powc (c := 10000000000000000000000000000000000000000) (by decide)) pa_nil)))))))))))))))
      (pss_cons (ps_for PassesOwn.never rfl (pi_list (pe_op (op_catSK (K := K)) (pv 3) (pe_lst (pa_cons (pe_op op_add (pe_op op_add (pv 2) pe_int) (pe_call (ok_law_draw T) (hr.mono (by decide)) rfl T.g_law_draw T.d_law_draw.kp (b_law_draw T.d_law_draw) .nil pass0 (pa_cons (pv 0) (pa_cons (pe_powc (c := 1000000000) (by decide)) pa_nil)))) (pa_cons (pe_op op_sub (pe_op op_sub pe_int (pe_call (ok_law_draw T) (hr.mono (by decide)) rfl T.g_law_draw T.d_law_draw.kp (b_law_draw T.d_law_draw) .nil pass0 (pa_cons (pv 0) (pa_cons (pe_powc (c := 1000000000) (by decide)) pa_nil)))) pe_int) pa_nil))))) (pg_name (i := 4) sc_law_right.nd rfl (Or.inl rfl)) (pss_one (ps_if (pt_cmpR (op_neNK (K := K) hr.units) (pe_callG hgd (ok_law_pages_said T) (hr.mono (by decide)) rfl T.g_law_pages_said T.d_law_pages_said.kp (b_law_pages_said T.d_law_pages_said) (pa_cons (pv 1) (pa_cons (pv 4) pa_nil))) (pe_op op_rep (pe_lst (pa_cons (pe_callB (call_repr (K := K) hgd hr.units T.sm) (by rfl) T.n_repr (by decide +kernel) (pa_cons (pv 4) pa_nil)) pa_nil)) pe_int) (nomark _)) (pss_one (ps_ret pe_bl)) pss_nil)))
      (pss_cons (ps_for PassesOwn.never rfl (pi_list (pe_lst (pa_cons pe_int (pa_cons pe_int (pa_cons (pe_op op_sub (pv 2) pe_int) (pa_cons (pv 2) pa_nil)))))) (pg_name (i := 5) sc_law_right.nd rfl (Or.inl rfl)) (pss_one (ps_if (pt_cmpR (op_neNK (K := K) hr.units) (pe_callG hgd (ok_law_pages_said T) (hr.mono (by decide)) rfl T.g_law_pages_said T.d_law_pages_said.kp (b_law_pages_said T.d_law_pages_said) (pa_cons (pv 1) (pa_cons (pv 5) pa_nil))) (pe_op op_rep (pe_lst (pa_cons pe_str pa_nil)) pe_int) (nomark _)) (pss_one (ps_ret pe_bl)) pss_nil)))
      (pss_one (ps_ret pe_bl))))))), ?_⟩
    unfold sp_law_right at h
    obtain ⟨s, rfl, hs, hT, k⟩ := h
    walk_at "rd"
    refine use_parts hs fun a H2 p f2 hs2 ok hp hpk => ?_
    obtain ⟨s21, s22, s23, hs20⟩ := id hs2
    walk_at "rd"
    refine use_settings hp ok fun b H3 n3 s3 hst => ?_
    walk_at "rd"
    intro e de n4 nde nee
    generalize eH4 : upd (upd _ de _) e _ = H4
    obtain ⟨s4, c4⟩ := gen_mk n4 nde eH4
    clear eH4
    refine use_packing_init c4 (hst.same s4) ok fun H5 f1 p1 s5 cyc hpk5 pkeep => ?_
    obtain ⟨kx, kt, kl, hk5, _, _⟩ := id hpk5
    walk_at "rd"
    refine use_page_of (r := 999999999999999999999999999999) rfl hpk5 ok cyc (by decide) fun n H6 on s6 => ?_
    obtain ⟨lf1, lf2, lf3, lf4⟩ := last_facts ok on
    have nes : e ≠ s := (ne_of_none (s3 _ _ hs20) n4).symm
    have hs60 := s6 _ _ (s5 _ _ nes.symm (s4 _ _ (s3 _ _ hs20)))
    have t6 : Tabs (lamT K) H6 := (((src_tabs hT hs f2).ext s3).ext ((same_sb_new s4 s5 n4))).ext s6
    have f6 : EB s H H6 := ((f2.eb.trans (s3.trans (same_sb_new s4 s5 n4)).sb.eb)).trans s6.sb.eb
    have hpk6 := hpk5.same s6
    walk_at "rd"
    intro z1 o1
    generalize eL1 : upd _ z1 _ = L1
    obtain ⟨r1, e1⟩ := gen_new o1 eL1
    clear eL1
    walk_at "rd"
    intro z2 o2
    generalize eL2 : upd _ z2 _ = L2
    obtain ⟨r2, e2⟩ := gen_new o2 eL2
    clear eL2
    walk_at "rd"
    intro z3 o3
    generalize eL3 : upd _ z3 _ = L3
    obtain ⟨r3, e3⟩ := gen_new o3 eL3
    clear eL3
    walk_at "rd"
    intro z4 o4
    generalize eL4 : upd _ z4 _ = L4
    obtain ⟨r4, e4⟩ := gen_new o4 eL4
    clear eL4
    have r14 : Same H6 L4 := ((r1.trans r2).trans r3).trans r4
    have e14 := r4 _ _ (r3 _ _ (r2 _ _ e1))
    have e24 := r4 _ _ (r3 _ _ e2)
    have e34 := r4 _ _ e3
    have hs4' := r14 _ _ hs60
    walk_at "rd"
    refine use_draw (by omega) (by omega) ⟨_, _, _, hs4'⟩ fun i1 L5 i1a i1b r5 hs5 => ?_
    walk_at "rd"
    refine use_draw (by omega) (by omega) hs5 fun i2 L6 i2a i2b r6 hs6 => ?_
    obtain ⟨v1, v2, v3, hs6'⟩ := id hs6
    walk_at "rd"
    intro z7 o7
    generalize eL7 : upd _ z7 _ = L7
    obtain ⟨r7, e7⟩ := gen_new o7 eL7
    clear eL7
    have r56 : SB s L4 L6 := r5.trans r6
    have nz1 : z1 ≠ s := ne_of e14 hs4' (by intro z; injection z with z; cases z)
    have nz2 : z2 ≠ s := ne_of e24 hs4' (by intro z; cases z)
    have nz3 : z3 ≠ s := ne_of e34 hs4' (by intro z; cases z)
    have nz4 : z4 ≠ s := (ne_of_none (r3 _ _ (r2 _ _ (r1 _ _ hs60))) o4).symm
    have e17 := r7 _ _ (r56 _ _ nz1 e14)
    have e27 := r7 _ _ (r56 _ _ nz2 e24)
    have e37 := r7 _ _ (r56 _ _ nz3 e34)
    have e47 := r7 _ _ (r56 _ _ nz4 e4)
    refine ⟨_, _, _, _, rfl, rfl, SqL.of e47, SqL.of e7, Nat.le_of_ble_eq_true rfl, fun z8 L8 o8 r8 e8 => ?_⟩
    have fL : EB s H L8 := ((f6.trans r14.sb.eb).trans r56.eb).trans (r7.trans r8).sb.eb
    have tL : Tabs (lamT K) L8 := ((src_tabs (t6.ext r14) ⟨_, _, _, hs4'⟩ r56).ext r7).ext r8
    have hsL := r8 _ _ (r7 _ _ hs6')
    have hpkL : PkAt K L8 e p f1 p1 := pkeep s _ L8 (s4 _ _ (s3 _ _ hs20)) fun q o n' h => r8 _ _ (r7 _ _ (r56 _ _ n' (r14 _ _ (s6 _ _ h))))
    obtain ⟨O, hO, e8'⟩ : ∃ O : List V, (∀ v ∈ O, OddV K L8 (fun i => ∀ m : Nat, i = (m : Int) → ¬ startN p m < 1000000000000000000000000000000) v) ∧ L8 z8 = some (.lst O) := by
      refine ⟨_, ?_, e8⟩
      intro v hv
      simp only [List.cons_append, List.nil_append, List.mem_cons, List.mem_nil_iff, or_false] at hv
      rcases hv with rfl | rfl | rfl | rfl | rfl | rfl | rfl | rfl | rfl | rfl | rfl | rfl | rfl | rfl | rfl
      · exact odv_non
      · exact odv_bl _
      · exact odv_bl _
      · exact odv_str0
      · exact odv_lst0 (r8 _ _ e17)
      · exact odv_tup0 (r8 _ _ e27)
      · exact odv_dct0 (r8 _ _ e37)
      · exact odv_int (by omega) fun m hm => by omega
      · exact odv_int (by omega) fun m hm => by omega
      · exact odv_int (by omega) fun m hm => lf4 m (by omega)
      · exact odv_int (by omega) fun m hm => lf4 m (by omega)
      · exact odv_int (by omega) fun m hm => lf4 m (by omega)
      · exact odv_int (by omega) fun m hm => lf4 m (by omega)
      · exact odv_int (by omega) fun m hm => lf4 m (by omega)
      · exact odv_int (by omega) fun m hm => by omega
    have fin : ∀ G, ExtN L8 G → EB s H G ∧ Src G s := fun G g => ⟨fL.trans (extN_eb g), _, _, _, g _ _ hsL fun _ z => nomatch z⟩
    walk_at "rd"
    refine for_list (xs := O) (fun i σ G => ∃ w5, σ = [some (.ref s), some (.ref e), some (.int (n : Int)), some (.ref z4), w5, none] ∧ ExtN L8 G ∧ Tabs (lamT K) G) ⟨_, rfl, ExtN.refl _, tL⟩ ?_ ?_ ?_
    · rintro i σ G _ ⟨w5, rfl, g, _⟩
      exact SqL.of (g _ _ e8' fun _ z => nomatch z)
    · rintro i x σ G hx ⟨w5, rfl, g, tG⟩
      have ho := (hO x (List.mem_of_getElem? hx)).ext g
      obtain ⟨dx, hdx⟩ := ho.s
      walk_at "rd"
      refine use_pages_said (w := dx.shown) (hpkL.ext g) ok cyc ⟨ho.o, .inr ⟨fun ⟨m, em, hm⟩ => ho.b _ em m rfl hm, dx, hdx, rfl⟩⟩ tG fun q G1 g1 t1 hq => ?_
      have hd1 := hdx.ext g1
      walk_at "rd"
      refine use_repr hd1 ?_
      walk_at "rd"
      intro q2 n2
      generalize eG2 : upd _ q2 _ = G2
      obtain ⟨g2, c2⟩ := gen_new n2 eG2
      clear eG2
      walk_at "rd"
      refine ⟨_, 3, _, rfl, rfl, c2, by decide, by decide, szl (Nat.le_of_ble_eq_true rfl), ?_⟩
      intro q3 n3
      generalize eG3 : upd _ q3 _ = G3
      obtain ⟨g3, c3⟩ := gen_new n3 eG3
      clear eG3
      refine neL_str3 (g3 _ _ (g2 _ _ hq)) c3 hdx.ok ?_
      walk_at "rd"
      exact ⟨(g.trans g1).trans (g2.trans g3).extN, (t1.ext g2).ext g3⟩
    · rintro σ G ⟨w5, rfl, g, tG⟩
      walk_at "rd"
      intro y1 m1
      generalize eJ1 : upd _ y1 _ = J1
      obtain ⟨j1, d1⟩ := gen_new m1 eJ1
      clear eJ1
      obtain ⟨P, hP, d1'⟩ : ∃ P : List V, (∀ v ∈ P, Ov Any J1 v ∧ IsPg p v) ∧ J1 y1 = some (.lst P) := by
        refine ⟨_, ?_, d1⟩
        intro v hv
        simp only [List.mem_cons, List.mem_nil_iff, or_false] at hv
        have sm := start_le_size' ok 1
        have s1 := ok.s1
        have m0 : startN p 0 = 0 := rfl
        have mm := start_mono ok (show n - 1 ≤ n by omega)
        rcases hv with rfl | rfl | rfl | rfl
        · exact ⟨.int _, 0, rfl, by omega⟩
        · exact ⟨.int _, 1, rfl, by omega⟩
        · exact ⟨.int _, n - 1, congrArg V.int (by omega), by omega⟩
        · exact ⟨.int _, n, rfl, lf1⟩
      walk_at "rd"
      refine for_list (xs := P) (fun i σ G' => ∃ w6, σ = [some (.ref s), some (.ref e), some (.int (n : Int)), some (.ref z4), w5, w6] ∧ ExtN J1 G' ∧ Tabs (lamT K) G') ⟨_, rfl, ExtN.refl _, tG.ext j1⟩ ?_ ?_ ?_
      · rintro i σ G' _ ⟨w6, rfl, g', _⟩
        exact SqL.of (g' _ _ d1' fun _ z => nomatch z)
      · rintro i x σ G' hx ⟨w6, rfl, g', tG'⟩
        obtain ⟨o, ip⟩ := hP x (List.mem_of_getElem? hx)
        have o' : Ov Any G' x := by
          obtain ⟨m, rfl, _⟩ := ip
          exact .int _
        walk_at "rd"
        refine use_pages_said (w := "none") (hpkL.ext ((g.trans j1.extN).trans g')) ok cyc ⟨o', .inl ⟨ip, rfl⟩⟩ tG' fun q G1 g1 t1 hq => ?_
        walk_at "rd"
        intro q2 n2
        generalize eG2 : upd _ q2 _ = G2
        obtain ⟨g2, c2⟩ := gen_new n2 eG2
        clear eG2
        walk_at "rd"
        refine ⟨_, 3, _, rfl, rfl, c2, by decide, by decide, szl (Nat.le_of_ble_eq_true rfl), ?_⟩
        intro q3 n3
        generalize eG3 : upd _ q3 _ = G3
        obtain ⟨g3, c3⟩ := gen_new n3 eG3
        clear eG3
        refine neL_str3 (g3 _ _ (g2 _ _ hq)) c3 (by decide +kernel) ?_
        walk_at "rd"
        exact ⟨(g'.trans g1).trans (g2.trans g3).extN, (t1.ext g2).ext g3⟩
      · rintro σ G' ⟨w6, rfl, g', tG'⟩
        walk_at "rd"
        obtain ⟨a1, a2⟩ := fin G' ((g.trans j1.extN).trans g')
        exact k G' a1 a2 tG'

@[irreducible] def sp_law (K : PySem.W.Frag) : Sp := fun vs H Q _ => ∃ (a : Addr) (ns : List Int), vs = [.ref a] ∧ SqL K H a (ns.map V.int) ∧ ns.length ≤ 63 ∧ Tabs (lamT K) H ∧ ∀ H', Q (.bl true) H'
theorem b_law {K : PySem.W.Frag} {fd : FuncData} (F : F_law K fd) : Binds K fd P_law [] := FunD.bindsN F fun _ _ _ _ _ _ us hl => match us, hl with | [_], _ => rfl
theorem ok_law (T : Txt K mg base D) : FnG P w K mg base CX0 9 (He.fAd K ("law", none)) (D D_law) P_law (sp_law K) := by
  refine okG T.d_law sc_law (fun vs H Q E h => ?_) (fun A outer s H vs Q E hgd hr h => ?_)
  · unfold sp_law at h
    first | (obtain ⟨rfl, _⟩ := h; rfl) | (obtain ⟨_, rfl, _⟩ := h; rfl) | (obtain ⟨_, _, rfl, _⟩ := h; rfl) | (obtain ⟨_, _, _, rfl, _⟩ := h; rfl) | (obtain ⟨_, _, _, _, rfl, _⟩ := h; rfl) | (obtain ⟨_, _, _, _, _, rfl, _⟩ := h; rfl) | (obtain ⟨_, _, _, _, _, _, rfl, _⟩ := h; rfl) | (obtain ⟨_, _, _, _, _, _, _, rfl, _⟩ := h; rfl) | (obtain ⟨_, _, _, _, _, _, _, _, rfl, _⟩ := h; rfl) | (obtain ⟨_, _, _, _, _, _, _, _, _, rfl, _⟩ := h; rfl) | (obtain ⟨_, _, _, _, _, _, _, _, _, _, rfl, _⟩ := h; rfl) | (obtain ⟨_, _, _, _, _, _, _, _, _, _, _, rfl, _⟩ := h; rfl)
  · refine ⟨_, PSs.nox (pss_cons (ps_for PassesOwn.never rfl (pi_range1 (by rfl) T.n_range (pa_cons (pe_callB (call_max2 rfl) (by rfl) T.n_max (by decide +kernel) (pa_cons pe_int (pa_cons (pe_callB (call_min2 rfl) (by rfl) T.n_min (by decide +kernel) (pa_cons pe_int (pa_cons (pe_callB (call_lenK (K := K)) (by rfl) T.n_len (by decide +kernel) (pa_cons (pv 0) pa_nil)) pa_nil))) pa_nil))) pa_nil)) (pg_name (i := 1) sc_law.nd rfl (Or.inl rfl)) (pss_cons (ps_set (i := 2) sc_law.nd rfl (Or.inl rfl) (pe_call (ok_law_source T) (hr.mono (by decide)) rfl T.g_law_source T.d_law_source.kp (b_law_source T.d_law_source) .nil pass0 (pa_cons (pv 0) (pa_cons (pv 1) pa_nil))))
      (pss_one (ps_if (pt_not (pt_val (pe_callG hgd (ok_law_right T) (hr.mono (by decide)) rfl T.g_law_right T.d_law_right.kp (b_law_right T.d_law_right) (pa_cons (pv 2) pa_nil)))) (pss_one (ps_ret pe_bl)) pss_nil))))
      (pss_one (ps_ret pe_bl))), ?_⟩
    unfold sp_law at h
    obtain ⟨a, ns, rfl, hS, hl, hT, k⟩ := h
    walk_at "rd"
    refine ⟨_, _, rfl, .inl hS, ?_⟩
    walk_at "rd"
    generalize hn : Int.toNat _ = n
    have hn2 : n ≤ 63 := by
      subst hn
      simp only [List.length_map]
      (repeat' split) <;> omega
    refine for_range (lo := 0) (n := n) (fun i σ H' => ∃ v1 v2, σ = [some (.ref a), v1, v2] ∧ ExtN H H' ∧ Tabs (lamT K) H') ⟨_, _, rfl, ExtN.refl _, hT⟩ ?_ ?_
    · rintro i σ H1 hi ⟨v1, v2, rfl, f1, t1⟩
      walk_at "rd"
      refine use_source (extN_seq f1 hS) (by omega) fun s H2 n2 s2 h2 => ?_
      walk_at "rd"
      refine use_right h2 (t1.ext s2) fun H3 s3 h3 t3 => ?_
      walk_at "rd"
      exact ⟨fun b o h z => s3 b o (ne_of_none (f1 b o h z) n2) (s2 _ _ (f1 b o h z)) z, t3⟩
    · rintro σ H1 ⟨v1, v2, rfl, f1, _⟩
      walk_at "rd"
      exact k _

end
end KR
open PySem PySem.W PySem.Calls PyProof.Rows in
set_option maxRecDepth 100000 in
set_option maxHeartbeats 0 in
theorem PySem.Challenge.cw_keeprows_k11_heap_pages_refused_holds : PySem.Challenge.rw_keeprows_k11_heap_pages_refused.Holds := by
  w_on; o_law
  refine HandSHeadRun.head_any (r := OpenLaw.row PySem.Challenge.rw_keeprows_k11_heap_pages_refused) (q := view (OpenLaw.row PySem.Challenge.rw_keeprows_k11_heap_pages_refused).prog [33]) (H := KR.hk) (ob := KR.ob) (M := 4000) (loose := KR.looseN) (d := HandSHeadRun.topDef (OpenLaw.row PySem.Challenge.rw_keeprows_k11_heap_pages_refused).prog 33) (kwd := []) KR.ob_eq
    (by kernel_rfl) (fun s => by kernel_rfl) KR.run (by kernel_rfl) (by kernel_rfl) (by kernel_rfl) (by rfl) (by first | assumption | decide +kernel) (by decide +kernel) ⟨rfl, rfl, rfl, rfl, rfl, by decide +kernel⟩ ?hw ?hc
  case hw => w_witness2
  case hc =>
    refine KR.walkG (l := PySem.Challenge.rw_keeprows_k11_heap_pages_refused) (n := 63) (k := 9) (x := "script") rfl (by decide) (by kernel_rfl) ⟨rfl, by decide, by decide⟩ ?F
    intro w mg fa h Y G hmg0
    obtain ⟨K, KX, c⟩ := Y
    have hmg : mg ("law" : PySem.Str) = some (.ref fa) := by
      have e : (HandSHeadRun.topDef (OpenLaw.row PySem.Challenge.rw_keeprows_k11_heap_pages_refused).prog 33).name = ("law" : PySem.Str) := by kernel_rfl
      rw [← e]
      exact hmg0
    obtain ⟨D, T⟩ := KR.txt_of KX G c.d c.more
    have e1 := hmg.symm.trans T.g_law
    cases e1
    refine ⟨K, KX, D KR.D_law, KR.tfl.map (He.cT K), KR.sp_law K, fun p hp => ?_, fun s v => L2.FunD.bindsA (ps := ["script"]) T.d_law (fun _ _ _ _ _ _ us hl => match us, hl with | [_], _ => rfl) s [v] rfl, fun H a ns hl hH hS => ?_, fun base _ _ hT => KR.ok_law ⟨T, hT⟩⟩
    · obtain ⟨q, hq, rfl⟩ := List.mem_map.mp hp
      exact ⟨c.hd q hq, c.out q hq, c.empty q hq⟩
    · unfold KR.sp_law
      exact ⟨a, ns, rfl, hS, hl, KR.tabs_start hH, fun _ => rfl⟩
