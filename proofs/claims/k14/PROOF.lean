import PyProof.Rows.All
import Wide.All
import OpenK.AllK
import Wide.FinOn
import HandS.ForMost
import HandS.Exc
import HandS.TryOnly
import HandS.TryMany
import HandS.WordsExc
import HandS.Defaults
import HandS.MakeKwOnly
import HandS.IsInst
import HandS.Sort
import HandS.OwnEq
import HandS.NoneIn
import HandS.Conv
import HandS.Flow
import HandS.Wide
import HandS.Evl
import HandS.Style
import HandS.Head0
import HandS.Head1
import HandS.Head2
import HandS.HeadEnd
import HandS.HeadHook1
import HandS.HeadHook2
import KE.KStateDown
import PyProof.LongRange
import HandS.Strs
import HandS.SortInts
import HandS.Deep
import PyProof.SliceList
import PySem.Challenge.RW_keeprows_k14_trees_near
set_option Elab.async false
set_option linter.all false
set_option maxRecDepth 100000
set_option maxHeartbeats 16000000
set_option pp.deepTerms false
set_option pp.deepTerms.threshold 2
namespace KR
open PySem PySem.Spec PyProof.Rows L2
/-! ### small rules -/
theorem iteB {c : Bool} {A B : Prop} (h1 : c = true → A) (h2 : c = false → B) : if c = true then A else B := by
  cases c with
  | true => exact h1 rfl
  | false => exact h2 rfl
theorem iteT_of {c : Bool} {A B : Prop} (h : c = true) (a : A) : if c = true then A else B := by subst h; exact iteT a
theorem iteF_of {c : Bool} {A B : Prop} (h : c = false) (b : B) : if c = true then A else B := by subst h; exact iteF b
@[irreducible] def rIsiI (K : PySem.W.Frag) : List V → Hp → VK → Prop := rIsi K
theorem call_isiI {X : Cx} : CallR X (.builtin "isinstance") (rIsiI X.K) := by unfold rIsiI; exact call_isi
theorem isi_int {K : PySem.W.Frag} {H : Hp} {i : Int} {Q : VK} (q : Q (.bl true) H) : rIsiI K [.int i, .ty "int"] H Q := by
  unfold rIsiI; exact ⟨_, _, _, _, true, rfl, .ty _, .base (.int i), kit_ty (by decide +kernel), q⟩
theorem isi_bool {K : PySem.W.Frag} {H : Hp} {i : Int} {Q : VK} (q : Q (.bl false) H) : rIsiI K [.int i, .ty "bool"] H Q := by
  unfold rIsiI; exact ⟨_, _, _, _, false, rfl, .ty _, .base (.int i), kit_ty (by decide +kernel), q⟩
theorem isi_list {K : PySem.W.Frag} {H : Hp} {a : Addr} {xs : List V} {Q : VK} (h : H a = some (.lst xs)) (q : Q (.bl true) H) : rIsiI K [.ref a, .ty "list"] H Q := by
  unfold rIsiI; exact ⟨_, _, _, _, true, rfl, .ty _, .base (.lst h), kit_ty (by decide +kernel), q⟩
theorem pe_le {X : Cx} {e : Expr} {t t' : TE} (h : PE X e t) (k : ∀ σ H Q, t' σ H Q → t σ H Q) : PE X e t' := ⟨fun pins s σ H Q I hw => h.run pins s σ H Q I (k σ H Q hw)⟩
theorem pe_powc {X : Cx} {a b c : Int} {i j : Nat} {p1 p2 pos : Pos} (h : 0 ≤ b ∧ b ≤ 1000000 ∧ a.natAbs < 2 ^ 64 ∧ a ^ b.toNat = c) :
    PE X (.BinOp (.Constant (.int a) i p1) .Pow (.Constant (.int b) j p2) pos) (tC (.int c)) :=
  pe_le (pe_op op_pow pe_int pe_int) fun σ H Q q => ⟨a, b, rfl, rfl, ⟨h.1, h.2.1, h.2.2.1⟩, (show Q (.int (a ^ b.toNat)) H by rw [h.2.2.2]; exact q)⟩
theorem pe_globi {X : Cx} {x : Str} {i : Int} {pos : Pos} (hm : ∃ t, X.mg x = some (.int i t)) (hg : Gl X x := by rfl) (hd : (x == ("__debug__" : Str)) = false := by decide) : PE X (.Name x pos) (tC (.int i)) := by
  obtain ⟨t, h⟩ := hm
  exact pe_glob hg h ⟨t, rfl⟩ hd
/-! ### side conditions of numbers -/
theorem log2_lt {n : Nat} {k : Nat} (h : n < 2 ^ k) (hk : 0 < k) : n.log2 < k := by
  by_cases hn : n = 0
  · subst hn; simpa using hk
  · exact (Nat.log2_lt hn).2 h
theorem cdw {i j : Int} (h0 : 0 < j) (h1 : j ≤ 1000000000000000000000000000000000000000000) : CDivW i j :=
  ⟨h0, log2_lt (Nat.lt_of_lt_of_le (Nat.lt_succ_of_le (show j.natAbs ≤ 1000000000000000000000000000000000000000000 by omega)) (by decide +kernel)) (by decide)⟩
theorem cdv {i j : Int} (h0 : 0 < j) (h1 : j < 1073741824) : CDiv i j := ⟨h0, h1⟩
theorem cml {i j : Int} (h0 : -18446744073709551616 < i) (h1 : i < 18446744073709551616) : CMul i j := .inl ⟨h0, h1⟩
theorem cmr {i j : Int} (h0 : -18446744073709551616 < j) (h1 : j < 18446744073709551616) : CMul i j := .inr ⟨h0, h1⟩
/-! ### heaps: what was tracked stands, but for one address -/
def SB (s : Addr) (H H' : Hp) : Prop := ∀ b o, b ≠ s → H b = some o → H' b = some o
theorem SB.refl {s : Addr} {H : Hp} : SB s H H := fun _ _ _ h => h
theorem SB.trans {s : Addr} {H H1 H2 : Hp} (a : SB s H H1) (b : SB s H1 H2) : SB s H H2 := fun c o n h => b c o n (a c o n h)
theorem _root_.L2.Same.sb {s : Addr} {H H' : Hp} (a : Same H H') : SB s H H' := fun c o _ h => a c o h
theorem SB.free {s : Addr} {H H' : Hp} (e : SB s H H') {l : Addr} (n : l ≠ s) (h : H' l = none) : H l = none := by
  cases q : H l with
  | none => rfl
  | some o => rw [e l o n q] at h; cases h
theorem SB.upd {s : Addr} {H : Hp} {o : HO} : SB s H (upd H s o) := fun b u n h => by rw [upd_ne n]; exact h
theorem same_new {H : Hp} {p : Addr} {o : HO} (h : H p = none) : Same H (upd H p o) := fun b u e => by rw [upd_ne (ne_of_none e h)]; exact e
theorem gen_new {H H' : Hp} {p : Addr} {o : HO} (n : H p = none) (e : upd H p o = H') : Same H H' ∧ H' p = some o := by
  subst e
  exact ⟨same_new n, upd_same⟩
/-- a new object, its heap a letter -/
theorem new_obj {H : Hp} {o : HO} {R : Addr → Hp → Prop} (h : ∀ p H', H p = none → Same H H' → H' p = some o → R p H') : ∀ p, H p = none → R p (upd H p o) :=
  fun p hp => h p _ hp (same_new hp) upd_same
theorem new_ref {H : Hp} {o : HO} {Q : VK} (h : ∀ p H', H p = none → Same H H' → H' p = some o → Q (.ref p) H') : ∀ p, H p = none → Q (.ref p) (upd H p o) :=
  fun p hp => h p _ hp (same_new hp) upd_same
theorem hp_same {H H' : Hp} {a : Addr} {o : HO} (s : Same H H') (h : H a = some o) : H' a = some o := s a o h
theorem hp_sb {s a : Addr} {H H' : Hp} {o : HO} (e : SB s H H') (n : a ≠ s) (h : H a = some o) : H' a = some o := e a o n h
end KR
namespace KR
open PySem PySem.Spec PyProof.Rows L2 MeetsSeq
/-! ### list + list where the left one may be of the written part -/
theorem add_any {l b : Addr} {items items2 : Array Value} {n n2 : Nat} {sl sl2 : Array (Option Value)} (hz : items.size + items2.size ≤ sizeLine) :
    Meets (Builtin.«list.__add__» ⟨[.ref l, .ref b], []⟩) (fun _ R s =>
      (s.heap.get? l = some ⟨.type "list", none, .seq items n, sl⟩ ∧ s.heap.get? b = some ⟨.type "list", none, .seq items2 n2, sl2⟩) ∧
      R (.ok (.ret (Value.ref s.heap.objs.size))) { s with heap := s.heap.push { cls := Value.type "list", data := Data.seq (items ++ items2) } }) :=
  .of_wp fun prog w A R s h => by
    obtain ⟨hp, g, d, tk, os⟩ := s
    obtain ⟨⟨e1, e2⟩, h⟩ := h
    have f1 := AutoSeq1.idx_int
    have f2 := AutoSeq1.sub_tuple_tuple
    have f3 := AutoSeq1.sub_list_list
    have f4 := AutoSeq1.sub_tuple_list
    have f5 := AutoSeq1.sub_list_tuple
    wp_walk using wpAny_loadPart' e1, wpAny_loadPart' e2
    exact ⟨_, rfl, h⟩
def rCatS (K : PySem.W.Frag) : R2 := fun x y H Q => ∃ l b xs zs, x = .ref l ∧ y = .ref b ∧ SqL K H l xs ∧ SqL K H b zs ∧ xs.length + zs.length ≤ 100000 ∧
  ∀ p H', H p = none → Same H H' → H' p = some (.lst (xs ++ zs)) → Q (.ref p) H'
theorem op_catS {X : Cx} : OpR X (binaryOp .Add) (rCatS X.K) := by
  intro pins s σ H x y v u Q I rx ry h
  obtain ⟨l, b, xs, zs, rfl, rfl, hl, hb, hz, q⟩ := h
  cases rx
  cases ry
  obtain ⟨its, r, ⟨o, n, e, ec, ed, es⟩, _⟩ := I.list hl
  obtain ⟨its2, r2, ⟨o2, n2, e2, ec2, ed2, es2⟩, _⟩ := I.list hb
  obtain ⟨c, d, dt, sl⟩ := o
  obtain ⟨c2, d2, dt2, sl2⟩ := o2
  dsimp only at ec ed es ec2 ed2 es2
  subst ec ed es ec2 ed2 es2
  have hlen : its.length + its2.length ≤ sizeLine := by
    rw [← r.length, ← r2.length]
    exact Nat.le_trans hz (by decide)
  refine concat_meets ⟨_, e, rfl⟩ ⟨_, e2, rfl⟩ noFill_list_add seq_list_add F.slot_list_add F.entry_list_add (F.args_list_add_2 _ _) (add_any (by rw [List.size_toArray, List.size_toArray]; exact hlen)) ⟨⟨e, e2⟩, ?_⟩
  have ea : its.toArray ++ its2.toArray = (its ++ its2).toArray := by simp
  rw [ea]
  have hn := I.fresh
  have J := I.lnew (t' := s.toks) (r.append r2) (by rw [List.length_append]; exact Nat.le_trans hz (by decide))
  exact ⟨.ref _, _, J, rfl, q _ _ hn (same_new hn) upd_same⟩
end KR
namespace KR
open PySem PySem.Spec PyProof.Rows L2
/-! ### frames -/
def SX (X : List Addr) (H H' : Hp) : Prop := ∀ b o, b ∉ X → H b = some o → H' b = some o
theorem SX.refl {X : List Addr} {H : Hp} : SX X H H := fun _ _ _ h => h
theorem SX.trans {X : List Addr} {H H1 H2 : Hp} (a : SX X H H1) (b : SX X H1 H2) : SX X H H2 := fun c o n h => b c o n (a c o n h)
theorem SX.mono {X Y : List Addr} {H H1 : Hp} (a : SX X H H1) (h : ∀ x ∈ X, x ∈ Y) : SX Y H H1 := fun c o n q => a c o (fun z => n (h c z)) q
theorem SB.sx {s : Addr} {X : List Addr} {H H1 : Hp} (a : SB s H H1) (h : s ∈ X) : SX X H H1 := fun c o n q => a c o (fun z => n (z ▸ h)) q
theorem _root_.L2.Same.sx {X : List Addr} {H H1 : Hp} (a : Same H H1) : SX X H H1 := fun c o _ q => a c o q
theorem SX.sb {s : Addr} {H H1 : Hp} (a : SX [s] H H1) : SB s H H1 := fun c o n q => a c o (by simpa using n) q
theorem SX.upd {X : List Addr} {H H' : Hp} {p : Addr} {o : HO} (a : SX X H H') (h : p ∈ X) : SX X H (upd H' p o) := fun c u n q => by
  have e : c ≠ p := fun z => n (by rw [z]; exact h)
  rw [upd_ne e]; exact a c u n q
theorem SX.mut {X : List Addr} {H H' : Hp} {p : Addr} {o : HO} (a : SX X H H') (h : H p = none) : SX X H (L2.upd H' p o) := fun c u n q => by
  rw [upd_ne (ne_of_none q h)]; exact a c u n q
theorem SB.mut {s : Addr} {H H' : Hp} {p : Addr} {o : HO} (a : SB s H H') (h : H p = none) : SB s H (L2.upd H' p o) := fun c u n q => by
  rw [upd_ne (ne_of_none q h)]; exact a c u n q
theorem _root_.L2.Same.mut {H H' : Hp} {p : Addr} {o : HO} (a : Same H H') (h : H p = none) : Same H (L2.upd H' p o) := fun c u q => by
  rw [upd_ne (ne_of_none q h)]; exact a c u q
theorem SX.drop {X : List Addr} {H H' : Hp} {p : Addr} (a : SX (p :: X) H H') (h : H p = none) : SX X H H' := fun c u n q => by
  refine a c u (fun z => ?_) q
  rcases List.mem_cons.mp z with e | e
  · rw [e, h] at q; cases q
  · exact n e
theorem szl {n : Nat} (h : n ≤ 100000) : n ≤ sizeLine := Nat.le_trans h (by decide)
theorem szlt {n : Nat} (h : n ≤ 100000) : n < sizeLine := Nat.lt_of_le_of_lt h (by decide)
theorem atI_int {xs : List V} {i : Int} {j : Nat} {v : V} (hi : i = (j : Int)) (h : xs[j]? = some v) : atI xs i = some v := by subst hi; exact atI_nat h
theorem at_of_lt {xs : List V} {i : Int} (h0 : 0 ≤ i) (h1 : i < xs.length) : ∃ v, v ∈ xs ∧ atI xs i = some v ∧ xs[i.toNat]? = some v := by
  have h : i.toNat < xs.length := by omega
  refine ⟨xs[i.toNat], List.getElem_mem h, ?_, List.getElem?_eq_getElem h⟩
  have e : i = (i.toNat : Int) := by omega
  exact atI_int (xs := xs) (v := xs[i.toNat]) e (List.getElem?_eq_getElem h)
theorem map_some {ns : List Int} {i : Nat} {v : V} (h : (ns.map V.int)[i]? = some v) : ∃ z, ns[i]? = some z ∧ v = .int z := by
  rw [List.getElem?_map] at h
  cases e : ns[i]? with
  | none => rw [e] at h; cases h
  | some z => rw [e] at h; exact ⟨z, rfl, (Option.some.inj h).symm⟩
theorem gen_st {H H' : Hp} {a : Addr} {o : HO} (e : upd H a o = H') : SB a H H' ∧ H' a = some o := by subst e; exact ⟨SB.upd, upd_same⟩
theorem lt1000 {n : Nat} (h : Nat.ble (n + 1) 1000 = true) : n < 1000 := Nat.le_of_ble_eq_true h
theorem kb_of {K : PySem.W.Frag} {x qual : Str} {params : Arguments} {body : List Stmt} {scope : Scope} {f : Addr} {fd : FuncData} {ps : List Str} (F : FunD K x qual params body scope [] [] f fd) (n : Nat) (ks : List Str)
    (g : {α : Type} → List α → List α → List α) (hrel : ∀ {vs zs : List V} {us ws : List Value}, Vals vs us → Vals zs ws → vs.length = n → zs.length = ks.length → Vals (g vs zs) (g us ws))
    (h : ∀ (kV doc pm : Value) (an : Option Addr) (cdv ct : Value) (us ws : List Value), us.length = n → ws.length = ks.length → bindArgs (PySem.W.fnOf x qual params body scope .none kV doc pm an cdv ct) ⟨us, ks.zip ws⟩ = pure (ps.zip (g us ws)))
    (hb : ∀ {vs zs : List V} {us ws : List Value}, Vals vs us → Vals zs ws → Vals (g vs zs) (g us ws)) :
    KBn K fd ps n ks (fun us ws => g us ws) (fun vs zs => g vs zs) := by
  obtain ⟨oc, od, dV, kV, doc, pm, an, cdv, ct, osl, rfl, lk, hcd, hD, hK⟩ := F.ex
  rcases hD with ⟨_, rfl⟩ | ⟨e, _⟩
  · exact ⟨fun s us ws _ l1 l2 => BindsTo.of_eq (h kV doc pm an cdv ct us ws l1 l2), fun r1 r2 => hb r1 r2⟩
  · exact absurd rfl e
/-- keywords in the parameters' order -/
theorem kb_app {K : PySem.W.Frag} {x qual : Str} {params : Arguments} {body : List Stmt} {scope : Scope} {f : Addr} {fd : FuncData} {ps : List Str} (F : FunD K x qual params body scope [] [] f fd) (n : Nat) (ks : List Str)
    (h : ∀ (kV doc pm : Value) (an : Option Addr) (cdv ct : Value) (us ws : List Value), us.length = n → ws.length = ks.length → bindArgs (PySem.W.fnOf x qual params body scope .none kV doc pm an cdv ct) ⟨us, ks.zip ws⟩ = pure (ps.zip (us ++ ws))) :
    KBn K fd ps n ks (fun us ws => us ++ ws) (fun vs zs => vs ++ zs) := kb_of F n ks (fun a b => a ++ b) (fun r1 r2 _ _ => r1.append r2) h fun r1 r2 => r1.append r2
theorem gen_mk {H H' : Hp} {x dx : Addr} {o u : HO} (n : H x = none) (nd : H dx = none) (e : upd (upd H dx u) x o = H') : Same H H' ∧ H' x = some o := by
  subst e
  exact ⟨fun b v h => by rw [upd_ne (ne_of_none h n), upd_ne (ne_of_none h nd)]; exact h, upd_same⟩
theorem same_sb_new {H H1 H2 : Hp} {x : Addr} (a : Same H H1) (b : SB x H1 H2) (n : H x = none) : Same H H2 := fun c o h => b c o (ne_of_none h n) (a c o h)
/-! ### the head's facts, and a further Bool -/
def obsB (n : Nat) (fa : List He.Fa) (fn : List He.DefD) (ex : PySem.W.Frag → Bool) (g : Addr → Option Obj) : He.AlD :=
  ((He.obsD fa fn (He.frG g (He.asD g n))).1 && ex (He.frG g (He.asD g n)), (He.obsD fa fn (He.frG g (He.asD g n))).2)
def hookB (n : Nat) (fa : List He.Fa) (fn : List He.DefD) (ex : PySem.W.Frag → Bool) : PySem.W.Hook where
  α := He.AlD
  obs := fun s => obsB n fa fn ex s.heap.get?
  val := fun _ => He.valD fn
  says := fun _ h => ∃ K : PySem.W.Frag, K.In h ∧ He.SaysD fa fn K ∧ ex K = true
  of := fun _ s e => by
    refine ⟨He.frG s.heap.get? (He.asD s.heap.get? n), He.frG_in, ?_⟩
    have e1 : ((He.obsD fa fn (He.frG s.heap.get? (He.asD s.heap.get? n))).1 && ex (He.frG s.heap.get? (He.asD s.heap.get? n))) = true := congrArg (fun z : He.AlD => z.1) e
    have e2 : (obsB n fa fn ex s.heap.get?).2 = (He.valD fn).2 := congrArg (fun z : He.AlD => z.2) e
    obtain ⟨h1, h2⟩ := He.ba e1
    exact ⟨Prod.ext h1 e2, h2⟩
  keeps := fun _ _ _ h k => by
    obtain ⟨K, hK, c⟩ := h
    exact ⟨K, PySem.W.Frag.In.keeps hK k, c⟩
theorem obsB_eq {n : Nat} {fa : List He.Fa} {fn : List He.DefD} {ex : PySem.W.Frag → Bool} {g : Addr → Option Obj} {s : Shared} (h : ∀ a, g a = s.heap.get? a) : obsB n fa fn ex g = (hookB n fa fn ex).obs s := by
  have e : g = s.heap.get? := funext h
  subst e
  rfl
/-- what isinstance wants of a class -/
structure IsC (K : PySem.W.Frag) (C : Addr) : Prop where
  cl : PySem.W.findIn K (.ref C) "__class__" = some (some (.builtin "object.__class__"))
  g : PySem.W.specialIn K (.builtin "object.__class__") "__get__" = some (some (.builtin "getset_descriptor.__get__"))
  t : PySem.W.takesIn K (.builtin "object.__class__") = some true
  m : PySem.W.mroIn K C (.type "object") = some true
def isCB (C : Str) (K : PySem.W.Frag) : Bool :=
  decide (PySem.W.findIn K (.ref (He.ga K C)) "__class__" = some (some (.builtin "object.__class__"))) && (decide (PySem.W.specialIn K (.builtin "object.__class__") "__get__" = some (some (.builtin "getset_descriptor.__get__"))) &&
    (decide (PySem.W.takesIn K (.builtin "object.__class__") = some true) && decide (PySem.W.mroIn K (He.ga K C) (.type "object") = some true)))
theorem isCB_ok {C : Str} {K : PySem.W.Frag} (h : isCB C K = true) : IsC K (He.ga K C) := by
  unfold isCB at h
  obtain ⟨h1, h⟩ := He.ba h
  obtain ⟨h2, h⟩ := He.ba h
  obtain ⟨h3, h4⟩ := He.ba h
  exact ⟨of_decide_eq_true h1, of_decide_eq_true h2, of_decide_eq_true h3, of_decide_eq_true h4⟩
def kitB1 (ty : String) (C : Str) (b : Bool) (K : PySem.W.Frag) : Bool := decide (PySem.W.kitOne K (.type ty) (.ref (He.ga K C)) = some b)
def kitB2 (C : Str) (ty : String) (b : Bool) (K : PySem.W.Frag) : Bool := decide (PySem.W.kitOne K (.ref (He.ga K C)) (.type ty) = some b)
def kitB3 (C D : Str) (b : Bool) (K : PySem.W.Frag) : Bool := decide (PySem.W.kitOne K (.ref (He.ga K C)) (.ref (He.ga K D)) = some b)
theorem isi_own {K : PySem.W.Frag} {H : Hp} {a C dx D : Addr} {fs : List (Str × V)} {b : Bool} {Q : VK} (h : H a = some (.ins C dx fs)) (c : Cls K C) (i : IsC K C) (k : PySem.W.kitOne K (.ref C) (.ref D) = some b) (q : Q (.bl b) H) :
    rIsiI K [.ref a, .ref D] H Q := by
  unfold rIsiI; exact ⟨_, _, _, _, b, rfl, .own _, .base (.ins h c i.cl i.g i.t i.m), k, q⟩
theorem none_all {l : List Str} {fs : List (Str × V)} (h : (l.all fun x => (List.lookup x fs).isNone) = true) : ∀ x ∈ l, List.lookup x fs = none := fun x hx => by
  have := List.all_eq_true.mp h x hx
  exact Option.isNone_iff_eq_none.mp this
/-! ### data without bools: == is equality -/
mutual
def nbD : PyData → Bool
  | .none => true
  | .int _ => true
  | .str x => PyData.strOk x
  | .list xs => nbA xs
  | .tuple xs => nbA xs
  | .bool _ => false
  | .dict _ => false
def nbA : List PyData → Bool
  | [] => true
  | x :: xs => nbD x && nbA xs
end
mutual
theorem nb_lay : ∀ d : PyData, nbD d = true → PyData.canLay0 d = true
  | .none, _ => rfl
  | .int _, _ => rfl
  | .str x, h => h
  | .list xs, h => nb_layA xs h
  | .tuple xs, h => nb_layA xs h
  | .bool _, h => by cases h
  | .dict _, h => by cases h
theorem nb_layA : ∀ ds : List PyData, nbA ds = true → PyData.canLayAll0 ds = true
  | [], _ => rfl
  | x :: xs, h => by
    obtain ⟨h1, h2⟩ := He.ba (show (nbD x && nbA xs) = true from h)
    show (PyData.canLay0 x && PyData.canLayAll0 xs) = true
    rw [nb_lay x h1, nb_layA xs h2]
    rfl
end
mutual
theorem eqv_nb : ∀ d e : PyData, nbD d = true → nbD e = true → (PyData.eqv d e = true ↔ d = e)
  | .none, e, _, he => by cases e <;> simp_all [PyData.eqv, nbD]
  | .int i, e, _, he => by cases e <;> simp_all [PyData.eqv, nbD]
  | .str x, e, _, he => by cases e <;> simp_all [PyData.eqv, nbD]
  | .list xs, e, hd, he => by
    cases e with
    | list ys =>
      have k := eqv_nbA xs ys hd he
      constructor
      · intro h
        exact congrArg PyData.list (k.mp (by simpa [PyData.eqv] using h))
      · intro h
        injection h with h
        simpa [PyData.eqv] using k.mpr h
    | _ => simp_all [PyData.eqv, nbD]
  | .tuple xs, e, hd, he => by
    cases e with
    | tuple ys =>
      have k := eqv_nbA xs ys hd he
      constructor
      · intro h
        exact congrArg PyData.tuple (k.mp (by simpa [PyData.eqv] using h))
      · intro h
        injection h with h
        simpa [PyData.eqv] using k.mpr h
    | _ => simp_all [PyData.eqv, nbD]
  | .bool _, _, hd, _ => by cases hd
  | .dict _, _, hd, _ => by cases hd
theorem eqv_nbA : ∀ ds es : List PyData, nbA ds = true → nbA es = true → (PyData.eqvAll ds es = true ↔ ds = es)
  | [], [], _, _ => by simp [PyData.eqvAll]
  | [], _ :: _, _, _ => by simp [PyData.eqvAll]
  | _ :: _, [], _, _ => by simp [PyData.eqvAll]
  | x :: xs, y :: ys, hd, he => by
    obtain ⟨h1, h2⟩ := He.ba (show (nbD x && nbA xs) = true from hd)
    obtain ⟨h3, h4⟩ := He.ba (show (nbD y && nbA ys) = true from he)
    have k1 := eqv_nb x y h1 h3
    have k2 := eqv_nbA xs ys h2 h4
    simp only [PyData.eqvAll, Bool.and_eq_true, List.cons.injEq, k1, k2]
end
/-- d, without bools, not deep -/
def NB (d : PyData) : Prop := nbD d = true ∧ PyData.depth d ≤ 64
@[irreducible] def rEqN (K : PySem.W.Frag) : R2 := fun x y H Q => ∃ d e, Dp K H x d ∧ Dp K H y e ∧ NB d ∧ NB e ∧ ∀ b, (b = true ↔ d = e) → Q (.bl b) H
@[irreducible] def rNeN (K : PySem.W.Frag) : R2 := fun x y H Q => ∃ d e, Dp K H x d ∧ Dp K H y e ∧ NB d ∧ NB e ∧ ∀ b, (b = true ↔ ¬ d = e) → Q (.bl b) H
theorem NB.sh {d : PyData} (h : NB d) : SeqAt.shaped d = true := by
  unfold SeqAt.shaped
  rw [nb_lay d h.1, decide_eq_true h.2]
  rfl
theorem op_eqN {X : Cx} (hu : X.A.units + 64 < cLine) : OpR X (compareOp .Eq) (rEqN X.K) := by
  intro pins s σ H x y v u Q I rx ry h
  unfold rEqN at h
  obtain ⟨d, e, hd, he, n1, n2, q⟩ := h
  exact op_eqD hu pins s σ H x y v u Q I rx ry ⟨d, e, hd, he, n1.sh, n2.sh, q _ (eqv_nb d e n1.1 n2.1)⟩
theorem op_neN {X : Cx} (hu : X.A.units + 64 < cLine) : OpR X (compareOp .NotEq) (rNeN X.K) := by
  intro pins s σ H x y v u Q I rx ry h
  unfold rNeN at h
  obtain ⟨d, e, hd, he, n1, n2, q⟩ := h
  refine op_neD hu pins s σ H x y v u Q I rx ry ⟨d, e, hd, he, n1.sh, n2.sh, q _ ?_⟩
  have k := eqv_nb d e n1.1 n2.1
  cases hb : PyData.eqv d e with
  | true => rw [hb] at k; simp [k.mp rfl]
  | false => rw [hb] at k; simp at k; simp [k]
theorem use_eqN {K : PySem.W.Frag} {H : Hp} {x y : V} {d e : PyData} {Q : VK} (hx : Dp K H x d) (hy : Dp K H y e) (n1 : NB d) (n2 : NB e) (q : ∀ b, (b = true ↔ d = e) → Q (.bl b) H) : rEqN K x y H Q := by unfold rEqN; exact ⟨d, e, hx, hy, n1, n2, q⟩
theorem use_neN {K : PySem.W.Frag} {H : Hp} {x y : V} {d e : PyData} {Q : VK} (hx : Dp K H x d) (hy : Dp K H y e) (n1 : NB d) (n2 : NB e) (q : ∀ b, (b = true ↔ ¬ d = e) → Q (.bl b) H) : rNeN K x y H Q := by unfold rNeN; exact ⟨d, e, hx, hy, n1, n2, q⟩
/-! lists of pyi as data -/
def pyi (xs : List Int) : List PyData := xs.map PyData.int
theorem dp_pyi {K : PySem.W.Frag} {H : Hp} : ∀ xs : List Int, DpAll K H (xs.map V.int) (pyi xs)
  | [] => .nil
  | x :: xs => .cons (.int x) (dp_pyi xs)
theorem nb_ints : ∀ xs : List Int, nbA (pyi xs) = true
  | [] => rfl
  | x :: xs => by
    show (nbD (.int x) && nbA (pyi xs)) = true
    rw [nb_ints xs]
    rfl
theorem dep_ints : ∀ xs : List Int, PyData.depthAll (pyi xs) = 0
  | [] => rfl
  | x :: xs => by
    show max (PyData.depth (.int x)) (PyData.depthAll (pyi xs)) = 0
    rw [dep_ints xs]
    rfl
theorem nb_list (xs : List Int) : NB (.list (pyi xs)) := ⟨nb_ints xs, by show PyData.depthAll (pyi xs) + 1 ≤ 64; rw [dep_ints]; decide⟩
theorem nb_tup (xs : List Int) : NB (.tuple (pyi xs)) := ⟨nb_ints xs, by show PyData.depthAll (pyi xs) + 1 ≤ 64; rw [dep_ints]; decide⟩
theorem ints_inj {xs ys : List Int} (h : pyi xs = pyi ys) : xs = ys := by
  have := congrArg (fun z : List PyData => z.map fun d => match d with | .int i => i | _ => 0) h
  simpa [pyi, List.map_map, Function.comp_def] using this
theorem list_ints {xs ys : List Int} : PyData.list (pyi xs) = PyData.list (pyi ys) ↔ xs = ys := ⟨fun h => ints_inj (by injection h), fun h => by rw [h]⟩
theorem tup_ints {xs ys : List Int} : PyData.tuple (pyi xs) = PyData.tuple (pyi ys) ↔ xs = ys := ⟨fun h => ints_inj (by injection h), fun h => by rw [h]⟩
/-! ### the rules, the written part named (a comprehension's block has the def's) -/
section
variable {X : Cx} {K : PySem.W.Frag}
theorem ix_listK (h : X.K = K := by rfl) : IxR X (rIxL K) := h ▸ ix_list
theorem ix_tupK (h : X.K = K := by rfl) : IxR X (rIxT K) := h ▸ ix_tup
def rLenN (K : PySem.W.Frag) : List V → Hp → VK → Prop := fun xs H Q => ∃ p ys, xs = [.ref p] ∧ (SqL K H p ys ∨ SqT K H p ys) ∧ Q (.int ys.length) H
theorem call_lenK (h : X.K = K := by rfl) : CallR X (.builtin "len") (rLenN K) := h ▸ call_len_seq
def rListN (K : PySem.W.Frag) : List V → Hp → VK → Prop := fun xs H Q => ∃ p ys, xs = [.ref p] ∧ (SqL K H p ys ∨ SqT K H p ys) ∧ ∀ l, H l = none → Q (.ref l) (upd H l (.lst ys))
theorem call_listK (h : X.K = K := by rfl) : CallR X (.type "list") (rListN K) := h ▸ call_list_of
def rTupN (K : PySem.W.Frag) : List V → Hp → VK → Prop := fun xs H Q => ∃ p ys, xs = [.ref p] ∧ ((SqL K H p ys ∧ ∀ l, H l = none → Q (.ref l) (upd H l (.tup ys))) ∨ (SqT K H p ys ∧ Q (.ref p) H))
theorem call_tupK (h : X.K = K := by rfl) : CallR X (.type "tuple") (rTupN K) := h ▸ call_tuple_of
theorem op_catSK (h : X.K = K := by rfl) : OpR X (binaryOp .Add) (rCatS K) := h ▸ op_catS
theorem op_inK (h : X.K = K := by rfl) : OpR X (compareOp .In) (rIn K false) := h ▸ op_in_seq
theorem op_notInK (h : X.K = K := by rfl) : OpR X (compareOp .NotIn) (rIn K true) := h ▸ op_notIn_seq
theorem op_eqNK (hu : X.A.units + 64 < cLine) (h : X.K = K := by rfl) : OpR X (compareOp .Eq) (rEqN K) := h ▸ op_eqN hu
theorem op_neNK (hu : X.A.units + 64 < cLine) (h : X.K = K := by rfl) : OpR X (compareOp .NotEq) (rNeN K) := h ▸ op_neN hu
theorem sl_listK (h : X.K = K := by rfl) : SlR X (rSlL K) := h ▸ sl_list
theorem sl_tupK (h : X.K = K := by rfl) : SlR X (rSlT K) := h ▸ sl_tup
theorem cr_sumK (hc : X.calm = true) (h : X.K = K := by rfl) : CallR X (.builtin "sum") (rSum K) := h ▸ cr_sum hc
theorem cr_maxK (hc : X.calm = true) (h : X.K = K := by rfl) : CallR X (.builtin "max") (rMax K) := h ▸ cr_max hc
theorem cr_minK (hc : X.calm = true) (h : X.K = K := by rfl) : CallR X (.builtin "min") (rMin K) := h ▸ cr_min hc
theorem call_isiK2 (h : X.K = K := by rfl) : CallR X (.builtin "isinstance") (rIsiI K) := h ▸ call_isiI
theorem pe_fldK {e : Expr} {ta : TE} {f : Str} {pos : Pos} (he : PE X e ta) (hb : attributeBase e f X.env (eval e X.env) = eval e X.env) (h : X.K = K := by rfl) : PE X (.Attribute e f pos) (tFld K ta f) := h ▸ pe_fld he hb
end
end KR
namespace KR
open PySem PySem.Spec PyProof.Rows L2
/-! ### ranges of any size, by ones -/
theorem turn_long {P : Program} {w : World} {K : PySem.W.Frag} {tg : Expr} (j : Addr) (lo : Int) (n : Nat) : Turn P w K tg (Itr lo n) [j] j (fun i h => IsLongIter h j (lo + (i : Nat) * 1) ((n : Int) - (i : Nat)) 1) where
  mem := List.mem_singleton.mpr rfl
  obj := fun i h q b hb => by
    rw [List.mem_singleton.mp hb]
    exact ⟨_, q, fun v z => by
      have y : Data.fields _ = Data.cell v := z
      cases y⟩
  keep := fun i h h' q k => k j (List.mem_singleton.mpr rfl) _ q
  item := by
    intro Y e1 e2 e3 hc i pins s σ H E I fp q g
    subst e1 e2 e3
    obtain ⟨a0, a1, a2, a3, a4, a5⟩ := fp j (List.mem_singleton.mpr rfl)
    refine (Walks.longrange (prog := Y.prog) (w := Y.w) (I.ok.hd hc) j lo 1 n).item i s _ _ g q fun v h' tk hv q' kk => ?_
    obtain ⟨t, rfl⟩ := hv
    have J : Inv Y pins σ H { s with heap := h', toks := tk } := I.turned (fun b o hb e => kk b o (by simpa using hb) e) a0 a1 a3 a4 a5
    exact ⟨_, rfl, go_of (s := { s with heap := h', toks := tk }) (n := "longrange_iterator") q' rfl rfl (by decide) ⟨.int (lo + i), H, J, ⟨t, by rw [Int.mul_one]⟩, ⟨rfl, rfl⟩, q', fun b hb => (fp b hb).1⟩⟩
  done := by
    intro Y e1 e2 e3 hc i pins s σ H E I fp q g
    subst e1 e2 e3
    obtain ⟨a0, a1, a2, a3, a4, a5⟩ := fp j (List.mem_singleton.mpr rfl)
    have hle : n ≤ i := g
    exact wpAny_pyNext_long_end (I.ok.hd hc) q (by omega) fun h' eb => ⟨rfl, I.turned (t' := s.toks) (fun b o hb e => eb b o hb e) a0 a1 a3 a4 a5⟩
  self := fun _ _ _ _ _ q h => wpAny_pyIter_longiter q h
section
variable {X : Cx} {tg : Expr}
theorem long_it {pins : List (Addr × Obj)} {σ : L2.St} {H : Hp} {s : Shared} {R : It → Hp → Prop} {E : Value → Shared → Prop} {lo hi : Int} {t u v : Tok} {tk : Nat} (I : Inv X pins σ H s) (hb : Builtin.Range.small lo hi 1 = false)
    (q : R (Itr lo (hi - lo).toNat) H) : wpAny (model X.prog X.w) X.A (pyIter (.ref s.heap.objs.size)) (PIE X pins σ tg R) E { s with heap := s.heap.push { cls := .type "range", data := .fields #[.int lo t, .int hi u, .int 1 v] }, toks := tk } := by
  refine wpAny_pyIter_longrange (IsRange.new ..) hb ?_
  have J := I.kept (h' := s.heap.push { cls := .type "range", data := .fields #[.int lo t, .int hi u, .int 1 v] }) (t' := tk) fun b o e => Heap.get?_push_of_some _ e
  refine ⟨_, [_], _, _, H, rfl, J.kept (t' := tk) fun b o e => Heap.get?_push_of_some _ e, turn_long _ lo (hi - lo).toNat, ?_, fun b hb => ?_, q⟩
  · have f1 : lo + ((0 : Nat) : Int) * 1 = lo := by simp
    have f2 : (((hi - lo).toNat : Nat) : Int) - ((0 : Nat) : Int) = Builtin.Range.rangeSize lo hi 1 := by
      rw [rangeSize_one]
      split <;> omega
    show IsLongIter _ _ (lo + ((0 : Nat) : Int) * 1) ((((hi - lo).toNat : Nat) : Int) - ((0 : Nat) : Int)) 1
    rw [f1, f2]
    exact Heap.get?_push_size _ rfl
  · rw [List.mem_singleton.mp hb]
    exact J.fpOk (Nat.le_refl _) (J.hok.fresh (Nat.le_refl _))
/-- small with the bounds that the library's rule wants, or any size -/
theorem any_it {pins : List (Addr × Obj)} {σ : L2.St} {H : Hp} {s : Shared} {R : It → Hp → Prop} {E : Value → Shared → Prop} {lo hi : Int} {t u v : Tok} {tk : Nat} (I : Inv X pins σ H s)
    (q : R (Itr lo (hi - lo).toNat) H) : wpAny (model X.prog X.w) X.A (pyIter (.ref s.heap.objs.size)) (PIE X pins σ tg R) E { s with heap := s.heap.push { cls := .type "range", data := .fields #[.int lo t, .int hi u, .int 1 v] }, toks := tk } := by
  cases hb : Builtin.Range.small lo hi 1 with
  | false => exact long_it I hb q
  | true =>
    refine wpAny_pyIter_range (IsRange.new ..) hb ?_
    have J := I.kept (h' := s.heap.push { cls := .type "range", data := .fields #[.int lo t, .int hi u, .int 1 v] }) (t' := tk) fun b o e => Heap.get?_push_of_some _ e
    refine ⟨_, [_], _, _, H, rfl, J.kept (t' := tk) fun b o e => Heap.get?_push_of_some _ e, turn_range _ lo (hi - lo).toNat, ?_, fun b hb => ?_, q⟩
    · have f1 : lo + ((0 : Nat) : Int) * 1 = lo := by simp
      have f2 : (((hi - lo).toNat : Nat) : Int) - ((0 : Nat) : Int) = Builtin.Range.rangeSize lo hi 1 := by
        rw [rangeSize_one]
        split <;> omega
      show IsRangeIter _ _ (lo + ((0 : Nat) : Int) * 1) ((((hi - lo).toNat : Nat) : Int) - ((0 : Nat) : Int)) 1
      rw [f1, f2]
      exact Heap.get?_push_size _ rfl
    · rw [List.mem_singleton.mp hb]
      exact J.fpOk (Nat.le_refl _) (J.hok.fresh (Nat.le_refl _))
def iRngB (ta : TA) : TI := fun σ H R => ta σ H fun vs H1 => ∃ i j : Int, vs = [.int i, .int j] ∧ R (Itr i (j - i).toNat) H1
theorem pi_rangeB {a b : Expr} {ta : TA} {p pos : Pos} (hg : Gl X "range") (hm : X.mg "range" = none) (ha : PA X [a, b] ta) (hs : starEach [a, b] X.env = [(false, eval a X.env), (false, eval b X.env)] := by rfl) (hs2 : starEach [b] X.env = [(false, eval b X.env)] := by rfl) :
    PI X tg (.Call (.Name "range" p) [a, b] [] pos) (iRngB ta) := by
  refine ⟨fun pins s σ H R I h => ?_⟩
  refine Call_ (ld_blt I hg hm boot_range (PyProof.Rows.callWith_type1 (thn (ha.run pos pins s σ H _ I h) fun us s1 z => ?_) (by rw [hs, hs2]) (by rw [hs2]; rfl)))
  obtain ⟨vs, H1, I1, r1, i, j, e, q⟩ := z
  subst e
  obtain ⟨u1, u2, e, ⟨t, e1⟩, ⟨t', e2⟩⟩ := vals2 r1
  subst e e1 e2
  exact call_range_2 (any_it I1 q)
end
end KR
namespace PySem.W
open PySem PySem.Calls PyProof.Rows Builtin
section
variable {prog : Program} {w : World} {A : Around} {E : Value → Shared → Prop} {s : Shared} {K : Frag} {x C L f : Addr} {h₀ : Heap} {m : Str → Option Value} {ox : Obj} {od : Option Obj} {b tb : Value}
/-- != of an instance whose class has its own __eq__ and object's __ne__ -/
theorem ne_own {Q : Value → Shared → Prop} (hu : A.units + 1 < cLine) (X : K.In s.heap) (I : InstAt s.heap x ox C od) (hb : Looks (model prog w) s.heap (typeOf b) tb) (hn : notFirst K C tb = true)
    (hs : findIn K (.ref C) "__eq__" = some (some (.ref f))) (hf : isFn K (.ref f) = true) (hne : findIn K (.ref C) "__ne__" = some (some (.builtin "object.__ne__"))) (hob : mroIn K C (.type "object") = some true)
    (h : wpAny (model prog w) A.in1 (call (.ref f) [.ref x, b]) (fun v s' => ∃ r, v = .bool r ∧ Q (.bool (!r)) s') E s) : wpAny (model prog w) A (richCompare .NotEq (.ref x) b) Q E s := by
  have S : Slot "object" "__ne__" "object.__ne__" := F.cmp_object.ne
  have body : wpAny (model prog w) A.in1 (Builtin.«object.__ne__» ⟨[.ref x, b], []⟩) (fun fin s' => match fin with | .done g => wants (fun v s' => ∃ r, v = .bool r ∧ Q v s') E (.ok g) s' | .again c' => c'.quiet = true ∧ codeAny (model prog w) A c' (wants (fun v s' => ∃ r, v = .bool r ∧ Q v s') E) s') (fun e s' => wants (fun v s' => ∃ r, v = .bool r ∧ Q v s') E (.error e) s') s := by
    unfold Builtin.«object.__ne__»
    have hu1 : A.in1.units < cLine := hu
    refine wpAny_bind (wpAny_pure ?_)
    refine wpAny_bind (wpAny_cRoomFor hu1 ?_)
    refine wpAny_bind (ifBound_K X I hs hf (wpAny_mono h (fun v s' hv => ?_) fun _ _ e => e))
    obtain ⟨r, rfl, q⟩ := hv
    dsimp only
    refine wpAny_bind (wpAny_truthy_bool ?_)
    exact wpAny_pure ⟨_, rfl, q⟩
  have one : wpAny (model prog w) A (tryCompare (.ref x) "__ne__" b) (fun r s' => ∃ v, r = some v ∧ Q v s') E s := by
    unfold tryCompare
    refine wpAny_bind ?_
    simp only [callSpecialIfBound?, bindSpecialIfBound?]
    refine wpAny_holding (wpAny_bind (wpAny_bind (wpAny_bind (I.type.here ((looks_findIn X hne).here ?_)))))
    simp only [S.bind]
    refine wpAny_bind (wpAny_askSetting (wpAny_ite ?_))
    have hcall : wpAny (model prog w) A (call (.builtin "object.__ne__") [.ref x, b]) (fun v s' => ∃ r, v = .bool r ∧ Q v s') E s := by
      refine wpAny_call (codeAny_call_builtin S.plain F.cmpEntry_ne (check_slot F.cmpKind_ne F.cmpSplit_ne (I.type.andThen (looks_mroIn X hob)) (F.cmpArgs_ne _ _) body))
    have fin : wpAny (model prog w) A (call (.builtin "object.__ne__") ([.ref x] ++ [b]) >>= fun v => pure (some v)) (fun (r : Option Value) s' => wpAny (model prog w) A (match r with | some .notImplemented | none => pure none | some v => pure (some v)) (fun r s' => ∃ v, r = some v ∧ Q v s') E s') E s := by
      refine wpAny_bind (wpAny_mono hcall (fun v s' h' => ?_) fun _ _ h' => h')
      obtain ⟨r, rfl, q⟩ := h'
      exact wpAny_pure (wpAny_pure ⟨_, rfl, q⟩)
    split
    · exact wpAny_bind (wpAny_pure (wpAny_pure fin))
    · exact wpAny_tryCatch (wpAny_bind (wpAny_pure (wpAny_pure fin)))
  have hu0 : A.units < cLine := Nat.lt_of_succ_lt hu
  unfold richCompare
  simp only [oneThing_ref]
  refine wpAny_holding (wpAny_bind (wpAny_cRoomFor hu0 ?_))
  refine wpAny_bind (I.type.here (wpAny_bind (hb.here ?_)))
  split
  · rename_i q
    have e : subIn K tb (.ref C) = some false := by
      rcases Bool.or_eq_true_iff.mp hn with e | e
      · rw [beq_iff_eq.mp e] at q; simp at q
      · exact beq_iff_eq.mp e
    refine wpAny_bind ((looks_subIn X e).here ?_)
    simp only [Bool.false_eq_true, if_false]
    refine wpAny_bind (wpAny_mono one (fun r s' z => ?_) fun _ _ e => e)
    obtain ⟨v, rfl, hq⟩ := z
    exact wpAny_pure hq
  · refine wpAny_bind (wpAny_pure ?_)
    simp only [Bool.false_eq_true, if_false]
    refine wpAny_bind (wpAny_mono one (fun r s' z => ?_) fun _ _ e => e)
    obtain ⟨v, rfl, hq⟩ := z
    exact wpAny_pure hq
end
end PySem.W
namespace KR
open PySem PySem.Spec PyProof.Rows L2
/-- what == by an own __eq__ wants of the class -/
structure EqC (K : PySem.W.Frag) (C : Addr) : Prop where
  nf : ∀ t ∈ (["int", "NoneType", "bool", "str", "list", "tuple", "dict"] : List String), PySem.W.notFirst K C (.type t) = true
  ne : PySem.W.findIn K (.ref C) "__ne__" = some (some (.builtin "object.__ne__"))
  ob : PySem.W.mroIn K C (.type "object") = some true
def eqCB (C : Str) (K : PySem.W.Frag) : Bool :=
  ((["int", "NoneType", "bool", "str", "list", "tuple", "dict"] : List String).all fun t => PySem.W.notFirst K (He.ga K C) (.type t)) &&
    (decide (PySem.W.findIn K (.ref (He.ga K C)) "__ne__" = some (some (.builtin "object.__ne__"))) && decide (PySem.W.mroIn K (He.ga K C) (.type "object") = some true))
theorem eqCB_ok {C : Str} {K : PySem.W.Frag} (h : eqCB C K = true) : EqC K (He.ga K C) := by
  unfold eqCB at h
  obtain ⟨h1, h⟩ := He.ba h
  obtain ⟨h2, h3⟩ := He.ba h
  exact ⟨fun t ht => List.all_eq_true.mp h1 t ht, of_decide_eq_true h2, of_decide_eq_true h3⟩
/-- the other side: a plain value, a list, a tuple or an instance of the same class -/
def OthV (K : PySem.W.Frag) (C : Addr) (H : Hp) : V → Prop
  | .int _ | .non | .bl _ | .str _ => True
  | .ref b => (∃ xs, SqL K H b xs) ∨ (∃ xs, SqT K H b xs) ∨ ∃ dx fs, H b = some (.ins C dx fs)
  | _ => False
theorem OthV.looks {X : Cx} {C : Addr} {pins : List (Addr × Obj)} {s : Shared} {σ : L2.St} {H : Hp} {y : V} {u : Value} (ec : EqC X.K C) (I : Inv X pins σ H s) (o : OthV X.K C H y) (r : RelV y u) :
    ∃ tb, PySem.W.Looks (model X.prog X.w) s.heap (typeOf u) tb ∧ PySem.W.notFirst X.K C tb = true := by
  cases y with
  | non => cases r; exact ⟨_, .now, ec.nf "NoneType" (by decide)⟩
  | bl i => cases r; exact ⟨_, .now, ec.nf "bool" (by decide)⟩
  | int i => obtain ⟨t, rfl⟩ := r; exact ⟨_, .now, ec.nf "int" (by decide)⟩
  | str i => obtain ⟨t, rfl⟩ := r; exact ⟨_, .now, ec.nf "str" (by decide)⟩
  | ref b =>
    cases r
    rcases o with ⟨xs, h⟩ | ⟨xs, h⟩ | ⟨dx, fs, h⟩
    · obtain ⟨its, _, ⟨o, n, ho, hc, _⟩, _⟩ := I.list h
      exact ⟨_, by rw [← hc]; exact (PySem.W.Looks.ld ho).andThen .now, ec.nf "list" (by decide)⟩
    · obtain ⟨its, _, ⟨o, ho, hc, _⟩, _⟩ := I.tuple h
      exact ⟨_, by rw [← hc]; exact (PySem.W.Looks.ld ho).andThen .now, ec.nf "tuple" (by decide)⟩
    · obtain ⟨m, J, _⟩ := ins_get I.hok h
      obtain ⟨od, J, _⟩ := J.look
      exact ⟨.ref C, J.type, by simp [PySem.W.notFirst]⟩
  | _ => exact absurd o (by intro z; exact z)
/-- x == y, x != y by the own __eq__ with the promise sp -/
@[irreducible] def rEqO (K : PySem.W.Frag) (C : Addr) (sp : Sp) (E : XK) : R2 := fun x y H Q => ∃ a dx fs, x = .ref a ∧ H a = some (.ins C dx fs) ∧ OthV K C H y ∧ sp [x, y] H (fun v H' => ∃ b, v = .bl b ∧ Q (.bl b) H') E
@[irreducible] def rNeO (K : PySem.W.Frag) (C : Addr) (sp : Sp) (E : XK) : R2 := fun x y H Q => ∃ a dx fs, x = .ref a ∧ H a = some (.ins C dx fs) ∧ OthV K C H y ∧ sp [x, y] H (fun v H' => ∃ b, v = .bl b ∧ Q (.bl (!b)) H') E
theorem use_eqO {K : PySem.W.Frag} {C : Addr} {sp : Sp} {E : XK} {a dx : Addr} {fs : List (Str × V)} {y : V} {H : Hp} {Q : VK} (h : H a = some (.ins C dx fs)) (o : OthV K C H y) (k : sp [.ref a, y] H (fun v H' => ∃ b, v = .bl b ∧ Q (.bl b) H') E) : rEqO K C sp E (.ref a) y H Q := by
  unfold rEqO; exact ⟨a, dx, fs, rfl, h, o, k⟩
theorem use_neO {K : PySem.W.Frag} {C : Addr} {sp : Sp} {E : XK} {a dx : Addr} {fs : List (Str × V)} {y : V} {H : Hp} {Q : VK} (h : H a = some (.ins C dx fs)) (o : OthV K C H y) (k : sp [.ref a, y] H (fun v H' => ∃ b, v = .bl b ∧ Q (.bl (!b)) H') E) : rNeO K C sp E (.ref a) y H Q := by
  unfold rNeO; exact ⟨a, dx, fs, rfl, h, o, k⟩
section
variable {X : Cx} {CX : CXT} {C f : Addr} {fd : FuncData} {ps : List Str} {sp : Sp} {E : XK} {k : Nat}
theorem run_own {A : Around} {pins : List (Addr × Obj)} {σ : L2.St} {H : Hp} {s : Shared} {Q : VK} {us : List Value} {vs : List V} (hA : A.frames = X.A.frames) (F : FnOk X.prog X.w X.K X.mg X.base CX k f fd ps sp) (hr : Room k A) (hb : Binds X.K fd ps []) (hx : Passes CX X E)
    (I : Inv X pins σ H s) (r : Vals vs us) (h : sp vs H Q E) : wpAny (model X.prog X.w) A (call (.ref f) us) (EP X pins σ Q) X.xe s := by
  have hl : us.length = ps.length := by rw [← r.length]; exact F.len _ _ _ _ h
  have e0 : Env0 X.prog X.w X.K X.mg X.base A X.stack s H := by
    have e := I.env0
    exact ⟨by rw [hA]; exact e.frames, e.mod, e.bs, e.bsz, e.funs, e.frf, e.hok, e.bare⟩
  refine wpAny_call (codeAny_mono (F.run A X.stack s H ⟨us, []⟩ us vs Q E hr e0 (by
    have := hb s us I.kIn (by simpa using hl)
    simpa using this) r h) fun r s' hq => ?_)
  cases r with
  | error e => exact hx pins σ H s e s' I hq
  | ok fl =>
    cases fl with
    | ret u => exact I.after hq
    | next => exact False.elim hq
    | brk => exact False.elim hq
    | cont => exact False.elim hq
theorem op_eqO (F : FnOk X.prog X.w X.K X.mg X.base CX k f fd ps sp) (hm : Meth X.K C "__eq__" f) (ec : EqC X.K C) (hr : Room k X.A) (hb : Binds X.K fd ps []) (hx : Passes CX X E) : OpR X (compareOp .Eq) (rEqO X.K C sp E) := by
  intro pins s σ H x y v u Q I rx ry hq
  unfold rEqO at hq
  obtain ⟨a, dx, fs, rfl, ha, o, q⟩ := hq
  cases rx
  obtain ⟨mA, J, _⟩ := ins_get I.hok ha
  obtain ⟨od, J, _⟩ := J.look
  obtain ⟨tb, hl, hn⟩ := o.looks ec I ry
  obtain ⟨m, hF⟩ := I.fr
  show wpAny (model X.prog X.w) X.A (richCompare .Eq (.ref a) u) (EP X pins σ Q) X.xe s
  refine PySem.W.cmp_K (op := .Eq) hr.units0 hF I.ok.mod.kin J hl hn hm.at_ hm.fn ?_
  refine wpAny_mono (run_own rfl F hr hb hx I (.cons (show RelV (.ref a) (.ref a) from rfl) (.cons ry .nil)) q) (fun r s' hq => ?_) fun _ _ e => e
  obtain ⟨w, H', I', rw', b, rfl, q⟩ := hq
  cases rw'
  exact ⟨.bl b, H', I', rfl, q⟩
theorem op_neO (F : FnOk X.prog X.w X.K X.mg X.base CX k f fd ps sp) (hm : Meth X.K C "__eq__" f) (ec : EqC X.K C) (hr : Room (k + 1) X.A) (hb : Binds X.K fd ps []) (hx : Passes CX X E) : OpR X (compareOp .NotEq) (rNeO X.K C sp E) := by
  intro pins s σ H x y v u Q I rx ry hq
  unfold rNeO at hq
  obtain ⟨a, dx, fs, rfl, ha, o, q⟩ := hq
  cases rx
  obtain ⟨mA, J, _⟩ := ins_get I.hok ha
  obtain ⟨od, J, _⟩ := J.look
  obtain ⟨tb, hl, hn⟩ := o.looks ec I ry
  show wpAny (model X.prog X.w) X.A (richCompare .NotEq (.ref a) u) (EP X pins σ Q) X.xe s
  refine PySem.W.ne_own hr.in1.units0 I.kIn J hl hn hm.at_ hm.fn ec.ne ec.ob ?_
  refine wpAny_mono (run_own rfl F hr.in1 hb hx I (.cons (show RelV (.ref a) (.ref a) from rfl) (.cons ry .nil)) q) (fun r s' hq => ?_) fun _ _ e => e
  obtain ⟨w, H', I', rw', b, rfl, q⟩ := hq
  cases rw'
  exact ⟨b, rfl, .bl (!b), H', I', rfl, q⟩
end
end KR
namespace PySem
open PySem PySem.Spec PyProof.Rows
section
variable {prog : Program} {w : World} {A : Around} {E : Value → Shared → Prop} {s : Shared}
theorem extend_longR {R : Result → Shared → Prop} {r : Addr} {a b c : Int} {t u v : Tok} {n : Nat} (hh : A.handled = none) (hr : IsRange s.heap r a b c t u v) (hbig : Builtin.Range.small a b c = false)
    (hn : Builtin.Range.rangeSize a b c = n) (hlen : n ≤ 2 ^ 24) (S : Addr) (res : Value) (c₀ : Nat) (hS : s.heap.get? S = some { cls := .type "list", data := .seq #[] c₀ })
    (hR : ∀ h' tk acc' c', (∀ b o, b ≠ S → s.heap.get? b = some o → h'.get? b = some o) → h'.get? S = some { cls := .type "list", dict := none, data := .seq acc' c', slots := #[] } →
      ItemsOf (fun i v => ∃ t, v = .int (a + i * c) t) acc' n → R (.ok (.ret res)) { s with heap := h', toks := tk }) :
    wpAny (model prog w) A.in1 (Builtin.List.listExtendWith (.ref S) (.ref r) res)
      (fun fin s' => match fin with | .done f => R (.ok f) s' | .again c' => c'.quiet = true ∧ codeAny (model prog w) A c' R s') (fun e s' => R (.error e) s') s := by
  have hSr : S ≠ r := fun e => by rw [e, hr] at hS; simp at hS
  have hSlt : S < s.heap.objs.size := Heap.lt_size hS
  have hSI : S ≠ s.heap.objs.size := Nat.ne_of_lt hSlt
  have hSf : S ∉ [s.heap.objs.size] := fun hm => hSI (List.mem_singleton.mp hm)
  have W := (Walks.longrange (prog := prog) (w := w) (A := A.in1) hh s.heap.objs.size a c n).toS
  have key : ∀ (h : Heap) (c₁ tk : Nat), IsLongIter h s.heap.objs.size (a + ((0 : Nat) : Int) * c) ((n : Int) - ((0 : Nat) : Int)) c → (∀ b o, b ≠ S → s.heap.get? b = some o → h.get? b = some o) →
      h.get? S = some { cls := .type "list", data := .seq #[] c₁ } → codeAny (model prog w) A (.builtin "list.extend.loop" ⟨[.ref S, .ref s.heap.objs.size, res], []⟩) R { s with heap := h, toks := tk } := by
    intro h c₁ tk hit hk hS₁
    refine codeAny_extend_loopS W (by rw [sizeLine_eq]; omega) S hSf res n 0 _ #[] c₁ rfl (Nat.zero_le _) hit hS₁ (ItemsOf.nil _) fun s' acc' c' hm hS' hacc => ?_
    rw [Moved.eq_with hm]
    refine hR s'.heap s'.toks acc' c' (fun b o hb e => hm.heap b o (fun hmem => ?_) (hk b o hb e)) hS' hacc
    rcases List.mem_cons.mp hmem with e' | hmem
    · exact hb e'
    · exact absurd (Heap.lt_size e) (by rw [List.mem_singleton.mp hmem]; exact Nat.lt_irrefl _)
  unfold Builtin.List.listExtendWith
  refine wpAny_bind (wpAny_typeOf (T := "range") ⟨_, hr, rfl⟩ ?_)
  have h1 : Builtin.List.listSameRef (.ref S) (.ref r) = false := by simp [Builtin.List.listSameRef, hSr]
  have h2 : (Value.type "range" == Value.type "list") = false := by decide
  have h3 : (Value.type "range" == Value.type "tuple") = false := by decide
  simp only [h1, h2, h3, Bool.or_false, Bool.false_eq_true, if_false]
  refine wpAny_bind (wpAny_pyIter_longrange hr hbig ?_)
  refine wpAny_bind (wpAny_holding (wpAny_hint_range (n := n) (Heap.get?_push_of_some _ hr) hn hlen ?_))
  have hit₁ : IsLongIter (s.heap.push { cls := .type "longrange_iterator", data := .fields #[rawInt a, rawInt (Builtin.Range.rangeSize a b c), rawInt c] }) s.heap.objs.size (a + ((0 : Nat) : Int) * c) ((n : Int) - ((0 : Nat) : Int)) c := by
    show IsLongIter _ _ _ _ _; rw [hn]; simpa using Heap.get?_push_size _ rfl
  have hS₁ := Heap.get?_push_of_some { cls := .type "longrange_iterator", data := .fields #[rawInt a, rawInt (Builtin.Range.rangeSize a b c), rawInt c] } hS
  refine wpAny_ite_split (fun _ => ?_) (fun _ => wpAny_pure ⟨plainId_quiet F.plain_extend_loop _, key _ c₀ _ hit₁ (fun b o _ e => Heap.get?_push_of_some _ e) hS₁⟩)
  refine wpAny_bind (wpAny_rule ?_)
  refine wpAny_bind ?_
  show wpAny _ _ (updateSeq S (·.push .none) >>= fun _ => updateSeq S (·.pop)) _ _ _
  refine wpAny_bind (wpAny_updateSeq hS₁ rfl ?_)
  have hS₂ := Heap.get?_update_self (Obj.mapSeq (·.push Value.none)) hS₁ rfl
  refine wpAny_updateSeq (hz := by seq_fits) hS₂ rfl ?_
  have hS₃ := Heap.get?_update_self (Obj.mapSeq (·.pop)) hS₂ rfl
  refine wpAny_pure ⟨plainId_quiet F.plain_extend_loop _, key _ _ _ ?_ (fun b o hb e => ?_) hS₃⟩
  · exact (Heap.get?_update_other _ _ hSI).trans ((Heap.get?_update_other _ _ hSI).trans hit₁)
  · exact (Heap.get?_update_other _ _ (Ne.symm hb)).trans ((Heap.get?_update_other _ _ (Ne.symm hb)).trans (Heap.get?_push_of_some _ e))
theorem init_longR {R : Result → Shared → Prop} {r : Addr} {a b c : Int} {t u v : Tok} {n : Nat} (hh : A.handled = none) (hr : IsRange s.heap r a b c t u v) (hbig : Builtin.Range.small a b c = false)
    (hn : Builtin.Range.rangeSize a b c = n) (hlen : n ≤ 2 ^ 24) (S : Addr) (hS : s.heap.get? S = some { cls := .type "list", data := .seq #[] })
    (hR : ∀ h' tk acc' c', (∀ b o, b ≠ S → s.heap.get? b = some o → h'.get? b = some o) → h'.get? S = some { cls := .type "list", dict := none, data := .seq acc' c', slots := #[] } →
      ItemsOf (fun i v => ∃ t, v = .int (a + i * c) t) acc' n → R (.ok (.ret .none)) { s with heap := h', toks := tk }) :
    wpAny (model prog w) A.in1 (Builtin.«list.__init__» ⟨[.ref S, .ref r], []⟩)
      (fun fin s' => match fin with | .done f => R (.ok f) s' | .again c' => c'.quiet = true ∧ codeAny (model prog w) A c' R s') (fun e s' => R (.error e) s') s := by
  have hSr : S ≠ r := fun e => by rw [e, hr] at hS; simp at hS
  show wpAny _ _ (do let old ← Builtin.List.listItems (.ref S); Builtin.List.listUpdate (.ref S) (fun _ => #[]); letGo old.toList.reverse; Builtin.List.listExtendWith (.ref S) (.ref r) .none) _ _ s
  refine wpAny_bind ?_
  unfold Builtin.List.listItems
  refine wpAny_bind (wpAny_seqItems hS rfl (wpAny_pure ?_))
  show wpAny _ _ (updateSeq S (fun _ => #[]) >>= fun _ => letGo (#[] : Array Value).toList.reverse >>= fun _ => Builtin.List.listExtendWith (.ref S) (.ref r) .none) _ _ s
  refine wpAny_bind (wpAny_updateSeq hS rfl ?_)
  have hS₂ := Heap.get?_update_self (Obj.mapSeq (fun _ => (#[] : Array Value))) hS rfl
  have oth : ∀ b o, b ≠ S → s.heap.get? b = some o → (s.heap.update S (Obj.mapSeq (fun _ => (#[] : Array Value)))).get? b = some o :=
    fun b o hb e => (Heap.get?_update_other _ _ (Ne.symm hb)).trans e
  refine wpAny_bind (wpAny_letGo ?_)
  refine extend_longR hh (oth r _ (Ne.symm hSr) hr) hbig hn hlen S .none _ hS₂ fun h' tk acc' c' hk hS' hacc => ?_
  exact hR h' tk acc' c' (fun b o hb e => hk b o hb (oth b o hb e)) hS' hacc
theorem list_longR {Q : Value → Shared → Prop} {r : Addr} {a b c : Int} {t u v : Tok} {n : Nat} (hh : A.handled = none) (hr : IsRange s.heap r a b c t u v) (hbig : Builtin.Range.small a b c = false)
    (hn : Builtin.Range.rangeSize a b c = n) (hlen : n ≤ 2 ^ 24)
    (hQ : ∀ h' tk acc' c', (∀ b o, s.heap.get? b = some o → h'.get? b = some o) →
      h'.get? s.heap.objs.size = some { cls := .type "list", dict := none, data := .seq acc' c', slots := #[] } → ItemsOf (fun i v => ∃ t, v = .int (a + i * c) t) acc' n → Q (.ref s.heap.objs.size) { s with heap := h', toks := tk }) :
    wpAny (model prog w) A (call (.type "list") [.ref r]) Q E s := by
  refine callType_codes (Q₁ := fun obj s₁ => obj = .ref s.heap.objs.size ∧ s₁ = { s with heap := s.heap.push { cls := .type "list", data := .seq #[] } }) F.called_list (F.typeCall_list_1 _) F.entry_list_init
    (code_list_new _ ⟨rfl, rfl⟩) fun obj s₁ h₁ => ?_
  obtain ⟨rfl, rfl⟩ := h₁
  have hS : (s.heap.push { cls := .type "list", data := .seq #[] }).get? s.heap.objs.size = some { cls := .type "list", data := .seq #[] } := Heap.get?_push_size _ rfl
  refine ⟨⟨_, hS, rfl⟩, F.args_list_init_2 _ _, init_longR (A := A.in1) hh (Heap.get?_push_of_some _ hr) hbig hn hlen _ hS fun h' tk acc' c' hk hS' hacc => ?_⟩
  exact ⟨rfl, hQ h' tk acc' c' (fun b o e => hk b o (Nat.ne_of_lt (Heap.lt_size e)) (Heap.get?_push_of_some _ e)) hS' hacc⟩
end
end PySem
namespace KR
open PySem PySem.Spec PyProof.Rows L2
/-- list(range(a, b)) of any ends -/
@[irreducible] def rLstB (a b : Int) (H : Hp) (Q : VK) : Prop := (b - a).toNat ≤ 2 ^ 24 ∧ ∀ q H', H q = none → Same H H' → H' q = some (.lst (rgV a b)) → Q (.ref q) H'
theorem use_lstB {a b : Int} {H : Hp} {Q : VK} (h : (b - a).toNat ≤ 16777216) (k : ∀ q H', H q = none → Same H H' → H' q = some (.lst (rgV a b)) → Q (.ref q) H') : rLstB a b H Q := by unfold rLstB; exact ⟨h, k⟩
def tLstB (te : L2.St → Hp → (Int → Int → Hp → Prop) → Prop) : TE := fun σ H Q => te σ H fun a b H1 => rLstB a b H1 Q
theorem pe_listRgB {X : Cx} {e : Expr} {te : L2.St → Hp → (Int → Int → Hp → Prop) → Prop} {p pos : Pos} (hc : X.calm = true) (hg : Gl X "list") (hm : X.mg "list" = none) (he : PRg X e te) (na : starEach [e] X.env = (false, eval e X.env) :: starEach [] X.env := by rfl) :
    PE X (.Call (.Name "list" p) [e] [] pos) (tLstB te) := by
  refine ⟨fun pins s σ H Q I h => ?_⟩
  refine Call_ (ld_blt I hg hm boot_list (PyProof.Rows.callWith_type1 (args_cons (thn (he pins s σ H _ I h) fun x s1 ⟨r, a, b, t, u, v, H1, ex, hr, I1, q⟩ => args_nil ?_) na) na))
  subst ex
  unfold rLstB at q
  obtain ⟨b5, q⟩ := q
  have fin : ∀ (h' : Heap) (tk : Nat) (acc : Array Value) (c' : Nat), (∀ b o, s1.heap.get? b = some o → h'.get? b = some o) → h'.get? s1.heap.objs.size = some { cls := .type "list", dict := none, data := .seq acc c', slots := #[] } →
      ItemsOf (fun i v => ∃ t, v = .int (a + i * 1) t) acc (b - a).toNat → EP X pins σ Q (.ref s1.heap.objs.size) { s1 with heap := h', toks := tk } := fun h' tk acc c' hk e' hi => by
    have n1 := I1.hok.fresh (Nat.le_refl s1.heap.objs.size)
    refine ⟨.ref s1.heap.objs.size, upd H1 s1.heap.objs.size (.lst (rgV a b)), I1.laid hk (Nat.le_refl _) (show ObjOk X.prog X.w _ _ _ (.lst (rgV a b)) from ⟨?_, acc.toList, c', vals_rg hi, ?_⟩), rfl, q _ _ n1 (same_new n1) upd_same⟩
    · rw [rgV_length, sizeLine_eq]; omega
    · rw [Array.toArray_toList]; exact e'
  cases hb : Builtin.Range.small a b 1 with
  | true => exact call_list_range (n := (b - a).toNat) (I1.ok.hd hc) hr hb (rangeSize_nat a b) b5 fin
  | false => exact list_longR (n := (b - a).toNat) (I1.ok.hd hc) hr hb (rangeSize_nat a b) b5 fin
end KR
namespace L2
open PySem PySem.Spec PyProof.Rows
section
variable {P : Program} {w : World} {A : Around} {R : Result → Shared → Prop} {I : Addr} {fp wr : List Addr} {G : Array GenState → Array GenState → Prop} {n : Nat} {Pv : Nat → Value → Prop} {St : Nat → Shared → Prop}
/-- the set at a holds what has come of ns -/
def SetSo (w : World) (h : Heap) (a : Addr) (ns : List Int) (i : Nat) : Prop := ∃ m, m ≤ i ∧ SetR w h a (fun k => decide (k ∈ ns.take i)) m
theorem set_loopR (W : WalksS P w A.in1 I fp wr G n Pv St) (S : Addr) (hSf : S ∉ fp) (ns : List Int) (hl : ns.length = n) (hval : ∀ i v, Pv i v → ∃ t, v = .int (ns.getD i 0) t) (hb : n + 1 < scanBound) :
    ∀ (k i : Nat) (s : Shared), n - i = k → i ≤ n → St i s → SetSo w s.heap S ns i → (∀ s', Moved (S :: wr) G s s' → SetSo w s'.heap S ns n → R (.ok (.ret .none)) s') →
      codeAny (model P w) A (.builtin "set.update.loop" ⟨[.ref S, .ref I], []⟩) R s := by
  have hSw : S ∉ wr := fun h => hSf (W.sub _ h)
  have hsub : ∀ b ∈ wr, b ∈ S :: wr := fun b hb => List.mem_cons_of_mem _ hb
  intro k
  induction k with
  | zero =>
    intro i s hk hi hst hS hR
    obtain rfl : i = n := by omega
    refine codeAny_builtin F.entry_set_update_loop ?_
    rw [Around.under_plainId F.plain_set_update_loop _]
    show wpAny _ A.in1 (pyNext (.ref I) >>= _) _ _ s
    refine wpAny_bind (W.done s _ _ hst fun s' hm => ?_)
    refine wpAny_pure (hR s' (hm.mono hsub) ?_)
    obtain ⟨m, hm1, r⟩ := hS
    exact ⟨m, hm1, r.at fun o ho => hm.heap S _ hSw ho⟩
  | succ k ih =>
    intro i s hk hi hst hS hR
    have hlt : i < n := by omega
    refine codeAny_builtin F.entry_set_update_loop ?_
    rw [Around.under_plainId F.plain_set_update_loop _]
    show wpAny _ A.in1 (pyNext (.ref I) >>= _) _ _ s
    refine wpAny_bind (W.item i s _ _ hlt hst fun v s' hP hst' hm => ?_)
    obtain ⟨t, rfl⟩ := hval i v hP
    obtain ⟨m, hm1, r⟩ := hS
    have r' := r.at (h' := s'.heap) fun o ho => hm.heap S _ hSw ho
    refine wpAny_bind (wpAny_holding ?_)
    unfold setAdd
    refine wpAny_holding ?_
    refine wpAny_bind ((intKind P w).pyHash (k := ns.getD i 0) (intKind_is _ _ _ _) ?_)
    refine setR_add_hashed (s := { s' with toks := s'.toks + 1 }) r' (by omega) fun h' hsb r2 => ?_
    have rS : SetSo w h' S ns (i + 1) := by
      refine ⟨_, ?_, r2.congr fun j => ?_⟩
      · split <;> omega
      · have hi' : i < ns.length := by omega
        have e : ns.take (i + 1) = ns.take i ++ [ns.getD i 0] := by
          rw [List.take_add_one, List.getD_eq_getElem?_getD, List.getElem?_eq_getElem hi']
          rfl
        show decide (j ∈ ns.take (i + 1)) = (decide (j ∈ ns.take i) || decide (j = ns.getD i 0))
        rw [e, Bool.eq_iff_iff, Bool.or_eq_true, decide_eq_true_eq, decide_eq_true_eq, decide_eq_true_eq, List.mem_append, List.mem_singleton]
    refine wpAny_pure ⟨plainId_quiet F.plain_set_update_loop _, ih (i + 1) _ (by omega) hlt (W.frame _ s' _ _ hst' (Nat.le_succ _) fun b hb o e => ?_) rS fun s'' hm'' hS'' => ?_⟩
    · rw [hsb.2 b (fun h : b = S => hSf (by rw [← h]; exact hb))]; exact e
    · refine hR s'' (Moved.trans W.gtrans ((hm.mono hsub).then_heap (Nat.le_succ _) fun b o hb e => ?_) hm'') hS''
      rw [hsb.2 b (fun h : b = S => hb (by rw [h]; exact List.mem_cons_self))]; exact e
end
section
variable {P : Program} {w : World} {A : Around} {E : Value → Shared → Prop} {s : Shared}
theorem code_set_led1 (a : Value) {Q₁ : Value → Shared → Prop}
    (h : Q₁ (.ref s.heap.objs.size) { s with heap := s.heap.push { cls := .type "set", dict := none, data := .set #[] 0 (.fresh 0 0 (!w.params.followText "set-order")) } }) :
    codeAny (model P w) A (.call (.builtin "set.__new__") ⟨[.type "set", a], []⟩) (wants Q₁ E) s := by
  refine codeAny_of_tree ?_
  show wpAny _ A.in1 (do checkBuiltinCall "set.__new__" ⟨[.type "set", a], []⟩; again (.builtin "set.__new__" ⟨[.type "set", a], []⟩)) _ _ s
  refine wpAny_bind (wpAny_of_eq (F.newCall_set_1 a) (wpAny_pure ⟨plainId_quiet F.plain_set_new _, codeAny_builtin F.entry_set_new ?_⟩))
  rw [Around.under_plainId F.plain_set_new _]
  unfold Builtin.«set.__new__» Builtin.Frozenset.newClass
  have hsub := sub_set_self
  obtain ⟨hp, g, d, tk, os⟩ := s
  dsimp only
  wp_walk
  refine wpAny_askSetting (wpAny_pure ?_)
  dsimp only
  simp only [newObj]
  refine wpAny_bind (wpAny_alloc (wpAny_pure ?_))
  exact wpAny_pure h
set_option maxHeartbeats 8000000 in
set_option maxRecDepth 100000 in
theorem setR_list {l : Addr} {items : Array Value} {ns : List Int} {Q : Value → Shared → Prop} (hh : A.handled = none) (hl : s.heap.IsList l items) (hi : IntsAre items.toList ns) (hb : items.size + 1 < scanBound)
    (h : ∀ (h' : Heap) (tk : Nat), SetSo w h' s.heap.objs.size ns items.size → (∀ b o, b < s.heap.objs.size → s.heap.get? b = some o → h'.get? b = some o) → Q (.ref s.heap.objs.size) { s with heap := h', toks := tk }) :
    wpAny (model P w) A (call (.type "set") [.ref l]) Q E s := by
  obtain ⟨c, tl, hmro⟩ := F.called_set.mro
  have hmade := F.called_set.made
  have hsub := F.called_set.sub
  refine wpAny_call (codeAny_of_tree ?_)
  show wpAny _ _ (callAny (.type "set") _) _ _ _
  refine wpAny_pure ⟨Code.quiet_builtin _ (by decide +kernel), codeAny_builtin F.entry_type_call ?_⟩
  rw [Around.under_plain (weight_type_call_type "set" [.ref l] []) rfl]
  have h1 := F.called_set.notType
  have h2 := F.called_set.canCreate
  have hct := F.typeCall_set_1 (.ref l)
  repeat (any_goals (first | assumption | wp_step))
  refine codeAny_mono (code_set_led1 (.ref l) (E := E) (Q₁ := fun obj s₁ => obj = .ref s.heap.objs.size ∧ s₁ = { s with heap := s.heap.push { cls := .type "set", dict := none, data := .set #[] 0 (.fresh 0 0 (!w.params.followText "set-order")) } }) ⟨rfl, rfl⟩) fun r s₁ hr => ?_
  cases r with
  | error e => exact hr
  | ok fl =>
    cases fl with
    | ret obj =>
      obtain ⟨rfl, rfl⟩ := hr
      have R0 := setR_fresh (h := s.heap) w
      have hS : (s.heap.push { cls := .type "set", dict := none, data := .set #[] 0 (.fresh 0 0 (!w.params.followText "set-order")) }).get? s.heap.objs.size = some { cls := .type "set", dict := none, data := .set #[] 0 (.fresh 0 0 (!w.params.followText "set-order")) } := Heap.get?_push_size _ rfl
      have hT : Shared.TypeIs { s with heap := s.heap.push { cls := .type "set", dict := none, data := .set #[] 0 (.fresh 0 0 (!w.params.followText "set-order")) } } (.ref s.heap.objs.size) "set" := ⟨_, hS, rfl⟩
      have hli := F.called_set.init.lookup
      have hbi := F.called_set.init.bind (.ref s.heap.objs.size)
      repeat (any_goals (first | assumption | wp_step))
      refine codeAny_mono (codeAny_call_builtin (R := wants (fun r s₂ => r = .none ∧ ∃ h' tk, s₂ = { s with heap := h', toks := tk } ∧ SetSo w h' s.heap.objs.size ns items.size ∧ (∀ b o, b < s.heap.objs.size → s.heap.get? b = some o → h'.get? b = some o)) E) F.called_set.init.plain F.entry_set_init (check_set_init_1 hT ?_)) fun r₂ s₂ hr₂ => ?_
      · obtain ⟨ol, hol, hcl, nl, hdl⟩ := hl
        obtain ⟨ocls, odict, odata, oslots⟩ := ol
        simp only at hcl hdl
        subst hcl; subst hdl
        have hol' : (s.heap.push { cls := .type "set", dict := none, data := .set #[] 0 (.fresh 0 0 (!w.params.followText "set-order")) }).get? l = some { cls := .type "list", dict := odict, data := .seq items nl, slots := oslots } := Heap.get?_push_of_some _ hol
        have hsls := F.sub_list_set
        have hslf := F.sub_list_frozenset
        have hne : (Value.type "list" == Value.type "dict") = false := by decide
        have hl1 : (s.heap.push { cls := .type "set", dict := none, data := .set #[] 0 (.fresh 0 0 (!w.params.followText "set-order")) }).IsList l items := ⟨_, hol', rfl, nl, rfl⟩
        unfold Builtin.«set.__init__» noKeywords Builtin.Frozenset.updateFrom
        generalize hPI : pyIter = PI
        wp_walk
        subst hPI
        refine wpAny_pyIter_list hl1 ?_
        refine wpAny_bind (wpAny_runValue ?_)
        have hlS : l < s.heap.objs.size := Heap.lt_size hol
        have hh3 : A.in1.in1.in1.handled = none := by simp [hh]
        have hneI : l ≠ (s.heap.push { cls := .type "set", dict := none, data := .set #[] 0 (.fresh 0 0 (!w.params.followText "set-order")) }).objs.size := by
          rw [Heap.size_push]; exact Nat.ne_of_lt (Nat.lt_succ_of_lt hlS)
        have hSf : s.heap.objs.size ∉ [(s.heap.push { cls := .type "set", dict := none, data := .set #[] 0 (.fresh 0 0 (!w.params.followText "set-order")) }).objs.size, l] := by
          rw [Heap.size_push]; simp only [List.mem_cons, List.not_mem_nil, or_false, not_or]
          exact ⟨Nat.ne_of_lt (Nat.lt_succ_self _), Nat.ne_of_gt hlS⟩
        have hlen : ns.length = items.size := by rw [← Array.length_toList]; exact hi.length.symm
        refine set_loopR ((Walks.list hh3 _ l hneI items).toS) s.heap.objs.size hSf ns hlen (fun i v hv => IntsAre.int_at hi i v (by rw [Array.getElem?_toList]; exact hv)) hb (items.size - 0) 0 _ (by omega) (Nat.zero_le _)
          ⟨⟨_, Heap.get?_push_size _ rfl, rfl, rfl⟩, (hl1.push _)⟩ ⟨0, Nat.le_refl _, (R0.at fun o ho => Heap.get?_push_of_some _ ho).congr fun k => by simp⟩ fun s' hm hS' => ?_
        obtain ⟨h', g', d', tk', os'⟩ := s'
        have eg : g' = s.gens := hm.gens
        have ed : d' = s.drawn := hm.drawn
        have eo : os' = s.os := hm.os
        subst eg; subst ed; subst eo
        refine wpAny_pure ?_
        show wpAny _ _ (ret Value.none) _ _ _
        refine wpAny_pure ⟨rfl, h', tk', rfl, hS', fun b o hb e => ?_⟩
        have hb1 : b ≠ s.heap.objs.size := Nat.ne_of_lt hb
        have hb2 : b ≠ (s.heap.push { cls := .type "set", dict := none, data := .set #[] 0 (.fresh 0 0 (!w.params.followText "set-order")) }).objs.size := by rw [Heap.size_push]; exact Nat.ne_of_lt (Nat.lt_succ_of_lt hb)
        exact hm.heap b o (by simp only [List.mem_cons, List.not_mem_nil, or_false, not_or]; exact ⟨hb1, hb2⟩) (Heap.get?_push_of_some _ (Heap.get?_push_of_some _ e))
      · cases r₂ with
        | error e => exact hr₂
        | ok fl₂ =>
          cases fl₂ with
          | ret r =>
            obtain ⟨rfl, h', tk, rfl, hS', hk'⟩ := hr₂
            repeat (any_goals (first | assumption | wp_step))
            exact h _ _ hS' hk'
          | _ => exact hr₂.elim
    | _ => exact hr.elim
end
end L2
namespace KR
open PySem PySem.Spec PyProof.Rows L2
/-- set(xs) of a list of ints, fewer than 64 -/
def rSetL (K : PySem.W.Frag) (w : World) : List V → Hp → VK → Prop := fun vs H Q => ∃ (l : Addr) (ns : List Int), vs = [V.ref l] ∧ SqL K H l (ns.map V.int) ∧ ns.length ≤ 1000 ∧
  ∀ p m H', H p = none → Same H H' → m ≤ ns.length → H' p = some (SetO w p (fun k => decide (k ∈ ns)) m) → Q (.ref p) H'
theorem cr_setL {X : Cx} {K : PySem.W.Frag} (hc : X.calm = true) (hK : X.K = K := by rfl) : CallR X (.type "set") (rSetL K X.w) := by
  subst hK
  intro pins s σ H xs us Q I r h
  obtain ⟨l, ns, rfl, hs, hn, q⟩ := h
  obtain ⟨its, rv, pl, hz⟩ := I.list hs
  rw [Vals.ref1 r]
  have hlen : its.length = ns.length := by rw [← rv.length, List.length_map]
  refine setR_list (I.ok.hd hc) pl.isList (ns := ns) (by simpa using intsAre_of rv) (by rw [List.size_toArray, hlen]; unfold scanBound; omega) fun h' tk hS hk => ?_
  obtain ⟨m, hm, R⟩ := hS
  rw [List.size_toArray, hlen] at hm
  have R := R.congr (S' := fun k => decide (k ∈ ns)) fun k => by
    show decide (k ∈ ns) = decide (k ∈ ns.take its.toArray.size)
    rw [List.size_toArray, hlen, List.take_length]
  have n1 := I.hok.fresh (Nat.le_refl s.heap.objs.size)
  exact ⟨.ref s.heap.objs.size, upd H s.heap.objs.size (SetO X.w s.heap.objs.size (fun k => decide (k ∈ ns)) m), I.laid (t' := tk) (fun b u e => hk b u (Heap.lt_size e) e) (Nat.le_refl _) (setO_new R), rfl, q _ m _ n1 (same_new n1) hm upd_same⟩
/-- sorted(s) of a set of ints, fewer than 64 -/
def rSortS (w : World) : List V → Hp → VK → Prop := fun vs H Q => ∃ (a : Addr) (S : Int → Bool) (n : Nat), vs = [V.ref a] ∧ H a = some (SetO w a S n) ∧ n < 64 ∧
  ∀ (ns : List Int) (p : Addr) H', ns.Pairwise (· < ·) → (∀ k : Int, k ∈ ns ↔ S k = true) → ns.length = n → H p = none → Same H H' → H' p = some (.lst (ns.map V.int)) → Q (.ref p) H'
theorem cr_sortS {X : Cx} (hc : X.calm = true) : CallR X (.builtin "sorted") (rSortS X.w) := by
  intro pins s σ H vs us Q I r h
  obtain ⟨a, S, n, e, ha, h64, q⟩ := h
  exact cr_sortedSet hc pins s σ H vs us Q I r ⟨a, S, n, e, ha, h64, fun ns p h1 h2 h3 h4 => q ns p _ h1 h2 h3 h4 (same_new h4) upd_same⟩
end KR
namespace L2
open PySem PySem.Spec PyProof.Rows
section
variable {P : Program} {w : World} {A : Around} {E : Value → Shared → Prop} {s : Shared}
theorem sorted_setB {a : Addr} {S : Int → Bool} {n : Nat} {Q : Value → Shared → Prop} (R : SetR w s.heap a S n) (hh : A.handled = none) (h64 : n ≤ 1000)
    (hQ : ∀ s' p (out : Array Value) (c : Nat) (ns : List Int), (∀ b o, s.heap.get? b = some o → s'.heap.get? b = some o) → s'.gens = s.gens → s'.os = s.os → s.heap.objs.size ≤ p →
      s'.heap.get? p = some (seqObj "list" out c) → IntsAre out.toList ns → ns.Pairwise (· < ·) → (∀ k, k ∈ ns ↔ S k = true) → ns.length = n → Q (.ref p) s') :
    wpAny (model P w) A (call (.builtin "sorted") [.ref a]) Q E s := by
  obtain ⟨o, es, ep, t, ho, hex, hd, g, nd, hm, hb, hf, hn, hr, hl⟩ := R
  refine Calls.call_function_entry kind_sorted plain_sorted entry_sorted (args_sorted1 _) ?_
  unfold Builtin.«sorted»
  refine wpAny_bind (m := checkCount "sorted" 1 1 _) (wpAny_pure ?_)
  refine wpAny_bind (collect_set (A := A.in1) hh ⟨o, ho, hex.1, hd⟩ hf hb hr hl fun s1 vs k1 hz g1 o1 pm => ?_)
  have hvl : vs.length = n := by rw [pm.length_eq, List.length_map, Array.length_toList]; exact hn
  have hI : IntsAre vs (vs.map Builtin.Re.reRawOf) := ints_of vs fun v hv => by
    obtain ⟨e, he, q⟩ := List.mem_map.mp (pm.mem_iff.mp hv)
    obtain ⟨k, tk, h1, _⟩ := g e he
    exact ⟨k, tk, by rw [← q]; exact h1⟩
  have pk : (vs.map Builtin.Re.reRawOf).Perm (es.toList.map keyOf) := by
    have q := pm.map Builtin.Re.reRawOf
    rw [List.map_map] at q
    exact q
  have hsl : vs.length ≤ sizeLine := by rw [hvl, sizeLine_eq]; omega
  refine wpAny_bind (wpAny_newList ?_ hsl)
  have hoL : (s1.heap.push (seqObj "list" vs.toArray 0)).get? s1.heap.objs.size = some (seqObj "list" vs.toArray 0) := Heap.get?_push_size _ rfl
  refine wpAny_bind (wpAny_holding (wpAny_call_entry slot_list_sort ⟨_, hoL, rfl⟩ entry_list_sort (SrtO.list_sort_ord SrtO.swo_int hoL hsl (fun h2 => SrtO.ints_sortable hI h2) fun out h1 h2 => ⟨_, rfl, ?_⟩) (args_list_sort _)))
  obtain ⟨a1, a2, a3⟩ := SrtO.ints_out hI h1 h2
  obtain ⟨c, hc⟩ := sortedHeap_at (vs := vs) (out := out.toArray) hoL
  have pn : (out.map SrtO.iv).Perm (es.toList.map keyOf) := a2.trans pk
  refine wpAny_pure ⟨_, rfl, hQ _ s1.heap.objs.size out.toArray c _ (fun b u e => ?_) g1 o1 hz hc (by simpa using a1) (lt_of_le_nodup _ a3 (pn.nodup_iff.mpr nd)) (fun k => by rw [pn.mem_iff, ← hm k]) ?_⟩
  · have q := k1 b u e
    have hlt := Heap.lt_size q
    show (sortedHeap (s1.heap.push (seqObj "list" vs.toArray 0)) s1.heap.objs.size vs out.toArray).get? b = some u
    rw [sortedHeap_old (Nat.ne_of_lt hlt) (by rw [size_push']; exact Nat.lt_succ_of_lt hlt)]
    exact Heap.get?_push_of_some _ q
  · rw [pn.length_eq, List.length_map, Array.length_toList]; exact hn
end
end L2
namespace KR
open PySem PySem.Spec PyProof.Rows L2
/-- sorted(s) of a set of ints, up to a thousand -/
def rSortSB (w : World) : List V → Hp → VK → Prop := fun vs H Q => ∃ (a : Addr) (S : Int → Bool) (n : Nat), vs = [V.ref a] ∧ H a = some (SetO w a S n) ∧ n ≤ 1000 ∧
  ∀ (ns : List Int) (p : Addr) H', ns.Pairwise (· < ·) → (∀ k : Int, k ∈ ns ↔ S k = true) → ns.length = n → H p = none → Same H H' → H' p = some (.lst (ns.map V.int)) → Q (.ref p) H'
theorem cr_sortSB {X : Cx} (hc : X.calm = true) : CallR X (.builtin "sorted") (rSortSB X.w) := by
  intro pins s σ H vs us Q I r h
  obtain ⟨a, S, n, rfl, ha, h64, q⟩ := h
  have R := setO_get I ha
  rw [Vals.ref1 r]
  refine sorted_setB R (I.ok.hd hc) h64 fun s' p out c ns k g o hp hg hi hs hm hl => ?_
  have hlen : (ns.map V.int).length ≤ sizeLine := by rw [List.length_map, hl, sizeLine_eq]; omega
  have hn : H p = none := I.hok.fresh hp
  have J : Inv X pins σ (upd H p (.lst (ns.map V.int))) { s with heap := s'.heap, gens := s'.gens, drawn := s'.drawn, toks := s'.toks } :=
    I.call (ch := []) (Un.laid k hp hn) (I.hok.laid k hp ⟨hlen, out.toList, c, vals_of_ints hi, hg⟩) (by rw [g]; exact I.bare) (fun _ z => nomatch z)
  have e : s' = { s with heap := s'.heap, gens := s'.gens, drawn := s'.drawn, toks := s'.toks } := by
    cases s'
    cases s
    cases o
    rfl
  rw [e]
  exact ⟨.ref p, _, J, rfl, q ns p _ hs hm hl hn (same_new hn) upd_same⟩
/-- sorted(xs) of a list of ints -/
def rSortLI (K : PySem.W.Frag) : List V → Hp → VK → Prop := fun vs H Q => ∃ (a : Addr) (ns : List Int), vs = [V.ref a] ∧ SqL K H a (ns.map V.int) ∧
  ∀ (ns' : List Int) (p : Addr) H', ns'.Perm ns → ns'.Pairwise (· ≤ ·) → H p = none → Same H H' → H' p = some (.lst (ns'.map V.int)) → Q (.ref p) H'
theorem cr_sortLI {X : Cx} {K : PySem.W.Frag} (hK : X.K = K := by rfl) : CallR X (.builtin "sorted") (rSortLI K) := by
  subst hK
  intro pins s σ H vs us Q I r h
  obtain ⟨a, ns, e, hs, q⟩ := h
  exact cr_sortedI pins s σ H vs us Q I r ⟨a, ns, e, hs, fun ns' p h1 h2 h3 => q ns' p _ h1 h2 h3 (same_new h3) upd_same⟩
theorem vals_pick {xs : List V} {us : List Value} (r : Vals xs us) : ∀ js : List Nat, Vals (js.filterMap (xs[·]?)) (js.filterMap (us[·]?))
  | [] => .nil
  | j :: js => by
    rw [List.filterMap_cons, List.filterMap_cons]
    cases h : xs[j]? with
    | none => rw [Vals.none_of r h]; exact vals_pick r js
    | some x =>
      obtain ⟨u, hu, ru⟩ := r.get h
      rw [hu]
      exact .cons ru (vals_pick r js)
/-- xs[::k]: some of the items -/
def rSlS (K : PySem.W.Frag) : R2 := fun x y H Q => ∃ (a : Addr) (xs : List V) (k : Int), x = .ref a ∧ y = .int k ∧ SqL K H a xs ∧ k ≠ 0 ∧
  ∀ (ys : List V) (p : Addr) H', (∀ v ∈ ys, v ∈ xs) → ys.length ≤ xs.length → H p = none → Same H H' → H' p = some (.lst ys) → Q (.ref p) H'
theorem pe_sliceS {X : Cx} {K : PySem.W.Frag} {e st : Expr} {te ts : TE} {p2 pos : Pos} (he : PE X e te) (hst : PE X st ts) (hK : X.K = K := by rfl) : PE X (.Subscript e (.Slice none none (some st) p2) pos) (tOp (rSlS K) te ts) := by
  subst hK
  refine ⟨fun pins s σ H Q I h => ?_⟩
  refine Subscript_ (thn (he.run pins s σ H _ I h) fun v s1 ⟨x, H1, I1, r1, q1⟩ => ?_)
  refine wpAny_Slice ?_
  rw [evalPart_none]
  refine wpAny_pure ?_
  refine wpAny_pure ?_
  rw [evalPart_some]
  refine thn (hst.run pins s1 σ H1 _ I1 q1) fun vk s3 ⟨y, H3, I3, r3, q3⟩ => ?_
  obtain ⟨a, xs, k, rfl, rfl, hx, hk, q⟩ := q3
  cases r1
  obtain ⟨t, rfl⟩ := r3
  have I4 : Inv X pins σ H3 { s3 with heap := s3.heap.push { cls := .type "slice", data := .fields #[Value.none, Value.none, .int k t] } } := I3.kept (t' := s3.toks) fun b ob q => Heap.get?_push_of_some _ q
  obtain ⟨its, r, ht, hz⟩ := I4.list hx
  have hlen := r.length
  show wpAny (model X.prog X.w) X.A (subscriptTail e (.Slice none none (some st) p2) (.ref a) (.ref s3.heap.objs.size)) (EP X pins σ Q) X.xe { s3 with heap := s3.heap.push { cls := .type "slice", data := .fields #[Value.none, Value.none, .int k t] } }
  refine tail_any (ops := [.ref a, .ref s3.heap.objs.size]) ht.isList.typeIs slot_list_getitem.lookup ?_ (by with_unfolding_all rfl)
  refine wpAny_getItem_list_slice ht.isList (Heap.IsSliceOf.new ..) .none .none (.int k t) (fun z => hk (Option.some.inj z)) ?_ (by rw [List.size_toArray] <;> omega)
  have hp : ∃ js : List Nat, (slicePick its.toArray none none (some k)).toList = js.filterMap (its[·]?) := ⟨_, by
    unfold slicePick
    rw [List.toList_toArray]
    exact congrArg (fun f => List.filterMap f _) (funext fun j => by simp)⟩
  obtain ⟨js, hj⟩ := hp
  have hsz := slicePick_size_le its.toArray none none (some k)
  have rj := vals_pick r js
  rw [← hj] at rj
  have hl2 : (js.filterMap (xs[·]?)).length = (slicePick its.toArray none none (some k)).size := rj.length
  have hle0 : (js.filterMap (xs[·]?)).length ≤ xs.length := by rw [hl2, hlen]; exact Nat.le_trans hsz (Nat.le_of_eq (List.size_toArray))
  have hle : xs.length ≤ sizeLine := by first | exact hz | (rw [hlen]; exact hz)
  exact ⟨.ref _, _, I4.laid (t' := s3.toks) (o := .lst (js.filterMap (xs[·]?))) (fun b ob q => Heap.get?_push_of_some _ q) (Nat.le_refl _) ⟨Nat.le_trans hle0 hle, _, 0, rj, Heap.get?_push_size _ rfl⟩, rfl,
    q _ _ _ (fun v hv => by obtain ⟨j, _, e⟩ := List.mem_filterMap.mp hv; exact List.mem_of_getElem? e) hle0 (I4.hok.fresh (Nat.le_refl _)) (same_new (I4.hok.fresh (Nat.le_refl _))) upd_same⟩
end KR
namespace KR
open PySem PySem.Spec PyProof.Rows L2
theorem units65 {k : Nat} {A : Around} (r : L2.Room k A) : A.units + 65 < cLine := by have := r.un; omega
theorem op_inDK {X : Cx} {K : PySem.W.Frag} (hu : X.A.units + 65 < cLine) (h : X.K = K := by rfl) : OpR X (compareOp .In) (rInD K) := h ▸ op_inD hu
theorem op_notInDK {X : Cx} {K : PySem.W.Frag} (hu : X.A.units + 65 < cLine) (h : X.K = K := by rfl) : OpR X (compareOp .NotIn) (rNotInD K) := h ▸ op_notInD hu
end KR
namespace KR
open PySem PySem.Spec PyProof.Rows L2
def topS (i : Nat) : Stmt := PySem.Challenge.pw_keeprows_k14_trees_near.main.body.getD i (.Pass ⟨0, 0, 0, 0⟩)
abbrev s_is_integer : Stmt := topS 15
abbrev P_is_integer : List Str := ["value"]
abbrev N_is_integer : List Str := ["value"]
def dd_is_integer : He.DefD := ⟨("is_integer", none), "is_integer", "is_integer", defArgs s_is_integer, defBody s_is_integer, defScope s_is_integer, [], []⟩
theorem sc_is_integer : FnScope N_is_integer P_is_integer (defScope s_is_integer) := ⟨rfl, rfl, rfl, by decide +kernel, rfl, by decide +kernel, by decide +kernel⟩
abbrev F_is_integer (K : PySem.W.Frag) (fd : FuncData) : Prop := FunD K "is_integer" "is_integer" (defArgs s_is_integer) (defBody s_is_integer) (defScope s_is_integer) [] [] (He.fAd K ("is_integer", none)) fd
abbrev s_is_between : Stmt := topS 16
abbrev P_is_between : List Str := ["value", "low", "high"]
abbrev N_is_between : List Str := ["value", "low", "high"]
def dd_is_between : He.DefD := ⟨("is_between", none), "is_between", "is_between", defArgs s_is_between, defBody s_is_between, defScope s_is_between, [], []⟩
theorem sc_is_between : FnScope N_is_between P_is_between (defScope s_is_between) := ⟨rfl, rfl, rfl, by decide +kernel, rfl, by decide +kernel, by decide +kernel⟩
abbrev F_is_between (K : PySem.W.Frag) (fd : FuncData) : Prop := FunD K "is_between" "is_between" (defArgs s_is_between) (defBody s_is_between) (defScope s_is_between) [] [] (He.fAd K ("is_between", none)) fd
abbrev s_check_part : Stmt := topS 17
abbrev P_check_part : List Str := ["part", "value", "low", "high"]
abbrev N_check_part : List Str := ["part", "value", "low", "high"]
def dd_check_part : He.DefD := ⟨("check_part", none), "check_part", "check_part", defArgs s_check_part, defBody s_check_part, defScope s_check_part, [], []⟩
theorem sc_check_part : FnScope N_check_part P_check_part (defScope s_check_part) := ⟨rfl, rfl, rfl, by decide +kernel, rfl, by decide +kernel, by decide +kernel⟩
abbrev F_check_part (K : PySem.W.Frag) (fd : FuncData) : Prop := FunD K "check_part" "check_part" (defArgs s_check_part) (defBody s_check_part) (defScope s_check_part) [] [] (He.fAd K ("check_part", none)) fd
abbrev s_Settings___init__ : Stmt := inClass (topS 18) 0
abbrev P_Settings___init__ : List Str := ["self", "lengths", "size", "fanout", "records", "every", "keep"]
abbrev N_Settings___init__ : List Str := ["self", "lengths", "size", "fanout", "records", "every", "keep", "length"]
def dd_Settings___init__ : He.DefD := ⟨("Settings", some "__init__"), "__init__", "Settings.__init__", defArgs s_Settings___init__, defBody s_Settings___init__, defScope s_Settings___init__, [], []⟩
theorem sc_Settings___init__ : FnScope N_Settings___init__ P_Settings___init__ (defScope s_Settings___init__) := ⟨rfl, rfl, rfl, by decide +kernel, rfl, by decide +kernel, by decide +kernel⟩
abbrev F_Settings___init__ (K : PySem.W.Frag) (fd : FuncData) : Prop := FunD K "__init__" "Settings.__init__" (defArgs s_Settings___init__) (defBody s_Settings___init__) (defScope s_Settings___init__) [] [] (He.fAd K ("Settings", some "__init__")) fd
abbrev s_Settings___eq__ : Stmt := inClass (topS 18) 1
abbrev P_Settings___eq__ : List Str := ["self", "other"]
abbrev N_Settings___eq__ : List Str := ["self", "other"]
def dd_Settings___eq__ : He.DefD := ⟨("Settings", some "__eq__"), "__eq__", "Settings.__eq__", defArgs s_Settings___eq__, defBody s_Settings___eq__, defScope s_Settings___eq__, [], []⟩
theorem sc_Settings___eq__ : FnScope N_Settings___eq__ P_Settings___eq__ (defScope s_Settings___eq__) := ⟨rfl, rfl, rfl, by decide +kernel, rfl, by decide +kernel, by decide +kernel⟩
abbrev F_Settings___eq__ (K : PySem.W.Frag) (fd : FuncData) : Prop := FunD K "__eq__" "Settings.__eq__" (defArgs s_Settings___eq__) (defBody s_Settings___eq__) (defScope s_Settings___eq__) [] [] (He.fAd K ("Settings", some "__eq__")) fd
abbrev s_Settings_parts : Stmt := inClass (topS 18) 2
abbrev P_Settings_parts : List Str := ["self"]
abbrev N_Settings_parts : List Str := ["self"]
def dd_Settings_parts : He.DefD := ⟨("Settings", some "parts"), "parts", "Settings.parts", defArgs s_Settings_parts, defBody s_Settings_parts, defScope s_Settings_parts, [], []⟩
theorem sc_Settings_parts : FnScope N_Settings_parts P_Settings_parts (defScope s_Settings_parts) := ⟨rfl, rfl, rfl, by decide +kernel, rfl, by decide +kernel, by decide +kernel⟩
abbrev F_Settings_parts (K : PySem.W.Frag) (fd : FuncData) : Prop := FunD K "parts" "Settings.parts" (defArgs s_Settings_parts) (defBody s_Settings_parts) (defScope s_Settings_parts) [] [] (He.fAd K ("Settings", some "parts")) fd
abbrev s_check_settings : Stmt := topS 19
abbrev P_check_settings : List Str := ["value"]
abbrev N_check_settings : List Str := ["value"]
def dd_check_settings : He.DefD := ⟨("check_settings", none), "check_settings", "check_settings", defArgs s_check_settings, defBody s_check_settings, defScope s_check_settings, [], []⟩
theorem sc_check_settings : FnScope N_check_settings P_check_settings (defScope s_check_settings) := ⟨rfl, rfl, rfl, by decide +kernel, rfl, by decide +kernel, by decide +kernel⟩
abbrev F_check_settings (K : PySem.W.Frag) (fd : FuncData) : Prop := FunD K "check_settings" "check_settings" (defArgs s_check_settings) (defBody s_check_settings) (defScope s_check_settings) [] [] (He.fAd K ("check_settings", none)) fd
abbrev s_check_moment : Stmt := topS 20
abbrev P_check_moment : List Str := ["value"]
abbrev N_check_moment : List Str := ["value"]
def dd_check_moment : He.DefD := ⟨("check_moment", none), "check_moment", "check_moment", defArgs s_check_moment, defBody s_check_moment, defScope s_check_moment, [], []⟩
theorem sc_check_moment : FnScope N_check_moment P_check_moment (defScope s_check_moment) := ⟨rfl, rfl, rfl, by decide +kernel, rfl, by decide +kernel, by decide +kernel⟩
abbrev F_check_moment (K : PySem.W.Frag) (fd : FuncData) : Prop := FunD K "check_moment" "check_moment" (defArgs s_check_moment) (defBody s_check_moment) (defScope s_check_moment) [] [] (He.fAd K ("check_moment", none)) fd
abbrev s_Packing___init__ : Stmt := inClass (topS 22) 0
abbrev P_Packing___init__ : List Str := ["self", "settings"]
abbrev N_Packing___init__ : List Str := ["self", "settings", "seen"]
def dd_Packing___init__ : He.DefD := ⟨("Packing", some "__init__"), "__init__", "Packing.__init__", defArgs s_Packing___init__, defBody s_Packing___init__, defScope s_Packing___init__, [], []⟩
theorem sc_Packing___init__ : FnScope N_Packing___init__ P_Packing___init__ (defScope s_Packing___init__) := ⟨rfl, rfl, rfl, by decide +kernel, rfl, by decide +kernel, by decide +kernel⟩
abbrev F_Packing___init__ (K : PySem.W.Frag) (fd : FuncData) : Prop := FunD K "__init__" "Packing.__init__" (defArgs s_Packing___init__) (defBody s_Packing___init__) (defScope s_Packing___init__) [] [] (He.fAd K ("Packing", some "__init__")) fd
abbrev s_Packing_length : Stmt := inClass (topS 22) 1
abbrev P_Packing_length : List Str := ["self", "row"]
abbrev N_Packing_length : List Str := ["self", "row"]
def dd_Packing_length : He.DefD := ⟨("Packing", some "length"), "length", "Packing.length", defArgs s_Packing_length, defBody s_Packing_length, defScope s_Packing_length, [], []⟩
theorem sc_Packing_length : FnScope N_Packing_length P_Packing_length (defScope s_Packing_length) := ⟨rfl, rfl, rfl, by decide +kernel, rfl, by decide +kernel, by decide +kernel⟩
abbrev F_Packing_length (K : PySem.W.Frag) (fd : FuncData) : Prop := FunD K "length" "Packing.length" (defArgs s_Packing_length) (defBody s_Packing_length) (defScope s_Packing_length) [] [] (He.fAd K ("Packing", some "length")) fd
abbrev s_Packing_rows_from : Stmt := inClass (topS 22) 2
abbrev P_Packing_rows_from : List Str := ["self", "row"]
abbrev N_Packing_rows_from : List Str := ["self", "row", "found", "units"]
def dd_Packing_rows_from : He.DefD := ⟨("Packing", some "rows_from"), "rows_from", "Packing.rows_from", defArgs s_Packing_rows_from, defBody s_Packing_rows_from, defScope s_Packing_rows_from, [], []⟩
theorem sc_Packing_rows_from : FnScope N_Packing_rows_from P_Packing_rows_from (defScope s_Packing_rows_from) := ⟨rfl, rfl, rfl, by decide +kernel, rfl, by decide +kernel, by decide +kernel⟩
abbrev F_Packing_rows_from (K : PySem.W.Frag) (fd : FuncData) : Prop := FunD K "rows_from" "Packing.rows_from" (defArgs s_Packing_rows_from) (defBody s_Packing_rows_from) (defScope s_Packing_rows_from) [] [] (He.fAd K ("Packing", some "rows_from")) fd
abbrev s_Packing_holder : Stmt := inClass (topS 22) 4
abbrev P_Packing_holder : List Str := ["self", "row"]
abbrev N_Packing_holder : List Str := ["self", "row", "times", "near", "page", "place"]
def dd_Packing_holder : He.DefD := ⟨("Packing", some "holder"), "holder", "Packing.holder", defArgs s_Packing_holder, defBody s_Packing_holder, defScope s_Packing_holder, [], []⟩
theorem sc_Packing_holder : FnScope N_Packing_holder P_Packing_holder (defScope s_Packing_holder) := ⟨rfl, rfl, rfl, by decide +kernel, rfl, by decide +kernel, by decide +kernel⟩
abbrev F_Packing_holder (K : PySem.W.Frag) (fd : FuncData) : Prop := FunD K "holder" "Packing.holder" (defArgs s_Packing_holder) (defBody s_Packing_holder) (defScope s_Packing_holder) [] [] (He.fAd K ("Packing", some "holder")) fd
abbrev s_page_at : Stmt := topS 23
abbrev P_page_at : List Str := ["settings", "row"]
abbrev N_page_at : List Str := ["settings", "row"]
def dd_page_at : He.DefD := ⟨("page_at", none), "page_at", "page_at", defArgs s_page_at, defBody s_page_at, defScope s_page_at, [], []⟩
theorem sc_page_at : FnScope N_page_at P_page_at (defScope s_page_at) := ⟨rfl, rfl, rfl, by decide +kernel, rfl, by decide +kernel, by decide +kernel⟩
abbrev F_page_at (K : PySem.W.Frag) (fd : FuncData) : Prop := FunD K "page_at" "page_at" (defArgs s_page_at) (defBody s_page_at) (defScope s_page_at) [] [] (He.fAd K ("page_at", none)) fd
abbrev s_multiplied : Stmt := topS 25
abbrev P_multiplied : List Str := ["base", "times"]
abbrev N_multiplied : List Str := ["base", "times", "found", "turn"]
def dd_multiplied : He.DefD := ⟨("multiplied", none), "multiplied", "multiplied", defArgs s_multiplied, defBody s_multiplied, defScope s_multiplied, [], []⟩
theorem sc_multiplied : FnScope N_multiplied P_multiplied (defScope s_multiplied) := ⟨rfl, rfl, rfl, by decide +kernel, rfl, by decide +kernel, by decide +kernel⟩
abbrev F_multiplied (K : PySem.W.Frag) (fd : FuncData) : Prop := FunD K "multiplied" "multiplied" (defArgs s_multiplied) (defBody s_multiplied) (defScope s_multiplied) [] [] (He.fAd K ("multiplied", none)) fd
abbrev s_check_level : Stmt := topS 28
abbrev P_check_level : List Str := ["level"]
abbrev N_check_level : List Str := ["level"]
def dd_check_level : He.DefD := ⟨("check_level", none), "check_level", "check_level", defArgs s_check_level, defBody s_check_level, defScope s_check_level, [], []⟩
theorem sc_check_level : FnScope N_check_level P_check_level (defScope s_check_level) := ⟨rfl, rfl, rfl, by decide +kernel, rfl, by decide +kernel, by decide +kernel⟩
abbrev F_check_level (K : PySem.W.Frag) (fd : FuncData) : Prop := FunD K "check_level" "check_level" (defArgs s_check_level) (defBody s_check_level) (defScope s_check_level) [] [] (He.fAd K ("check_level", none)) fd
abbrev s_is_node : Stmt := topS 29
abbrev P_is_node : List Str := ["settings", "node"]
abbrev N_is_node : List Str := ["settings", "node"]
def dd_is_node : He.DefD := ⟨("is_node", none), "is_node", "is_node", defArgs s_is_node, defBody s_is_node, defScope s_is_node, [], []⟩
theorem sc_is_node : FnScope N_is_node P_is_node (defScope s_is_node) := ⟨rfl, rfl, rfl, by decide +kernel, rfl, by decide +kernel, by decide +kernel⟩
abbrev F_is_node (K : PySem.W.Frag) (fd : FuncData) : Prop := FunD K "is_node" "is_node" (defArgs s_is_node) (defBody s_is_node) (defScope s_is_node) [] [] (He.fAd K ("is_node", none)) fd
abbrev s_check_node : Stmt := topS 30
abbrev P_check_node : List Str := ["settings", "node"]
abbrev N_check_node : List Str := ["settings", "node"]
def dd_check_node : He.DefD := ⟨("check_node", none), "check_node", "check_node", defArgs s_check_node, defBody s_check_node, defScope s_check_node, [], []⟩
theorem sc_check_node : FnScope N_check_node P_check_node (defScope s_check_node) := ⟨rfl, rfl, rfl, by decide +kernel, rfl, by decide +kernel, by decide +kernel⟩
abbrev F_check_node (K : PySem.W.Frag) (fd : FuncData) : Prop := FunD K "check_node" "check_node" (defArgs s_check_node) (defBody s_check_node) (defScope s_check_node) [] [] (He.fAd K ("check_node", none)) fd
abbrev s_pages_of : Stmt := topS 31
abbrev P_pages_of : List Str := ["settings", "begin", "after"]
abbrev N_pages_of : List Str := ["settings", "begin", "after"]
def dd_pages_of : He.DefD := ⟨("pages_of", none), "pages_of", "pages_of", defArgs s_pages_of, defBody s_pages_of, defScope s_pages_of, [], []⟩
theorem sc_pages_of : FnScope N_pages_of P_pages_of (defScope s_pages_of) := ⟨rfl, rfl, rfl, by decide +kernel, rfl, by decide +kernel, by decide +kernel⟩
abbrev F_pages_of (K : PySem.W.Frag) (fd : FuncData) : Prop := FunD K "pages_of" "pages_of" (defArgs s_pages_of) (defBody s_pages_of) (defScope s_pages_of) [] [] (He.fAd K ("pages_of", none)) fd
abbrev s_live : Stmt := topS 32
abbrev P_live : List Str := ["settings", "moment"]
abbrev N_live : List Str := ["settings", "moment"]
def dd_live : He.DefD := ⟨("live", none), "live", "live", defArgs s_live, defBody s_live, defScope s_live, [], []⟩
theorem sc_live : FnScope N_live P_live (defScope s_live) := ⟨rfl, rfl, rfl, by decide +kernel, rfl, by decide +kernel, by decide +kernel⟩
abbrev F_live (K : PySem.W.Frag) (fd : FuncData) : Prop := FunD K "live" "live" (defArgs s_live) (defBody s_live) (defScope s_live) [] [] (He.fAd K ("live", none)) fd
abbrev s_root_level : Stmt := topS 33
abbrev P_root_level : List Str := ["oldest", "newest", "fanout"]
abbrev N_root_level : List Str := ["oldest", "newest", "fanout", "level"]
def dd_root_level : He.DefD := ⟨("root_level", none), "root_level", "root_level", defArgs s_root_level, defBody s_root_level, defScope s_root_level, [], []⟩
theorem sc_root_level : FnScope N_root_level P_root_level (defScope s_root_level) := ⟨rfl, rfl, rfl, by decide +kernel, rfl, by decide +kernel, by decide +kernel⟩
abbrev F_root_level (K : PySem.W.Frag) (fd : FuncData) : Prop := FunD K "root_level" "root_level" (defArgs s_root_level) (defBody s_root_level) (defScope s_root_level) [] [] (He.fAd K ("root_level", none)) fd
abbrev s_nodes_over : Stmt := topS 34
abbrev P_nodes_over : List Str := ["settings", "pages"]
abbrev N_nodes_over : List Str := ["settings", "pages", "found", "first", "last", "level", "index"]
def dd_nodes_over : He.DefD := ⟨("nodes_over", none), "nodes_over", "nodes_over", defArgs s_nodes_over, defBody s_nodes_over, defScope s_nodes_over, [], []⟩
theorem sc_nodes_over : FnScope N_nodes_over P_nodes_over (defScope s_nodes_over) := ⟨rfl, rfl, rfl, by decide +kernel, rfl, by decide +kernel, by decide +kernel⟩
abbrev F_nodes_over (K : PySem.W.Frag) (fd : FuncData) : Prop := FunD K "nodes_over" "nodes_over" (defArgs s_nodes_over) (defBody s_nodes_over) (defScope s_nodes_over) [] [] (He.fAd K ("nodes_over", none)) fd
abbrev s_span_of : Stmt := topS 35
abbrev P_span_of : List Str := ["settings", "node"]
abbrev N_span_of : List Str := ["settings", "node", "wide"]
def dd_span_of : He.DefD := ⟨("span_of", none), "span_of", "span_of", defArgs s_span_of, defBody s_span_of, defScope s_span_of, [], []⟩
theorem sc_span_of : FnScope N_span_of P_span_of (defScope s_span_of) := ⟨rfl, rfl, rfl, by decide +kernel, rfl, by decide +kernel, by decide +kernel⟩
abbrev F_span_of (K : PySem.W.Frag) (fd : FuncData) : Prop := FunD K "span_of" "span_of" (defArgs s_span_of) (defBody s_span_of) (defScope s_span_of) [] [] (He.fAd K ("span_of", none)) fd
abbrev s_covered : Stmt := topS 36
abbrev P_covered : List Str := ["settings", "node"]
abbrev N_covered : List Str := ["settings", "node"]
def dd_covered : He.DefD := ⟨("covered", none), "covered", "covered", defArgs s_covered, defBody s_covered, defScope s_covered, [], []⟩
theorem sc_covered : FnScope N_covered P_covered (defScope s_covered) := ⟨rfl, rfl, rfl, by decide +kernel, rfl, by decide +kernel, by decide +kernel⟩
abbrev F_covered (K : PySem.W.Frag) (fd : FuncData) : Prop := FunD K "covered" "covered" (defArgs s_covered) (defBody s_covered) (defScope s_covered) [] [] (He.fAd K ("covered", none)) fd
abbrev s_node_over : Stmt := topS 37
abbrev P_node_over : List Str := ["settings", "page", "level"]
abbrev N_node_over : List Str := ["settings", "page", "level"]
def dd_node_over : He.DefD := ⟨("node_over", none), "node_over", "node_over", defArgs s_node_over, defBody s_node_over, defScope s_node_over, [], []⟩
theorem sc_node_over : FnScope N_node_over P_node_over (defScope s_node_over) := ⟨rfl, rfl, rfl, by decide +kernel, rfl, by decide +kernel, by decide +kernel⟩
abbrev F_node_over (K : PySem.W.Frag) (fd : FuncData) : Prop := FunD K "node_over" "node_over" (defArgs s_node_over) (defBody s_node_over) (defScope s_node_over) [] [] (He.fAd K ("node_over", none)) fd
abbrev s_tree_root : Stmt := topS 38
abbrev P_tree_root : List Str := ["settings", "moment"]
abbrev N_tree_root : List Str := ["settings", "moment", "found"]
def dd_tree_root : He.DefD := ⟨("tree_root", none), "tree_root", "tree_root", defArgs s_tree_root, defBody s_tree_root, defScope s_tree_root, [], []⟩
theorem sc_tree_root : FnScope N_tree_root P_tree_root (defScope s_tree_root) := ⟨rfl, rfl, rfl, by decide +kernel, rfl, by decide +kernel, by decide +kernel⟩
abbrev F_tree_root (K : PySem.W.Frag) (fd : FuncData) : Prop := FunD K "tree_root" "tree_root" (defArgs s_tree_root) (defBody s_tree_root) (defScope s_tree_root) [] [] (He.fAd K ("tree_root", none)) fd
abbrev s_tree_nodes : Stmt := topS 39
abbrev P_tree_nodes : List Str := ["settings", "moment"]
abbrev N_tree_nodes : List Str := ["settings", "moment"]
def dd_tree_nodes : He.DefD := ⟨("tree_nodes", none), "tree_nodes", "tree_nodes", defArgs s_tree_nodes, defBody s_tree_nodes, defScope s_tree_nodes, [], []⟩
theorem sc_tree_nodes : FnScope N_tree_nodes P_tree_nodes (defScope s_tree_nodes) := ⟨rfl, rfl, rfl, by decide +kernel, rfl, by decide +kernel, by decide +kernel⟩
abbrev F_tree_nodes (K : PySem.W.Frag) (fd : FuncData) : Prop := FunD K "tree_nodes" "tree_nodes" (defArgs s_tree_nodes) (defBody s_tree_nodes) (defScope s_tree_nodes) [] [] (He.fAd K ("tree_nodes", none)) fd
abbrev s_tree_height : Stmt := topS 40
abbrev P_tree_height : List Str := ["settings", "moment"]
abbrev N_tree_height : List Str := ["settings", "moment", "top"]
def dd_tree_height : He.DefD := ⟨("tree_height", none), "tree_height", "tree_height", defArgs s_tree_height, defBody s_tree_height, defScope s_tree_height, [], []⟩
theorem sc_tree_height : FnScope N_tree_height P_tree_height (defScope s_tree_height) := ⟨rfl, rfl, rfl, by decide +kernel, rfl, by decide +kernel, by decide +kernel⟩
abbrev F_tree_height (K : PySem.W.Frag) (fd : FuncData) : Prop := FunD K "tree_height" "tree_height" (defArgs s_tree_height) (defBody s_tree_height) (defScope s_tree_height) [] [] (He.fAd K ("tree_height", none)) fd
abbrev s_checked_tree : Stmt := topS 41
abbrev P_checked_tree : List Str := ["settings", "moment", "node"]
abbrev N_checked_tree : List Str := ["settings", "moment", "node", "known"]
def dd_checked_tree : He.DefD := ⟨("checked_tree", none), "checked_tree", "checked_tree", defArgs s_checked_tree, defBody s_checked_tree, defScope s_checked_tree, [], []⟩
theorem sc_checked_tree : FnScope N_checked_tree P_checked_tree (defScope s_checked_tree) := ⟨rfl, rfl, rfl, by decide +kernel, rfl, by decide +kernel, by decide +kernel⟩
abbrev F_checked_tree (K : PySem.W.Frag) (fd : FuncData) : Prop := FunD K "checked_tree" "checked_tree" (defArgs s_checked_tree) (defBody s_checked_tree) (defScope s_checked_tree) [] [] (He.fAd K ("checked_tree", none)) fd
abbrev s_children : Stmt := topS 42
abbrev P_children : List Str := ["settings", "moment", "node"]
abbrev N_children : List Str := ["settings", "moment", "node", "known", "first", "after", "begin", "end", "one"]
def dd_children : He.DefD := ⟨("children", none), "children", "children", defArgs s_children, defBody s_children, defScope s_children, [], []⟩
theorem sc_children : FnScope N_children P_children (defScope s_children) := ⟨rfl, rfl, rfl, by decide +kernel, rfl, by decide +kernel, by decide +kernel⟩
abbrev F_children (K : PySem.W.Frag) (fd : FuncData) : Prop := FunD K "children" "children" (defArgs s_children) (defBody s_children) (defScope s_children) [] [] (He.fAd K ("children", none)) fd
abbrev s_parent : Stmt := topS 43
abbrev P_parent : List Str := ["settings", "moment", "node"]
abbrev N_parent : List Str := ["settings", "moment", "node", "known"]
def dd_parent : He.DefD := ⟨("parent", none), "parent", "parent", defArgs s_parent, defBody s_parent, defScope s_parent, [], []⟩
theorem sc_parent : FnScope N_parent P_parent (defScope s_parent) := ⟨rfl, rfl, rfl, by decide +kernel, rfl, by decide +kernel, by decide +kernel⟩
abbrev F_parent (K : PySem.W.Frag) (fd : FuncData) : Prop := FunD K "parent" "parent" (defArgs s_parent) (defBody s_parent) (defScope s_parent) [] [] (He.fAd K ("parent", none)) fd
abbrev s_law_digits : Stmt := topS 45
abbrev P_law_digits : List Str := ["cell", "many"]
abbrev N_law_digits : List Str := ["cell", "many", "digits", "rest", "number", "k"]
def dd_law_digits : He.DefD := ⟨("_law_digits", none), "_law_digits", "_law_digits", defArgs s_law_digits, defBody s_law_digits, defScope s_law_digits, [], []⟩
theorem sc_law_digits : FnScope N_law_digits P_law_digits (defScope s_law_digits) := ⟨rfl, rfl, rfl, by decide +kernel, rfl, by decide +kernel, by decide +kernel⟩
abbrev F_law_digits (K : PySem.W.Frag) (fd : FuncData) : Prop := FunD K "_law_digits" "_law_digits" (defArgs s_law_digits) (defBody s_law_digits) (defScope s_law_digits) [] [] (He.fAd K ("_law_digits", none)) fd
abbrev s_law_parts : Stmt := topS 46
abbrev P_law_parts : List Str := ["digits"]
abbrev N_law_parts : List Str := ["digits", "size", "lengths", "parts", "k"]
def dd_law_parts : He.DefD := ⟨("_law_parts", none), "_law_parts", "_law_parts", defArgs s_law_parts, defBody s_law_parts, defScope s_law_parts, [], []⟩
theorem sc_law_parts : FnScope N_law_parts P_law_parts (defScope s_law_parts) := ⟨rfl, rfl, rfl, by decide +kernel, rfl, by decide +kernel, by decide +kernel⟩
abbrev F_law_parts (K : PySem.W.Frag) (fd : FuncData) : Prop := FunD K "_law_parts" "_law_parts" (defArgs s_law_parts) (defBody s_law_parts) (defScope s_law_parts) [] [] (He.fAd K ("_law_parts", none)) fd
abbrev s_law_settings : Stmt := topS 47
abbrev P_law_settings : List Str := ["parts"]
abbrev N_law_settings : List Str := ["parts", "fan", "many", "pace", "kept", "word"]
def dd_law_settings : He.DefD := ⟨("_law_settings", none), "_law_settings", "_law_settings", defArgs s_law_settings, defBody s_law_settings, defScope s_law_settings, [], []⟩
theorem sc_law_settings : FnScope N_law_settings P_law_settings (defScope s_law_settings) := ⟨rfl, rfl, rfl, by decide +kernel, rfl, by decide +kernel, by decide +kernel⟩
abbrev F_law_settings (K : PySem.W.Frag) (fd : FuncData) : Prop := FunD K "_law_settings" "_law_settings" (defArgs s_law_settings) (defBody s_law_settings) (defScope s_law_settings) [] [] (He.fAd K ("_law_settings", none)) fd
abbrev s_law_rows : Stmt := topS 48
abbrev P_law_rows : List Str := ["digits"]
abbrev N_law_rows : List Str := ["digits"]
def dd_law_rows : He.DefD := ⟨("_law_rows", none), "_law_rows", "_law_rows", defArgs s_law_rows, defBody s_law_rows, defScope s_law_rows, [], []⟩
theorem sc_law_rows : FnScope N_law_rows P_law_rows (defScope s_law_rows) := ⟨rfl, rfl, rfl, by decide +kernel, rfl, by decide +kernel, by decide +kernel⟩
abbrev F_law_rows (K : PySem.W.Frag) (fd : FuncData) : Prop := FunD K "_law_rows" "_law_rows" (defArgs s_law_rows) (defBody s_law_rows) (defScope s_law_rows) [] [] (He.fAd K ("_law_rows", none)) fd
abbrev s_law_pages : Stmt := topS 49
abbrev P_law_pages : List Str := ["parts", "many"]
abbrev N_law_pages : List Str := ["parts", "many", "found", "page", "left", "row", "length"]
def dd_law_pages : He.DefD := ⟨("_law_pages", none), "_law_pages", "_law_pages", defArgs s_law_pages, defBody s_law_pages, defScope s_law_pages, [], []⟩
theorem sc_law_pages : FnScope N_law_pages P_law_pages (defScope s_law_pages) := ⟨rfl, rfl, rfl, by decide +kernel, rfl, by decide +kernel, by decide +kernel⟩
abbrev F_law_pages (K : PySem.W.Frag) (fd : FuncData) : Prop := FunD K "_law_pages" "_law_pages" (defArgs s_law_pages) (defBody s_law_pages) (defScope s_law_pages) [] [] (He.fAd K ("_law_pages", none)) fd
abbrev s_law_tree : Stmt := topS 50
abbrev P_law_tree : List Str := ["pages", "fan"]
abbrev N_law_tree : List Str := ["pages", "fan", "found", "row", "level", "above", "number"]
def dd_law_tree : He.DefD := ⟨("_law_tree", none), "_law_tree", "_law_tree", defArgs s_law_tree, defBody s_law_tree, defScope s_law_tree, [], []⟩
theorem sc_law_tree : FnScope N_law_tree P_law_tree (defScope s_law_tree) := ⟨rfl, rfl, rfl, by decide +kernel, rfl, by decide +kernel, by decide +kernel⟩
abbrev F_law_tree (K : PySem.W.Frag) (fd : FuncData) : Prop := FunD K "_law_tree" "_law_tree" (defArgs s_law_tree) (defBody s_law_tree) (defScope s_law_tree) [] [] (He.fAd K ("_law_tree", none)) fd
abbrev s_law_below : Stmt := topS 51
abbrev P_law_below : List Str := ["known", "pages", "fan", "node"]
abbrev N_law_below : List Str := ["known", "pages", "fan", "node", "one", "page"]
def dd_law_below : He.DefD := ⟨("_law_below", none), "_law_below", "_law_below", defArgs s_law_below, defBody s_law_below, defScope s_law_below, [], []⟩
theorem sc_law_below : FnScope N_law_below P_law_below (defScope s_law_below) := ⟨rfl, rfl, rfl, by decide +kernel, rfl, by decide +kernel, by decide +kernel⟩
abbrev F_law_below (K : PySem.W.Frag) (fd : FuncData) : Prop := FunD K "_law_below" "_law_below" (defArgs s_law_below) (defBody s_law_below) (defScope s_law_below) [] [] (He.fAd K ("_law_below", none)) fd
abbrev s_law_nodes_right : Stmt := topS 52
abbrev P_law_nodes_right : List Str := ["settings", "parts", "moment", "known", "pages"]
abbrev N_law_nodes_right : List Str := ["settings", "parts", "moment", "known", "pages", "node", "turn", "told", "above", "first", "after", "wide", "one"]
def dd_law_nodes_right : He.DefD := ⟨("_law_nodes_right", none), "_law_nodes_right", "_law_nodes_right", defArgs s_law_nodes_right, defBody s_law_nodes_right, defScope s_law_nodes_right, [], []⟩
theorem sc_law_nodes_right : FnScope N_law_nodes_right P_law_nodes_right (defScope s_law_nodes_right) := ⟨rfl, rfl, rfl, by decide +kernel, rfl, by decide +kernel, by decide +kernel⟩
abbrev F_law_nodes_right (K : PySem.W.Frag) (fd : FuncData) : Prop := FunD K "_law_nodes_right" "_law_nodes_right" (defArgs s_law_nodes_right) (defBody s_law_nodes_right) (defScope s_law_nodes_right) [] [] (He.fAd K ("_law_nodes_right", none)) fd
abbrev s_law : Stmt := topS 53
abbrev P_law : List Str := ["script"]
abbrev N_law : List Str := ["script", "cell", "digits", "parts", "settings", "rows", "moment", "pages", "known", "top"]
def dd_law : He.DefD := ⟨("law", none), "law", "law", defArgs s_law, defBody s_law, defScope s_law, [], []⟩
theorem sc_law : FnScope N_law P_law (defScope s_law) := ⟨rfl, rfl, rfl, by decide +kernel, rfl, by decide +kernel, by decide +kernel⟩
abbrev F_law (K : PySem.W.Frag) (fd : FuncData) : Prop := FunD K "law" "law" (defArgs s_law) (defBody s_law) (defScope s_law) [] [] (He.fAd K ("law", none)) fd
abbrev s_InvalidSettings___init__ : Stmt := inClass (topS 3) 0
abbrev P_InvalidSettings___init__ : List Str := ["self", "part"]
abbrev N_InvalidSettings___init__ : List Str := ["self", "part"]
def dd_InvalidSettings___init__ : He.DefD := ⟨("InvalidSettings", some "__init__"), "__init__", "InvalidSettings.__init__", defArgs s_InvalidSettings___init__, defBody s_InvalidSettings___init__, defScope s_InvalidSettings___init__, [], []⟩
theorem sc_InvalidSettings___init__ : FnScope N_InvalidSettings___init__ P_InvalidSettings___init__ (defScope s_InvalidSettings___init__) := ⟨rfl, rfl, rfl, by decide +kernel, rfl, by decide +kernel, by decide +kernel⟩
abbrev F_InvalidSettings___init__ (K : PySem.W.Frag) (fd : FuncData) : Prop := FunD K "__init__" "InvalidSettings.__init__" (defArgs s_InvalidSettings___init__) (defBody s_InvalidSettings___init__) (defScope s_InvalidSettings___init__) [] [] (He.fAd K ("InvalidSettings", some "__init__")) fd
abbrev s_InvalidPage___init__ : Stmt := inClass (topS 4) 0
abbrev P_InvalidPage___init__ : List Str := ["self", "page"]
abbrev N_InvalidPage___init__ : List Str := ["self", "page"]
def dd_InvalidPage___init__ : He.DefD := ⟨("InvalidPage", some "__init__"), "__init__", "InvalidPage.__init__", defArgs s_InvalidPage___init__, defBody s_InvalidPage___init__, defScope s_InvalidPage___init__, [], []⟩
theorem sc_InvalidPage___init__ : FnScope N_InvalidPage___init__ P_InvalidPage___init__ (defScope s_InvalidPage___init__) := ⟨rfl, rfl, rfl, by decide +kernel, rfl, by decide +kernel, by decide +kernel⟩
abbrev F_InvalidPage___init__ (K : PySem.W.Frag) (fd : FuncData) : Prop := FunD K "__init__" "InvalidPage.__init__" (defArgs s_InvalidPage___init__) (defBody s_InvalidPage___init__) (defScope s_InvalidPage___init__) [] [] (He.fAd K ("InvalidPage", some "__init__")) fd
abbrev s_InvalidNumber___init__ : Stmt := inClass (topS 5) 0
abbrev P_InvalidNumber___init__ : List Str := ["self", "number"]
abbrev N_InvalidNumber___init__ : List Str := ["self", "number"]
def dd_InvalidNumber___init__ : He.DefD := ⟨("InvalidNumber", some "__init__"), "__init__", "InvalidNumber.__init__", defArgs s_InvalidNumber___init__, defBody s_InvalidNumber___init__, defScope s_InvalidNumber___init__, [], []⟩
theorem sc_InvalidNumber___init__ : FnScope N_InvalidNumber___init__ P_InvalidNumber___init__ (defScope s_InvalidNumber___init__) := ⟨rfl, rfl, rfl, by decide +kernel, rfl, by decide +kernel, by decide +kernel⟩
abbrev F_InvalidNumber___init__ (K : PySem.W.Frag) (fd : FuncData) : Prop := FunD K "__init__" "InvalidNumber.__init__" (defArgs s_InvalidNumber___init__) (defBody s_InvalidNumber___init__) (defScope s_InvalidNumber___init__) [] [] (He.fAd K ("InvalidNumber", some "__init__")) fd
abbrev s_InvalidArgument___init__ : Stmt := inClass (topS 6) 0
abbrev P_InvalidArgument___init__ : List Str := ["self", "part"]
abbrev N_InvalidArgument___init__ : List Str := ["self", "part"]
def dd_InvalidArgument___init__ : He.DefD := ⟨("InvalidArgument", some "__init__"), "__init__", "InvalidArgument.__init__", defArgs s_InvalidArgument___init__, defBody s_InvalidArgument___init__, defScope s_InvalidArgument___init__, [], []⟩
theorem sc_InvalidArgument___init__ : FnScope N_InvalidArgument___init__ P_InvalidArgument___init__ (defScope s_InvalidArgument___init__) := ⟨rfl, rfl, rfl, by decide +kernel, rfl, by decide +kernel, by decide +kernel⟩
abbrev F_InvalidArgument___init__ (K : PySem.W.Frag) (fd : FuncData) : Prop := FunD K "__init__" "InvalidArgument.__init__" (defArgs s_InvalidArgument___init__) (defBody s_InvalidArgument___init__) (defScope s_InvalidArgument___init__) [] [] (He.fAd K ("InvalidArgument", some "__init__")) fd
theorem lk_Settings_1_0 {v0 : V} : List.lookup ("lengths" : Str) [(("lengths" : Str), v0)] = some v0 := by kernel_rfl
theorem lk_Settings_2_0 {v0 v1 : V} : List.lookup ("lengths" : Str) [(("lengths" : Str), v0), (("size" : Str), v1)] = some v0 := by kernel_rfl
theorem lk_Settings_2_1 {v0 v1 : V} : List.lookup ("size" : Str) [(("lengths" : Str), v0), (("size" : Str), v1)] = some v1 := by kernel_rfl
theorem lk_Settings_3_0 {v0 v1 v2 : V} : List.lookup ("lengths" : Str) [(("lengths" : Str), v0), (("size" : Str), v1), (("fanout" : Str), v2)] = some v0 := by kernel_rfl
theorem lk_Settings_3_1 {v0 v1 v2 : V} : List.lookup ("size" : Str) [(("lengths" : Str), v0), (("size" : Str), v1), (("fanout" : Str), v2)] = some v1 := by kernel_rfl
theorem lk_Settings_3_2 {v0 v1 v2 : V} : List.lookup ("fanout" : Str) [(("lengths" : Str), v0), (("size" : Str), v1), (("fanout" : Str), v2)] = some v2 := by kernel_rfl
theorem lk_Settings_4_0 {v0 v1 v2 v3 : V} : List.lookup ("lengths" : Str) [(("lengths" : Str), v0), (("size" : Str), v1), (("fanout" : Str), v2), (("records" : Str), v3)] = some v0 := by kernel_rfl
theorem lk_Settings_4_1 {v0 v1 v2 v3 : V} : List.lookup ("size" : Str) [(("lengths" : Str), v0), (("size" : Str), v1), (("fanout" : Str), v2), (("records" : Str), v3)] = some v1 := by kernel_rfl
theorem lk_Settings_4_2 {v0 v1 v2 v3 : V} : List.lookup ("fanout" : Str) [(("lengths" : Str), v0), (("size" : Str), v1), (("fanout" : Str), v2), (("records" : Str), v3)] = some v2 := by kernel_rfl
theorem lk_Settings_4_3 {v0 v1 v2 v3 : V} : List.lookup ("records" : Str) [(("lengths" : Str), v0), (("size" : Str), v1), (("fanout" : Str), v2), (("records" : Str), v3)] = some v3 := by kernel_rfl
theorem lk_Settings_5_0 {v0 v1 v2 v3 v4 : V} : List.lookup ("lengths" : Str) [(("lengths" : Str), v0), (("size" : Str), v1), (("fanout" : Str), v2), (("records" : Str), v3), (("every" : Str), v4)] = some v0 := by kernel_rfl
theorem lk_Settings_5_1 {v0 v1 v2 v3 v4 : V} : List.lookup ("size" : Str) [(("lengths" : Str), v0), (("size" : Str), v1), (("fanout" : Str), v2), (("records" : Str), v3), (("every" : Str), v4)] = some v1 := by kernel_rfl
theorem lk_Settings_5_2 {v0 v1 v2 v3 v4 : V} : List.lookup ("fanout" : Str) [(("lengths" : Str), v0), (("size" : Str), v1), (("fanout" : Str), v2), (("records" : Str), v3), (("every" : Str), v4)] = some v2 := by kernel_rfl
theorem lk_Settings_5_3 {v0 v1 v2 v3 v4 : V} : List.lookup ("records" : Str) [(("lengths" : Str), v0), (("size" : Str), v1), (("fanout" : Str), v2), (("records" : Str), v3), (("every" : Str), v4)] = some v3 := by kernel_rfl
theorem lk_Settings_5_4 {v0 v1 v2 v3 v4 : V} : List.lookup ("every" : Str) [(("lengths" : Str), v0), (("size" : Str), v1), (("fanout" : Str), v2), (("records" : Str), v3), (("every" : Str), v4)] = some v4 := by kernel_rfl
theorem lk_Settings_6_0 {v0 v1 v2 v3 v4 v5 : V} : List.lookup ("lengths" : Str) [(("lengths" : Str), v0), (("size" : Str), v1), (("fanout" : Str), v2), (("records" : Str), v3), (("every" : Str), v4), (("keep" : Str), v5)] = some v0 := by kernel_rfl
theorem lk_Settings_6_1 {v0 v1 v2 v3 v4 v5 : V} : List.lookup ("size" : Str) [(("lengths" : Str), v0), (("size" : Str), v1), (("fanout" : Str), v2), (("records" : Str), v3), (("every" : Str), v4), (("keep" : Str), v5)] = some v1 := by kernel_rfl
theorem lk_Settings_6_2 {v0 v1 v2 v3 v4 v5 : V} : List.lookup ("fanout" : Str) [(("lengths" : Str), v0), (("size" : Str), v1), (("fanout" : Str), v2), (("records" : Str), v3), (("every" : Str), v4), (("keep" : Str), v5)] = some v2 := by kernel_rfl
theorem lk_Settings_6_3 {v0 v1 v2 v3 v4 v5 : V} : List.lookup ("records" : Str) [(("lengths" : Str), v0), (("size" : Str), v1), (("fanout" : Str), v2), (("records" : Str), v3), (("every" : Str), v4), (("keep" : Str), v5)] = some v3 := by kernel_rfl
theorem lk_Settings_6_4 {v0 v1 v2 v3 v4 v5 : V} : List.lookup ("every" : Str) [(("lengths" : Str), v0), (("size" : Str), v1), (("fanout" : Str), v2), (("records" : Str), v3), (("every" : Str), v4), (("keep" : Str), v5)] = some v4 := by kernel_rfl
theorem lk_Settings_6_5 {v0 v1 v2 v3 v4 v5 : V} : List.lookup ("keep" : Str) [(("lengths" : Str), v0), (("size" : Str), v1), (("fanout" : Str), v2), (("records" : Str), v3), (("every" : Str), v4), (("keep" : Str), v5)] = some v5 := by kernel_rfl
theorem lk_Packing_1_0 {v0 : V} : List.lookup ("row_lengths" : Str) [(("row_lengths" : Str), v0)] = some v0 := by kernel_rfl
theorem lk_Packing_2_0 {v0 v1 : V} : List.lookup ("row_lengths" : Str) [(("row_lengths" : Str), v0), (("room" : Str), v1)] = some v0 := by kernel_rfl
theorem lk_Packing_2_1 {v0 v1 : V} : List.lookup ("room" : Str) [(("row_lengths" : Str), v0), (("room" : Str), v1)] = some v1 := by kernel_rfl
theorem lk_Packing_3_0 {v0 v1 v2 : V} : List.lookup ("row_lengths" : Str) [(("row_lengths" : Str), v0), (("room" : Str), v1), (("starts" : Str), v2)] = some v0 := by kernel_rfl
theorem lk_Packing_3_1 {v0 v1 v2 : V} : List.lookup ("room" : Str) [(("row_lengths" : Str), v0), (("room" : Str), v1), (("starts" : Str), v2)] = some v1 := by kernel_rfl
theorem lk_Packing_3_2 {v0 v1 v2 : V} : List.lookup ("starts" : Str) [(("row_lengths" : Str), v0), (("room" : Str), v1), (("starts" : Str), v2)] = some v2 := by kernel_rfl
theorem lk_Packing_4_0 {v0 v1 v2 v3 : V} : List.lookup ("row_lengths" : Str) [(("row_lengths" : Str), v0), (("room" : Str), v1), (("starts" : Str), v2), (("first" : Str), v3)] = some v0 := by kernel_rfl
theorem lk_Packing_4_1 {v0 v1 v2 v3 : V} : List.lookup ("room" : Str) [(("row_lengths" : Str), v0), (("room" : Str), v1), (("starts" : Str), v2), (("first" : Str), v3)] = some v1 := by kernel_rfl
theorem lk_Packing_4_2 {v0 v1 v2 v3 : V} : List.lookup ("starts" : Str) [(("row_lengths" : Str), v0), (("room" : Str), v1), (("starts" : Str), v2), (("first" : Str), v3)] = some v2 := by kernel_rfl
theorem lk_Packing_4_3 {v0 v1 v2 v3 : V} : List.lookup ("first" : Str) [(("row_lengths" : Str), v0), (("room" : Str), v1), (("starts" : Str), v2), (("first" : Str), v3)] = some v3 := by kernel_rfl
theorem lk_Packing_5_0 {v0 v1 v2 v3 v4 : V} : List.lookup ("row_lengths" : Str) [(("row_lengths" : Str), v0), (("room" : Str), v1), (("starts" : Str), v2), (("first" : Str), v3), (("pages" : Str), v4)] = some v0 := by kernel_rfl
theorem lk_Packing_5_1 {v0 v1 v2 v3 v4 : V} : List.lookup ("room" : Str) [(("row_lengths" : Str), v0), (("room" : Str), v1), (("starts" : Str), v2), (("first" : Str), v3), (("pages" : Str), v4)] = some v1 := by kernel_rfl
theorem lk_Packing_5_2 {v0 v1 v2 v3 v4 : V} : List.lookup ("starts" : Str) [(("row_lengths" : Str), v0), (("room" : Str), v1), (("starts" : Str), v2), (("first" : Str), v3), (("pages" : Str), v4)] = some v2 := by kernel_rfl
theorem lk_Packing_5_3 {v0 v1 v2 v3 v4 : V} : List.lookup ("first" : Str) [(("row_lengths" : Str), v0), (("room" : Str), v1), (("starts" : Str), v2), (("first" : Str), v3), (("pages" : Str), v4)] = some v3 := by kernel_rfl
theorem lk_Packing_5_4 {v0 v1 v2 v3 v4 : V} : List.lookup ("pages" : Str) [(("row_lengths" : Str), v0), (("room" : Str), v1), (("starts" : Str), v2), (("first" : Str), v3), (("pages" : Str), v4)] = some v4 := by kernel_rfl
theorem lk_Packing_6_0 {v0 v1 v2 v3 v4 v5 : V} : List.lookup ("row_lengths" : Str) [(("row_lengths" : Str), v0), (("room" : Str), v1), (("starts" : Str), v2), (("first" : Str), v3), (("pages" : Str), v4), (("rows" : Str), v5)] = some v0 := by kernel_rfl
theorem lk_Packing_6_1 {v0 v1 v2 v3 v4 v5 : V} : List.lookup ("room" : Str) [(("row_lengths" : Str), v0), (("room" : Str), v1), (("starts" : Str), v2), (("first" : Str), v3), (("pages" : Str), v4), (("rows" : Str), v5)] = some v1 := by kernel_rfl
theorem lk_Packing_6_2 {v0 v1 v2 v3 v4 v5 : V} : List.lookup ("starts" : Str) [(("row_lengths" : Str), v0), (("room" : Str), v1), (("starts" : Str), v2), (("first" : Str), v3), (("pages" : Str), v4), (("rows" : Str), v5)] = some v2 := by kernel_rfl
theorem lk_Packing_6_3 {v0 v1 v2 v3 v4 v5 : V} : List.lookup ("first" : Str) [(("row_lengths" : Str), v0), (("room" : Str), v1), (("starts" : Str), v2), (("first" : Str), v3), (("pages" : Str), v4), (("rows" : Str), v5)] = some v3 := by kernel_rfl
theorem lk_Packing_6_4 {v0 v1 v2 v3 v4 v5 : V} : List.lookup ("pages" : Str) [(("row_lengths" : Str), v0), (("room" : Str), v1), (("starts" : Str), v2), (("first" : Str), v3), (("pages" : Str), v4), (("rows" : Str), v5)] = some v4 := by kernel_rfl
theorem lk_Packing_6_5 {v0 v1 v2 v3 v4 v5 : V} : List.lookup ("rows" : Str) [(("row_lengths" : Str), v0), (("room" : Str), v1), (("starts" : Str), v2), (("first" : Str), v3), (("pages" : Str), v4), (("rows" : Str), v5)] = some v5 := by kernel_rfl
theorem pf_Settings_0 {v0 : V} : putF ("lengths" : Str) v0 ([] : List (Str × V)) = ([(("lengths" : Str), v0)] : List (Str × V)) := by kernel_rfl
theorem pf_Settings_1 {v0 v1 : V} : putF ("size" : Str) v1 ([(("lengths" : Str), v0)] : List (Str × V)) = ([(("lengths" : Str), v0), (("size" : Str), v1)] : List (Str × V)) := by kernel_rfl
theorem pf_Settings_2 {v0 v1 v2 : V} : putF ("fanout" : Str) v2 ([(("lengths" : Str), v0), (("size" : Str), v1)] : List (Str × V)) = ([(("lengths" : Str), v0), (("size" : Str), v1), (("fanout" : Str), v2)] : List (Str × V)) := by kernel_rfl
theorem pf_Settings_3 {v0 v1 v2 v3 : V} : putF ("records" : Str) v3 ([(("lengths" : Str), v0), (("size" : Str), v1), (("fanout" : Str), v2)] : List (Str × V)) = ([(("lengths" : Str), v0), (("size" : Str), v1), (("fanout" : Str), v2), (("records" : Str), v3)] : List (Str × V)) := by kernel_rfl
theorem pf_Settings_4 {v0 v1 v2 v3 v4 : V} : putF ("every" : Str) v4 ([(("lengths" : Str), v0), (("size" : Str), v1), (("fanout" : Str), v2), (("records" : Str), v3)] : List (Str × V)) = ([(("lengths" : Str), v0), (("size" : Str), v1), (("fanout" : Str), v2), (("records" : Str), v3), (("every" : Str), v4)] : List (Str × V)) := by kernel_rfl
theorem pf_Settings_5 {v0 v1 v2 v3 v4 v5 : V} : putF ("keep" : Str) v5 ([(("lengths" : Str), v0), (("size" : Str), v1), (("fanout" : Str), v2), (("records" : Str), v3), (("every" : Str), v4)] : List (Str × V)) = ([(("lengths" : Str), v0), (("size" : Str), v1), (("fanout" : Str), v2), (("records" : Str), v3), (("every" : Str), v4), (("keep" : Str), v5)] : List (Str × V)) := by kernel_rfl
theorem pf_Packing_0 {v0 : V} : putF ("row_lengths" : Str) v0 ([] : List (Str × V)) = ([(("row_lengths" : Str), v0)] : List (Str × V)) := by kernel_rfl
theorem pf_Packing_1 {v0 v1 : V} : putF ("room" : Str) v1 ([(("row_lengths" : Str), v0)] : List (Str × V)) = ([(("row_lengths" : Str), v0), (("room" : Str), v1)] : List (Str × V)) := by kernel_rfl
theorem pf_Packing_2 {v0 v1 v2 : V} : putF ("starts" : Str) v2 ([(("row_lengths" : Str), v0), (("room" : Str), v1)] : List (Str × V)) = ([(("row_lengths" : Str), v0), (("room" : Str), v1), (("starts" : Str), v2)] : List (Str × V)) := by kernel_rfl
theorem pf_Packing_3 {v0 v1 v2 v3 : V} : putF ("first" : Str) v3 ([(("row_lengths" : Str), v0), (("room" : Str), v1), (("starts" : Str), v2)] : List (Str × V)) = ([(("row_lengths" : Str), v0), (("room" : Str), v1), (("starts" : Str), v2), (("first" : Str), v3)] : List (Str × V)) := by kernel_rfl
theorem pf_Packing_4 {v0 v1 v2 v3 v4 : V} : putF ("pages" : Str) v4 ([(("row_lengths" : Str), v0), (("room" : Str), v1), (("starts" : Str), v2), (("first" : Str), v3)] : List (Str × V)) = ([(("row_lengths" : Str), v0), (("room" : Str), v1), (("starts" : Str), v2), (("first" : Str), v3), (("pages" : Str), v4)] : List (Str × V)) := by kernel_rfl
theorem pf_Packing_5 {v0 v1 v2 v3 v4 v5 : V} : putF ("rows" : Str) v5 ([(("row_lengths" : Str), v0), (("room" : Str), v1), (("starts" : Str), v2), (("first" : Str), v3), (("pages" : Str), v4)] : List (Str × V)) = ([(("row_lengths" : Str), v0), (("room" : Str), v1), (("starts" : Str), v2), (("first" : Str), v3), (("pages" : Str), v4), (("rows" : Str), v5)] : List (Str × V)) := by kernel_rfl
def exl : List (PySem.W.Frag → Bool) := [eqCB "Settings", isCB "Settings", kitB2 "Settings" "int" false, kitB2 "Settings" "bool" false, kitB2 "Settings" "list" false, kitB2 "Settings" "tuple" false, kitB1 "int" "Settings" false, kitB1 "bool" "Settings" false, kitB1 "str" "Settings" false, kitB1 "list" "Settings" false, kitB1 "tuple" "Settings" false, kitB1 "dict" "Settings" false, kitB1 "NoneType" "Settings" false, kitB3 "Settings" "Settings" true, kitB3 "Packing" "Settings" false, isCB "Packing", kitB2 "Packing" "int" false, kitB2 "Packing" "bool" false, kitB2 "Packing" "list" false, kitB2 "Packing" "tuple" false]
def exB (K : PySem.W.Frag) : Bool := exl.all fun f => f K
structure Txt (K : PySem.W.Frag)  (mg : Str → Option Value) (D : Nat → FuncData) : Prop where
  d_is_integer : F_is_integer K (D 0)
  d_is_between : F_is_between K (D 1)
  d_check_part : F_check_part K (D 2)
  d_Settings___init__ : F_Settings___init__ K (D 3)
  d_Settings___eq__ : F_Settings___eq__ K (D 4)
  d_Settings_parts : F_Settings_parts K (D 5)
  d_check_settings : F_check_settings K (D 6)
  d_check_moment : F_check_moment K (D 7)
  d_Packing___init__ : F_Packing___init__ K (D 8)
  d_Packing_length : F_Packing_length K (D 9)
  d_Packing_rows_from : F_Packing_rows_from K (D 10)
  d_Packing_holder : F_Packing_holder K (D 11)
  d_page_at : F_page_at K (D 12)
  d_multiplied : F_multiplied K (D 13)
  d_check_level : F_check_level K (D 14)
  d_is_node : F_is_node K (D 15)
  d_check_node : F_check_node K (D 16)
  d_pages_of : F_pages_of K (D 17)
  d_live : F_live K (D 18)
  d_root_level : F_root_level K (D 19)
  d_nodes_over : F_nodes_over K (D 20)
  d_span_of : F_span_of K (D 21)
  d_covered : F_covered K (D 22)
  d_node_over : F_node_over K (D 23)
  d_tree_root : F_tree_root K (D 24)
  d_tree_nodes : F_tree_nodes K (D 25)
  d_tree_height : F_tree_height K (D 26)
  d_checked_tree : F_checked_tree K (D 27)
  d_children : F_children K (D 28)
  d_parent : F_parent K (D 29)
  d_law_digits : F_law_digits K (D 30)
  d_law_parts : F_law_parts K (D 31)
  d_law_settings : F_law_settings K (D 32)
  d_law_rows : F_law_rows K (D 33)
  d_law_pages : F_law_pages K (D 34)
  d_law_tree : F_law_tree K (D 35)
  d_law_below : F_law_below K (D 36)
  d_law_nodes_right : F_law_nodes_right K (D 37)
  d_law : F_law K (D 38)
  d_InvalidSettings___init__ : F_InvalidSettings___init__ K (D 39)
  d_InvalidPage___init__ : F_InvalidPage___init__ K (D 40)
  d_InvalidNumber___init__ : F_InvalidNumber___init__ K (D 41)
  d_InvalidArgument___init__ : F_InvalidArgument___init__ K (D 42)
  g_is_integer : mg "is_integer" = some (.ref (He.fAd K ("is_integer", none)))
  g_is_between : mg "is_between" = some (.ref (He.fAd K ("is_between", none)))
  g_check_part : mg "check_part" = some (.ref (He.fAd K ("check_part", none)))
  g_check_settings : mg "check_settings" = some (.ref (He.fAd K ("check_settings", none)))
  g_check_moment : mg "check_moment" = some (.ref (He.fAd K ("check_moment", none)))
  g_page_at : mg "page_at" = some (.ref (He.fAd K ("page_at", none)))
  g_multiplied : mg "multiplied" = some (.ref (He.fAd K ("multiplied", none)))
  g_check_level : mg "check_level" = some (.ref (He.fAd K ("check_level", none)))
  g_is_node : mg "is_node" = some (.ref (He.fAd K ("is_node", none)))
  g_check_node : mg "check_node" = some (.ref (He.fAd K ("check_node", none)))
  g_pages_of : mg "pages_of" = some (.ref (He.fAd K ("pages_of", none)))
  g_live : mg "live" = some (.ref (He.fAd K ("live", none)))
  g_root_level : mg "root_level" = some (.ref (He.fAd K ("root_level", none)))
  g_nodes_over : mg "nodes_over" = some (.ref (He.fAd K ("nodes_over", none)))
  g_span_of : mg "span_of" = some (.ref (He.fAd K ("span_of", none)))
  g_covered : mg "covered" = some (.ref (He.fAd K ("covered", none)))
  g_node_over : mg "node_over" = some (.ref (He.fAd K ("node_over", none)))
  g_tree_root : mg "tree_root" = some (.ref (He.fAd K ("tree_root", none)))
  g_tree_nodes : mg "tree_nodes" = some (.ref (He.fAd K ("tree_nodes", none)))
  g_tree_height : mg "tree_height" = some (.ref (He.fAd K ("tree_height", none)))
  g_checked_tree : mg "checked_tree" = some (.ref (He.fAd K ("checked_tree", none)))
  g_children : mg "children" = some (.ref (He.fAd K ("children", none)))
  g_parent : mg "parent" = some (.ref (He.fAd K ("parent", none)))
  g_law_digits : mg "_law_digits" = some (.ref (He.fAd K ("_law_digits", none)))
  g_law_parts : mg "_law_parts" = some (.ref (He.fAd K ("_law_parts", none)))
  g_law_settings : mg "_law_settings" = some (.ref (He.fAd K ("_law_settings", none)))
  g_law_rows : mg "_law_rows" = some (.ref (He.fAd K ("_law_rows", none)))
  g_law_pages : mg "_law_pages" = some (.ref (He.fAd K ("_law_pages", none)))
  g_law_tree : mg "_law_tree" = some (.ref (He.fAd K ("_law_tree", none)))
  g_law_below : mg "_law_below" = some (.ref (He.fAd K ("_law_below", none)))
  g_law_nodes_right : mg "_law_nodes_right" = some (.ref (He.fAd K ("_law_nodes_right", none)))
  g_law : mg "law" = some (.ref (He.fAd K ("law", none)))
  g_Settings : mg "Settings" = some (.ref (He.ga K "Settings"))
  g_Packing : mg "Packing" = some (.ref (He.ga K "Packing"))
  g_StoreError : mg "StoreError" = some (.ref (He.ga K "StoreError"))
  g_InvalidSettings : mg "InvalidSettings" = some (.ref (He.ga K "InvalidSettings"))
  g_InvalidPage : mg "InvalidPage" = some (.ref (He.ga K "InvalidPage"))
  g_InvalidNumber : mg "InvalidNumber" = some (.ref (He.ga K "InvalidNumber"))
  g_InvalidArgument : mg "InvalidArgument" = some (.ref (He.ga K "InvalidArgument"))
  c_Settings : Cls K (He.ga K "Settings")
  mk_Settings : Mk K (He.ga K "Settings") (He.fAd K ("Settings", some "__init__"))
  a_Settings_lengths : NoAttr K (He.ga K "Settings") "lengths"
  a_Settings_size : NoAttr K (He.ga K "Settings") "size"
  a_Settings_fanout : NoAttr K (He.ga K "Settings") "fanout"
  a_Settings_records : NoAttr K (He.ga K "Settings") "records"
  a_Settings_every : NoAttr K (He.ga K "Settings") "every"
  a_Settings_keep : NoAttr K (He.ga K "Settings") "keep"
  m_Settings___eq__ : Meth K (He.ga K "Settings") "__eq__" (He.fAd K ("Settings", some "__eq__"))
  m_Settings_parts : Meth K (He.ga K "Settings") "parts" (He.fAd K ("Settings", some "parts"))
  c_Packing : Cls K (He.ga K "Packing")
  mk_Packing : Mk K (He.ga K "Packing") (He.fAd K ("Packing", some "__init__"))
  a_Packing_row_lengths : NoAttr K (He.ga K "Packing") "row_lengths"
  a_Packing_room : NoAttr K (He.ga K "Packing") "room"
  a_Packing_starts : NoAttr K (He.ga K "Packing") "starts"
  a_Packing_first : NoAttr K (He.ga K "Packing") "first"
  a_Packing_pages : NoAttr K (He.ga K "Packing") "pages"
  a_Packing_rows : NoAttr K (He.ga K "Packing") "rows"
  m_Packing_length : Meth K (He.ga K "Packing") "length" (He.fAd K ("Packing", some "length"))
  m_Packing_rows_from : Meth K (He.ga K "Packing") "rows_from" (He.fAd K ("Packing", some "rows_from"))
  m_Packing_holder : Meth K (He.ga K "Packing") "holder" (He.fAd K ("Packing", some "holder"))
  n_int : mg "int" = none
  n_len : mg "len" = none
  n_range : mg "range" = none
  n_isinstance : mg "isinstance" = none
  n_list : mg "list" = none
  n_tuple : mg "tuple" = none
  n_bool : mg "bool" = none
  n_set : mg "set" = none
  n_max : mg "max" = none
  n_min : mg "min" = none
  n_sorted : mg "sorted" = none
  i_MOST_ROW : ∃ t, mg "MOST_ROW" = some (.int (1000000000000000000000000000000) t)
  i_MOST_LENGTHS : ∃ t, mg "MOST_LENGTHS" = some (.int (6) t)
  i_MOST_SIZE : ∃ t, mg "MOST_SIZE" = some (.int (64) t)
  i_MOST_FANOUT : ∃ t, mg "MOST_FANOUT" = some (.int (8) t)
  i_MOST_RECORDS : ∃ t, mg "MOST_RECORDS" = some (.int (16) t)
  i_MOST_EVERY : ∃ t, mg "MOST_EVERY" = some (.int (40) t)
  i_MOST_KEEP : ∃ t, mg "MOST_KEEP" = some (.int (100) t)
  i_MOST_LEVEL : ∃ t, mg "MOST_LEVEL" = some (.int (110) t)
  eq_Settings : EqC K (He.ga K "Settings")
  ic_Settings : IsC K (He.ga K "Settings")
  kc_Settings_int : PySem.W.kitOne K (.ref (He.ga K "Settings")) (.type "int") = some false
  kc_Settings_bool : PySem.W.kitOne K (.ref (He.ga K "Settings")) (.type "bool") = some false
  kc_Settings_list : PySem.W.kitOne K (.ref (He.ga K "Settings")) (.type "list") = some false
  kc_Settings_tuple : PySem.W.kitOne K (.ref (He.ga K "Settings")) (.type "tuple") = some false
  kb_int_Settings : PySem.W.kitOne K (.type "int") (.ref (He.ga K "Settings")) = some false
  kb_bool_Settings : PySem.W.kitOne K (.type "bool") (.ref (He.ga K "Settings")) = some false
  kb_str_Settings : PySem.W.kitOne K (.type "str") (.ref (He.ga K "Settings")) = some false
  kb_list_Settings : PySem.W.kitOne K (.type "list") (.ref (He.ga K "Settings")) = some false
  kb_tuple_Settings : PySem.W.kitOne K (.type "tuple") (.ref (He.ga K "Settings")) = some false
  kb_dict_Settings : PySem.W.kitOne K (.type "dict") (.ref (He.ga K "Settings")) = some false
  kb_NoneType_Settings : PySem.W.kitOne K (.type "NoneType") (.ref (He.ga K "Settings")) = some false
  kk_Settings_Settings : PySem.W.kitOne K (.ref (He.ga K "Settings")) (.ref (He.ga K "Settings")) = some true
  kk_Packing_Settings : PySem.W.kitOne K (.ref (He.ga K "Packing")) (.ref (He.ga K "Settings")) = some false
  ic_Packing : IsC K (He.ga K "Packing")
  kc_Packing_int : PySem.W.kitOne K (.ref (He.ga K "Packing")) (.type "int") = some false
  kc_Packing_bool : PySem.W.kitOne K (.ref (He.ga K "Packing")) (.type "bool") = some false
  kc_Packing_list : PySem.W.kitOne K (.ref (He.ga K "Packing")) (.type "list") = some false
  kc_Packing_tuple : PySem.W.kitOne K (.ref (He.ga K "Packing")) (.type "tuple") = some false
def fnl : List He.DefD := [dd_is_integer, dd_is_between, dd_check_part, dd_Settings___init__, dd_Settings___eq__, dd_Settings_parts, dd_check_settings, dd_check_moment, dd_Packing___init__, dd_Packing_length, dd_Packing_rows_from, dd_Packing_holder, dd_page_at, dd_multiplied, dd_check_level, dd_is_node, dd_check_node, dd_pages_of, dd_live, dd_root_level, dd_nodes_over, dd_span_of, dd_covered, dd_node_over, dd_tree_root, dd_tree_nodes, dd_tree_height, dd_checked_tree, dd_children, dd_parent, dd_law_digits, dd_law_parts, dd_law_settings, dd_law_rows, dd_law_pages, dd_law_tree, dd_law_below, dd_law_nodes_right, dd_law, dd_InvalidSettings___init__, dd_InvalidPage___init__, dd_InvalidNumber___init__, dd_InvalidArgument___init__]
def fal : List He.Fa := [.glo "is_integer", .glo "is_between", .glo "check_part", .glo "check_settings", .glo "check_moment", .glo "page_at", .glo "multiplied", .glo "check_level", .glo "is_node", .glo "check_node", .glo "pages_of", .glo "live", .glo "root_level", .glo "nodes_over", .glo "span_of", .glo "covered", .glo "node_over", .glo "tree_root", .glo "tree_nodes", .glo "tree_height", .glo "checked_tree", .glo "children", .glo "parent", .glo "_law_digits", .glo "_law_parts", .glo "_law_settings", .glo "_law_rows", .glo "_law_pages", .glo "_law_tree", .glo "_law_below", .glo "_law_nodes_right", .glo "law", .glo "Settings", .glo "Packing", .glo "StoreError", .glo "InvalidSettings", .glo "InvalidPage", .glo "InvalidNumber", .glo "InvalidArgument", .cls "Settings", .mkr "Settings", .noat "Settings" "lengths", .noat "Settings" "size", .noat "Settings" "fanout", .noat "Settings" "records", .noat "Settings" "every", .noat "Settings" "keep", .meth "Settings" "__eq__", .meth "Settings" "parts", .cls "Packing", .mkr "Packing", .noat "Packing" "row_lengths", .noat "Packing" "room", .noat "Packing" "starts", .noat "Packing" "first", .noat "Packing" "pages", .noat "Packing" "rows", .meth "Packing" "length", .meth "Packing" "rows_from", .meth "Packing" "holder", .free "int", .free "len", .free "range", .free "isinstance", .free "list", .free "tuple", .free "bool", .free "set", .free "max", .free "min", .free "sorted", .int "MOST_ROW" (1000000000000000000000000000000), .int "MOST_LENGTHS" (6), .int "MOST_SIZE" (64), .int "MOST_FANOUT" (8), .int "MOST_RECORDS" (16), .int "MOST_EVERY" (40), .int "MOST_KEEP" (100), .int "MOST_LEVEL" (110)]
def D_is_integer : Nat := 0
def D_is_between : Nat := 1
def D_check_part : Nat := 2
def D_Settings___init__ : Nat := 3
def D_Settings___eq__ : Nat := 4
def D_Settings_parts : Nat := 5
def D_check_settings : Nat := 6
def D_check_moment : Nat := 7
def D_Packing___init__ : Nat := 8
def D_Packing_length : Nat := 9
def D_Packing_rows_from : Nat := 10
def D_Packing_holder : Nat := 11
def D_page_at : Nat := 12
def D_multiplied : Nat := 13
def D_check_level : Nat := 14
def D_is_node : Nat := 15
def D_check_node : Nat := 16
def D_pages_of : Nat := 17
def D_live : Nat := 18
def D_root_level : Nat := 19
def D_nodes_over : Nat := 20
def D_span_of : Nat := 21
def D_covered : Nat := 22
def D_node_over : Nat := 23
def D_tree_root : Nat := 24
def D_tree_nodes : Nat := 25
def D_tree_height : Nat := 26
def D_checked_tree : Nat := 27
def D_children : Nat := 28
def D_parent : Nat := 29
def D_law_digits : Nat := 30
def D_law_parts : Nat := 31
def D_law_settings : Nat := 32
def D_law_rows : Nat := 33
def D_law_pages : Nat := 34
def D_law_tree : Nat := 35
def D_law_below : Nat := 36
def D_law_nodes_right : Nat := 37
def D_law : Nat := 38
def D_InvalidSettings___init__ : Nat := 39
def D_InvalidPage___init__ : Nat := 40
def D_InvalidNumber___init__ : Nat := 41
def D_InvalidArgument___init__ : Nat := 42
theorem txt_of {K : PySem.W.Frag} {h : Heap} {mg : Str → Option Value} (X : K.In h) (G : h.Ns mainGlobals mg) (c : He.SaysD fal fnl K) (cx : exB K = true) : ∃ D, Txt K mg D := by
  have hx : ∀ f ∈ exl, f K = true := List.all_eq_true.mp cx
  have hd : ∀ i : Nat, ∃ fd : FuncData, ∀ d : He.DefD, fnl[i]? = some d → FunD K d.name d.qual d.params d.body d.scope (d.dvs K) (d.kws K) (He.fAd K d.at_) fd := fun i => by
    cases e : fnl[i]? with
    | none => exact ⟨PySem.W.fnOf "" "" (defArgs (topS 0)) [] (defScope (topS 0)) .none .none .none .none none .none .none, fun d h => nomatch h⟩
    | some d =>
      obtain ⟨fd, h⟩ := c.def_ i e
      exact ⟨fd, fun d2 h2 => by cases h2; exact h⟩
  have key := Classical.axiomOfChoice hd
  obtain ⟨D, hD⟩ := key
  refine ⟨D, ?_⟩
  constructor
  · exact hD 0 dd_is_integer rfl
  · exact hD 1 dd_is_between rfl
  · exact hD 2 dd_check_part rfl
  · exact hD 3 dd_Settings___init__ rfl
  · exact hD 4 dd_Settings___eq__ rfl
  · exact hD 5 dd_Settings_parts rfl
  · exact hD 6 dd_check_settings rfl
  · exact hD 7 dd_check_moment rfl
  · exact hD 8 dd_Packing___init__ rfl
  · exact hD 9 dd_Packing_length rfl
  · exact hD 10 dd_Packing_rows_from rfl
  · exact hD 11 dd_Packing_holder rfl
  · exact hD 12 dd_page_at rfl
  · exact hD 13 dd_multiplied rfl
  · exact hD 14 dd_check_level rfl
  · exact hD 15 dd_is_node rfl
  · exact hD 16 dd_check_node rfl
  · exact hD 17 dd_pages_of rfl
  · exact hD 18 dd_live rfl
  · exact hD 19 dd_root_level rfl
  · exact hD 20 dd_nodes_over rfl
  · exact hD 21 dd_span_of rfl
  · exact hD 22 dd_covered rfl
  · exact hD 23 dd_node_over rfl
  · exact hD 24 dd_tree_root rfl
  · exact hD 25 dd_tree_nodes rfl
  · exact hD 26 dd_tree_height rfl
  · exact hD 27 dd_checked_tree rfl
  · exact hD 28 dd_children rfl
  · exact hD 29 dd_parent rfl
  · exact hD 30 dd_law_digits rfl
  · exact hD 31 dd_law_parts rfl
  · exact hD 32 dd_law_settings rfl
  · exact hD 33 dd_law_rows rfl
  · exact hD 34 dd_law_pages rfl
  · exact hD 35 dd_law_tree rfl
  · exact hD 36 dd_law_below rfl
  · exact hD 37 dd_law_nodes_right rfl
  · exact hD 38 dd_law rfl
  · exact hD 39 dd_InvalidSettings___init__ rfl
  · exact hD 40 dd_InvalidPage___init__ rfl
  · exact hD 41 dd_InvalidNumber___init__ rfl
  · exact hD 42 dd_InvalidArgument___init__ rfl
  · exact He.glo_ok X G (c.fact 0 (f := .glo "is_integer") rfl)
  · exact He.glo_ok X G (c.fact 1 (f := .glo "is_between") rfl)
  · exact He.glo_ok X G (c.fact 2 (f := .glo "check_part") rfl)
  · exact He.glo_ok X G (c.fact 3 (f := .glo "check_settings") rfl)
  · exact He.glo_ok X G (c.fact 4 (f := .glo "check_moment") rfl)
  · exact He.glo_ok X G (c.fact 5 (f := .glo "page_at") rfl)
  · exact He.glo_ok X G (c.fact 6 (f := .glo "multiplied") rfl)
  · exact He.glo_ok X G (c.fact 7 (f := .glo "check_level") rfl)
  · exact He.glo_ok X G (c.fact 8 (f := .glo "is_node") rfl)
  · exact He.glo_ok X G (c.fact 9 (f := .glo "check_node") rfl)
  · exact He.glo_ok X G (c.fact 10 (f := .glo "pages_of") rfl)
  · exact He.glo_ok X G (c.fact 11 (f := .glo "live") rfl)
  · exact He.glo_ok X G (c.fact 12 (f := .glo "root_level") rfl)
  · exact He.glo_ok X G (c.fact 13 (f := .glo "nodes_over") rfl)
  · exact He.glo_ok X G (c.fact 14 (f := .glo "span_of") rfl)
  · exact He.glo_ok X G (c.fact 15 (f := .glo "covered") rfl)
  · exact He.glo_ok X G (c.fact 16 (f := .glo "node_over") rfl)
  · exact He.glo_ok X G (c.fact 17 (f := .glo "tree_root") rfl)
  · exact He.glo_ok X G (c.fact 18 (f := .glo "tree_nodes") rfl)
  · exact He.glo_ok X G (c.fact 19 (f := .glo "tree_height") rfl)
  · exact He.glo_ok X G (c.fact 20 (f := .glo "checked_tree") rfl)
  · exact He.glo_ok X G (c.fact 21 (f := .glo "children") rfl)
  · exact He.glo_ok X G (c.fact 22 (f := .glo "parent") rfl)
  · exact He.glo_ok X G (c.fact 23 (f := .glo "_law_digits") rfl)
  · exact He.glo_ok X G (c.fact 24 (f := .glo "_law_parts") rfl)
  · exact He.glo_ok X G (c.fact 25 (f := .glo "_law_settings") rfl)
  · exact He.glo_ok X G (c.fact 26 (f := .glo "_law_rows") rfl)
  · exact He.glo_ok X G (c.fact 27 (f := .glo "_law_pages") rfl)
  · exact He.glo_ok X G (c.fact 28 (f := .glo "_law_tree") rfl)
  · exact He.glo_ok X G (c.fact 29 (f := .glo "_law_below") rfl)
  · exact He.glo_ok X G (c.fact 30 (f := .glo "_law_nodes_right") rfl)
  · exact He.glo_ok X G (c.fact 31 (f := .glo "law") rfl)
  · exact He.glo_ok X G (c.fact 32 (f := .glo "Settings") rfl)
  · exact He.glo_ok X G (c.fact 33 (f := .glo "Packing") rfl)
  · exact He.glo_ok X G (c.fact 34 (f := .glo "StoreError") rfl)
  · exact He.glo_ok X G (c.fact 35 (f := .glo "InvalidSettings") rfl)
  · exact He.glo_ok X G (c.fact 36 (f := .glo "InvalidPage") rfl)
  · exact He.glo_ok X G (c.fact 37 (f := .glo "InvalidNumber") rfl)
  · exact He.glo_ok X G (c.fact 38 (f := .glo "InvalidArgument") rfl)
  · exact He.cls_ok (c.fact 39 (f := .cls "Settings") rfl)
  · exact He.mkr_ok (c.fact 40 (f := .mkr "Settings") rfl)
  · exact He.noat_ok (c.fact 41 (f := .noat "Settings" "lengths") rfl)
  · exact He.noat_ok (c.fact 42 (f := .noat "Settings" "size") rfl)
  · exact He.noat_ok (c.fact 43 (f := .noat "Settings" "fanout") rfl)
  · exact He.noat_ok (c.fact 44 (f := .noat "Settings" "records") rfl)
  · exact He.noat_ok (c.fact 45 (f := .noat "Settings" "every") rfl)
  · exact He.noat_ok (c.fact 46 (f := .noat "Settings" "keep") rfl)
  · exact He.meth_ok (c.fact 47 (f := .meth "Settings" "__eq__") rfl)
  · exact He.meth_ok (c.fact 48 (f := .meth "Settings" "parts") rfl)
  · exact He.cls_ok (c.fact 49 (f := .cls "Packing") rfl)
  · exact He.mkr_ok (c.fact 50 (f := .mkr "Packing") rfl)
  · exact He.noat_ok (c.fact 51 (f := .noat "Packing" "row_lengths") rfl)
  · exact He.noat_ok (c.fact 52 (f := .noat "Packing" "room") rfl)
  · exact He.noat_ok (c.fact 53 (f := .noat "Packing" "starts") rfl)
  · exact He.noat_ok (c.fact 54 (f := .noat "Packing" "first") rfl)
  · exact He.noat_ok (c.fact 55 (f := .noat "Packing" "pages") rfl)
  · exact He.noat_ok (c.fact 56 (f := .noat "Packing" "rows") rfl)
  · exact He.meth_ok (c.fact 57 (f := .meth "Packing" "length") rfl)
  · exact He.meth_ok (c.fact 58 (f := .meth "Packing" "rows_from") rfl)
  · exact He.meth_ok (c.fact 59 (f := .meth "Packing" "holder") rfl)
  · exact He.free_ok X G (c.fact 60 (f := .free "int") rfl)
  · exact He.free_ok X G (c.fact 61 (f := .free "len") rfl)
  · exact He.free_ok X G (c.fact 62 (f := .free "range") rfl)
  · exact He.free_ok X G (c.fact 63 (f := .free "isinstance") rfl)
  · exact He.free_ok X G (c.fact 64 (f := .free "list") rfl)
  · exact He.free_ok X G (c.fact 65 (f := .free "tuple") rfl)
  · exact He.free_ok X G (c.fact 66 (f := .free "bool") rfl)
  · exact He.free_ok X G (c.fact 67 (f := .free "set") rfl)
  · exact He.free_ok X G (c.fact 68 (f := .free "max") rfl)
  · exact He.free_ok X G (c.fact 69 (f := .free "min") rfl)
  · exact He.free_ok X G (c.fact 70 (f := .free "sorted") rfl)
  · exact He.int_ok X G (c.fact 71 (f := .int "MOST_ROW" (1000000000000000000000000000000)) rfl)
  · exact He.int_ok X G (c.fact 72 (f := .int "MOST_LENGTHS" (6)) rfl)
  · exact He.int_ok X G (c.fact 73 (f := .int "MOST_SIZE" (64)) rfl)
  · exact He.int_ok X G (c.fact 74 (f := .int "MOST_FANOUT" (8)) rfl)
  · exact He.int_ok X G (c.fact 75 (f := .int "MOST_RECORDS" (16)) rfl)
  · exact He.int_ok X G (c.fact 76 (f := .int "MOST_EVERY" (40)) rfl)
  · exact He.int_ok X G (c.fact 77 (f := .int "MOST_KEEP" (100)) rfl)
  · exact He.int_ok X G (c.fact 78 (f := .int "MOST_LEVEL" (110)) rfl)
  · exact eqCB_ok (hx (eqCB "Settings") (List.mem_of_getElem? (i := 0) rfl))
  · exact isCB_ok (hx (isCB "Settings") (List.mem_of_getElem? (i := 1) rfl))
  · exact of_decide_eq_true (hx (kitB2 "Settings" "int" false) (List.mem_of_getElem? (i := 2) rfl))
  · exact of_decide_eq_true (hx (kitB2 "Settings" "bool" false) (List.mem_of_getElem? (i := 3) rfl))
  · exact of_decide_eq_true (hx (kitB2 "Settings" "list" false) (List.mem_of_getElem? (i := 4) rfl))
  · exact of_decide_eq_true (hx (kitB2 "Settings" "tuple" false) (List.mem_of_getElem? (i := 5) rfl))
  · exact of_decide_eq_true (hx (kitB1 "int" "Settings" false) (List.mem_of_getElem? (i := 6) rfl))
  · exact of_decide_eq_true (hx (kitB1 "bool" "Settings" false) (List.mem_of_getElem? (i := 7) rfl))
  · exact of_decide_eq_true (hx (kitB1 "str" "Settings" false) (List.mem_of_getElem? (i := 8) rfl))
  · exact of_decide_eq_true (hx (kitB1 "list" "Settings" false) (List.mem_of_getElem? (i := 9) rfl))
  · exact of_decide_eq_true (hx (kitB1 "tuple" "Settings" false) (List.mem_of_getElem? (i := 10) rfl))
  · exact of_decide_eq_true (hx (kitB1 "dict" "Settings" false) (List.mem_of_getElem? (i := 11) rfl))
  · exact of_decide_eq_true (hx (kitB1 "NoneType" "Settings" false) (List.mem_of_getElem? (i := 12) rfl))
  · exact of_decide_eq_true (hx (kitB3 "Settings" "Settings" true) (List.mem_of_getElem? (i := 13) rfl))
  · exact of_decide_eq_true (hx (kitB3 "Packing" "Settings" false) (List.mem_of_getElem? (i := 14) rfl))
  · exact isCB_ok (hx (isCB "Packing") (List.mem_of_getElem? (i := 15) rfl))
  · exact of_decide_eq_true (hx (kitB2 "Packing" "int" false) (List.mem_of_getElem? (i := 16) rfl))
  · exact of_decide_eq_true (hx (kitB2 "Packing" "bool" false) (List.mem_of_getElem? (i := 17) rfl))
  · exact of_decide_eq_true (hx (kitB2 "Packing" "list" false) (List.mem_of_getElem? (i := 18) rfl))
  · exact of_decide_eq_true (hx (kitB2 "Packing" "tuple" false) (List.mem_of_getElem? (i := 19) rfl))
abbrev RowK : PySem.W.OpenRow := PySem.W.OpenLaw.row PySem.Challenge.rw_keeprows_k14_trees_near
abbrev hk : PySem.W.Hook := hookB 6 fal fnl exB
def ob (s : PySem.W.SharedT) : He.AlD := obsB 6 fal fnl exB (HandSHeadRun.getT s)
theorem ob_eq (s : PySem.W.SharedT) : ob s = hk.obs s.abs := obsB_eq (HandSHeadRun.getT_eq s)
def looseN : List Str := (["_wall", "StoreError", "InvalidSettings", "InvalidPage", "InvalidNumber", "InvalidArgument", "MOST_ROW", "MOST_LENGTHS", "MOST_SIZE", "MOST_FANOUT", "MOST_RECORDS", "MOST_EVERY", "MOST_KEEP", "is_integer", "is_between", "check_part", "Settings", "check_settings", "check_moment", "Packing", "page_at", "multiplied", "MOST_LEVEL", "check_level", "is_node"] : List Str) ++ (["check_node", "pages_of", "live", "root_level", "nodes_over", "span_of", "covered", "node_over", "tree_root", "tree_nodes", "tree_height", "checked_tree", "children", "parent", "_law_digits", "_law_parts", "_law_settings", "_law_rows", "_law_pages", "_law_tree", "_law_below", "_law_nodes_right"] : List Str)
theorem run (w : World) : HandSHeadRun.RunEq RowK (PySem.W.view RowK.prog [53]) hk ob 4000 looseN w := by
  intro os
  kernel_rfl
end KR
local macro_rules | `(tactic| walk_at "cls") => `(tactic| first
  | exact KR.Txt.c_Settings (by assumption)
  | exact KR.Txt.c_Packing (by assumption))
local macro_rules | `(tactic| walk_at "noat") => `(tactic| first
  | exact KR.Txt.a_Settings_lengths (by assumption)
  | exact KR.Txt.a_Settings_size (by assumption)
  | exact KR.Txt.a_Settings_fanout (by assumption)
  | exact KR.Txt.a_Settings_records (by assumption)
  | exact KR.Txt.a_Settings_every (by assumption)
  | exact KR.Txt.a_Settings_keep (by assumption)
  | exact KR.Txt.a_Packing_row_lengths (by assumption)
  | exact KR.Txt.a_Packing_room (by assumption)
  | exact KR.Txt.a_Packing_starts (by assumption)
  | exact KR.Txt.a_Packing_first (by assumption)
  | exact KR.Txt.a_Packing_pages (by assumption)
  | exact KR.Txt.a_Packing_rows (by assumption))
local macro_rules | `(tactic| walk_at "lk") => `(tactic| first
  | assumption
  | with_reducible exact KR.lk_Packing_6_5
  | with_reducible exact KR.lk_Packing_6_4
  | with_reducible exact KR.lk_Packing_6_3
  | with_reducible exact KR.lk_Packing_6_2
  | with_reducible exact KR.lk_Packing_6_1
  | with_reducible exact KR.lk_Packing_6_0
  | with_reducible exact KR.lk_Packing_5_4
  | with_reducible exact KR.lk_Packing_5_3
  | with_reducible exact KR.lk_Packing_5_2
  | with_reducible exact KR.lk_Packing_5_1
  | with_reducible exact KR.lk_Packing_5_0
  | with_reducible exact KR.lk_Packing_4_3
  | with_reducible exact KR.lk_Packing_4_2
  | with_reducible exact KR.lk_Packing_4_1
  | with_reducible exact KR.lk_Packing_4_0
  | with_reducible exact KR.lk_Packing_3_2
  | with_reducible exact KR.lk_Packing_3_1
  | with_reducible exact KR.lk_Packing_3_0
  | with_reducible exact KR.lk_Packing_2_1
  | with_reducible exact KR.lk_Packing_2_0
  | with_reducible exact KR.lk_Packing_1_0
  | with_reducible exact KR.lk_Settings_6_5
  | with_reducible exact KR.lk_Settings_6_4
  | with_reducible exact KR.lk_Settings_6_3
  | with_reducible exact KR.lk_Settings_6_2
  | with_reducible exact KR.lk_Settings_6_1
  | with_reducible exact KR.lk_Settings_6_0
  | with_reducible exact KR.lk_Settings_5_4
  | with_reducible exact KR.lk_Settings_5_3
  | with_reducible exact KR.lk_Settings_5_2
  | with_reducible exact KR.lk_Settings_5_1
  | with_reducible exact KR.lk_Settings_5_0
  | with_reducible exact KR.lk_Settings_4_3
  | with_reducible exact KR.lk_Settings_4_2
  | with_reducible exact KR.lk_Settings_4_1
  | with_reducible exact KR.lk_Settings_4_0
  | with_reducible exact KR.lk_Settings_3_2
  | with_reducible exact KR.lk_Settings_3_1
  | with_reducible exact KR.lk_Settings_3_0
  | with_reducible exact KR.lk_Settings_2_1
  | with_reducible exact KR.lk_Settings_2_0
  | with_reducible exact KR.lk_Settings_1_0
  | kernel_rfl)
local macro_rules | `(tactic| walk_at "dg") => `(tactic| first
  | exact KR.pg_lengths (by walk_at "hp")
  | exact KR.pg_size (by walk_at "hp")
  | exact KR.pg_fanout (by walk_at "hp")
  | exact KR.pg_records (by walk_at "hp")
  | exact KR.pg_every (by walk_at "hp")
  | exact KR.pg_keep (by walk_at "hp"))
local macro_rules | `(tactic| walk_at "sd") => `(tactic| first
  | omega
  | decide
  | exact KR.szl (Nat.le_of_ble_eq_true rfl)
  | ((repeat' split) <;> omega)
  | exact ⟨Nat.le_of_ble_eq_true rfl, Nat.le_of_ble_eq_true rfl⟩
  | (refine KR.cdw ?_ ?_ <;> omega)
  | (refine KR.cdv ?_ ?_ <;> omega)
  | (refine KR.cml ?_ ?_ <;> omega)
  | (refine KR.cmr ?_ ?_ <;> omega))
local macro_rules | `(tactic| walk_at "hp") => `(tactic| first
  | assumption
  | exact KR.hp_same (by assumption) (by assumption)
  | exact KR.hp_sb (by assumption) (by assumption) (by assumption))
local macro_rules | `(tactic| walk_at "s1") => `(tactic| first
  | refine ⟨_, rfl, ?_⟩
  | refine L2.iteT ?_
  | refine L2.iteF ?_
  | refine ⟨_, _, rfl, rfl, ?_⟩
  | refine Or.inl ⟨_, rfl, ?_⟩
  | (refine' ⟨_, _, _, _, rfl, rfl, L2.SqL.of ?h1, ?h2, ?_⟩; (case h1 => walk_at "hp"); (case h2 => rfl))
  | (refine' ⟨_, _, _, _, rfl, rfl, L2.SqT.of ?h1, ?h2, ?_⟩; (case h1 => walk_at "hp"); (case h2 => rfl))
  | refine ⟨rfl, ?_⟩
  | refine ⟨_, _, rfl, ?_⟩
  | refine ⟨_, _, _, rfl, ?_⟩
  | (refine' ⟨_, _, rfl, L2.SqT.of ?h1, ?h2, ?_⟩; (case h1 => walk_at "hp"); (case h2 => rfl))
  | (refine' ⟨_, _, rfl, Or.inl (L2.SqL.of ?h1), ?_⟩; (case h1 => walk_at "hp"))
  | (refine' ⟨_, _, rfl, Or.inr (L2.SqT.of ?h1), ?_⟩; (case h1 => walk_at "hp"))
  | (refine' ⟨_, _, _, _, _, rfl, ?h1, ?h2, ?h3, ?h4, ?_⟩; (case h1 => walk_at "hp"); (case h2 => walk_at "cls"); (case h3 => walk_at "noat"); (case h4 => walk_at "lk"))
  | (refine' ⟨_, _, _, _, rfl, ?h1, ?h2, ?h3, ?h4, ?_⟩; (case h1 => walk_at "hp"); (case h2 => walk_at "cls"); (case h3 => walk_at "noat"); (case h4 => exact KR.lt1000 rfl))
  | (refine' ⟨_, _, _, rfl, ?h1, ?h2, ?_⟩; (case h1 => walk_at "hp"); (case h2 => walk_at "lk"))
  | (refine' ⟨⟨_, L2.SqL.of ?h1⟩, ?_⟩; (case h1 => walk_at "hp"))
  | (refine' ⟨⟨_, L2.SqT.of ?h1⟩, ?_⟩; (case h1 => walk_at "hp"))
  | (refine' ⟨_, _, rfl, ?h1, ?_⟩; (case h1 => walk_at "dg"))
  | (refine And.intro ?h1 ?_; (case h1 => walk_at "sd")))
local macro_rules | `(tactic| walk_at "rd") => `(tactic| repeat walk_at "s1")
namespace KR
open PySem PySem.Spec PyProof.Rows L2
section
variable {P : Program} {w : World} {K : PySem.W.Frag} {mg : Str → Option Value} {base : Heap} {D : Nat → FuncData}
/-- drawn settings -/
structure Prt where
  lens : List Int
  size : Int
  fan : Int
  rec_ : Int
  every : Int
  keep : Int
structure Prt.Ok (p : Prt) : Prop where
  l0 : 0 < p.lens.length
  l1 : p.lens.length ≤ 6
  le : ∀ x ∈ p.lens, 1 ≤ x ∧ x ≤ p.size
  s0 : 1 ≤ p.size
  s1 : p.size ≤ 64
  f : 2 ≤ p.fan ∧ p.fan ≤ 8
  r : 1 ≤ p.rec_ ∧ p.rec_ ≤ 16
  e : 1 ≤ p.every ∧ p.every ≤ 40
  k : 1 ≤ p.keep ∧ p.keep ≤ 100
@[irreducible] def sp_is_integer : Sp := fun vs H Q _ => ∃ i : Int, vs = [.int i] ∧ Q (.bl true) H
theorem use_isint {i : Int} {H : Hp} {Q : VK} {E : XK} (q : Q (.bl true) H) : sp_is_integer [.int i] H Q E := by unfold sp_is_integer; exact ⟨i, rfl, q⟩
theorem b_is_integer {K : PySem.W.Frag} {fd : FuncData} (F : F_is_integer K fd) : Binds K fd P_is_integer [] := FunD.bindsN F fun _ _ _ _ _ _ us hl => match us, hl with | [_], _ => rfl
theorem ok_is_integer (T : Txt K mg D) : FnOk P w K mg base CX0 1 (He.fAd K ("is_integer", none)) (D D_is_integer) P_is_integer sp_is_integer := by
  refine T.d_is_integer.ok sc_is_integer (fun vs H Q E h => ?_) (fun cdv A outer s H vs Q E hr h => ?_)
  · unfold sp_is_integer at h
    first | (obtain ⟨rfl, _⟩ := h; rfl) | (obtain ⟨_, rfl, _⟩ := h; rfl) | (obtain ⟨_, _, rfl, _⟩ := h; rfl) | (obtain ⟨_, _, _, rfl, _⟩ := h; rfl) | (obtain ⟨_, _, _, _, rfl, _⟩ := h; rfl) | (obtain ⟨_, _, _, _, _, rfl, _⟩ := h; rfl) | (obtain ⟨_, _, _, _, _, _, rfl, _⟩ := h; rfl) | (obtain ⟨_, _, _, _, _, _, _, rfl, _⟩ := h; rfl) | (obtain ⟨_, _, _, _, _, _, _, _, rfl, _⟩ := h; rfl) | (obtain ⟨_, _, _, _, _, _, _, _, _, rfl, _⟩ := h; rfl) | (obtain ⟨_, _, _, _, _, _, _, _, _, _, rfl, _⟩ := h; rfl) | (obtain ⟨_, _, _, _, _, _, _, _, _, _, _, rfl, _⟩ := h; rfl)
  · refine ⟨_, PSs.nox (pss_one (ps_ret (pe_and (pe_callB (call_isiK2 (K := K)) (by rfl) T.n_isinstance (by decide +kernel) (pa_cons (pv 0) (pa_cons (pe_bltn (by rfl) T.n_int (by decide +kernel) (v := .ty "int") rfl) pa_nil))) (pe_one (pe_not (pe_callB (call_isiK2 (K := K)) (by rfl) T.n_isinstance (by decide +kernel) (pa_cons (pv 0) (pa_cons (pe_bltn (by rfl) T.n_bool (by decide +kernel) (v := .ty "bool") rfl) pa_nil)))))))), ?_⟩
    unfold sp_is_integer at h
    obtain ⟨i, rfl, q⟩ := h
    walk_at "rd"
    refine isi_int ?_
    walk_at "rd"
    refine isi_bool ?_
    walk_at "rd"
    exact q

@[irreducible] def sp_is_between : Sp := fun vs H Q _ => ∃ i lo hi : Int, vs = [.int i, .int lo, .int hi] ∧ Q (.bl (decide (lo ≤ i ∧ i ≤ hi))) H
theorem use_between {i lo hi : Int} {H : Hp} {Q : VK} {E : XK} (q : Q (.bl (decide (lo ≤ i ∧ i ≤ hi))) H) : sp_is_between [.int i, .int lo, .int hi] H Q E := by unfold sp_is_between; exact ⟨i, lo, hi, rfl, q⟩
theorem b_is_between {K : PySem.W.Frag} {fd : FuncData} (F : F_is_between K fd) : Binds K fd P_is_between [] := FunD.bindsN F fun _ _ _ _ _ _ us hl => match us, hl with | [_, _, _], _ => rfl
theorem ok_is_between (T : Txt K mg D) : FnOk P w K mg base CX0 2 (He.fAd K ("is_between", none)) (D D_is_between) P_is_between sp_is_between := by
  refine T.d_is_between.ok sc_is_between (fun vs H Q E h => ?_) (fun cdv A outer s H vs Q E hr h => ?_)
  · unfold sp_is_between at h
    first | (obtain ⟨rfl, _⟩ := h; rfl) | (obtain ⟨_, rfl, _⟩ := h; rfl) | (obtain ⟨_, _, rfl, _⟩ := h; rfl) | (obtain ⟨_, _, _, rfl, _⟩ := h; rfl) | (obtain ⟨_, _, _, _, rfl, _⟩ := h; rfl) | (obtain ⟨_, _, _, _, _, rfl, _⟩ := h; rfl) | (obtain ⟨_, _, _, _, _, _, rfl, _⟩ := h; rfl) | (obtain ⟨_, _, _, _, _, _, _, rfl, _⟩ := h; rfl) | (obtain ⟨_, _, _, _, _, _, _, _, rfl, _⟩ := h; rfl) | (obtain ⟨_, _, _, _, _, _, _, _, _, rfl, _⟩ := h; rfl) | (obtain ⟨_, _, _, _, _, _, _, _, _, _, rfl, _⟩ := h; rfl) | (obtain ⟨_, _, _, _, _, _, _, _, _, _, _, rfl, _⟩ := h; rfl)
  · refine ⟨_, PSs.nox (pss_one (ps_ret (pe_and (pe_call (ok_is_integer T) (hr.mono (by decide)) rfl T.g_is_integer T.d_is_integer.kp (b_is_integer T.d_is_integer) .nil pass0 (pa_cons (pv 0) pa_nil)) (pe_one (pe_chain op_le op_le (pv 1) (pv 0) (pv 2)))))), ?_⟩
    unfold sp_is_between at h
    obtain ⟨i, lo, hi, rfl, q⟩ := h
    walk_at "rd"
    refine use_isint ?_
    walk_at "rd"
    refine iteB (fun c => ?_) (fun c => ?_)
    · have c := of_decide_eq_true c
      walk_at "rd"
      have e : decide (i ≤ hi) = decide (lo ≤ i ∧ i ≤ hi) := by simp [c]
      show Q (.bl (decide (i ≤ hi))) H
      rw [e]
      exact q
    · have c := of_decide_eq_false c
      have e : false = decide (lo ≤ i ∧ i ≤ hi) := by simp [c]
      show Q (.bl false) H
      rw [e]
      exact q

@[irreducible] def sp_check_part : Sp := fun vs H Q _ => ∃ (x : Str) (i lo hi : Int), vs = [.str x, .int i, .int lo, .int hi] ∧ (lo ≤ i ∧ i ≤ hi) ∧ Q .non H
theorem use_check_part {x : Str} {i lo hi : Int} {H : Hp} {Q : VK} {E : XK} (h : lo ≤ i ∧ i ≤ hi) (q : Q .non H) : sp_check_part [.str x, .int i, .int lo, .int hi] H Q E := by unfold sp_check_part; exact ⟨x, i, lo, hi, rfl, h, q⟩
theorem b_check_part {K : PySem.W.Frag} {fd : FuncData} (F : F_check_part K fd) : Binds K fd P_check_part [] := FunD.bindsN F fun _ _ _ _ _ _ us hl => match us, hl with | [_, _, _, _], _ => rfl
theorem ok_check_part (T : Txt K mg D) : FnOk P w K mg base CX0 3 (He.fAd K ("check_part", none)) (D D_check_part) P_check_part sp_check_part := by
  refine T.d_check_part.ok sc_check_part (fun vs H Q E h => ?_) (fun cdv A outer s H vs Q E hr h => ?_)
  · unfold sp_check_part at h
    first | (obtain ⟨rfl, _⟩ := h; rfl) | (obtain ⟨_, rfl, _⟩ := h; rfl) | (obtain ⟨_, _, rfl, _⟩ := h; rfl) | (obtain ⟨_, _, _, rfl, _⟩ := h; rfl) | (obtain ⟨_, _, _, _, rfl, _⟩ := h; rfl) | (obtain ⟨_, _, _, _, _, rfl, _⟩ := h; rfl) | (obtain ⟨_, _, _, _, _, _, rfl, _⟩ := h; rfl) | (obtain ⟨_, _, _, _, _, _, _, rfl, _⟩ := h; rfl) | (obtain ⟨_, _, _, _, _, _, _, _, rfl, _⟩ := h; rfl) | (obtain ⟨_, _, _, _, _, _, _, _, _, rfl, _⟩ := h; rfl) | (obtain ⟨_, _, _, _, _, _, _, _, _, _, rfl, _⟩ := h; rfl) | (obtain ⟨_, _, _, _, _, _, _, _, _, _, _, rfl, _⟩ := h; rfl)
  · refine ⟨_, PSs.nox (pss_one (ps_if (pt_not (pt_val (pe_call (ok_is_between T) (hr.mono (by decide)) rfl T.g_is_between T.d_is_between.kp (b_is_between T.d_is_between) .nil pass0 (pa_cons (pv 1) (pa_cons (pv 2) (pa_cons (pv 3) pa_nil)))))) (pss_one ps_never) pss_nil)), ?_⟩
    unfold sp_check_part at h
    obtain ⟨x, i, lo, hi, rfl, h, q⟩ := h
    walk_at "rd"
    refine use_between ?_
    rw [decide_eq_true h]
    walk_at "rd"
    exact q

/-- settings stand at a -/
def SetAt (K : PySem.W.Frag) (H : Hp) (a : Addr) (p : Prt) : Prop := ∃ dx t, H a = some (.ins (He.ga K "Settings") dx [("lengths", .ref t), ("size", .int p.size), ("fanout", .int p.fan), ("records", .int p.rec_), ("every", .int p.every), ("keep", .int p.keep)]) ∧ H t = some (.tup (p.lens.map V.int))
theorem SetAt.same {K : PySem.W.Frag} {H H' : Hp} {a : Addr} {p : Prt} (h : SetAt K H a p) (s : Same H H') : SetAt K H' a p := let ⟨dx, l, h1, h2⟩ := h; ⟨dx, l, s _ _ h1, s _ _ h2⟩
@[irreducible] def sp_Settings_init (K : PySem.W.Frag) : Sp := fun vs H Q _ => ∃ (a dx l : Addr) (p : Prt), vs = [.ref a, .ref l, .int p.size, .int p.fan, .int p.rec_, .int p.every, .int p.keep] ∧
  H a = some (.ins (He.ga K "Settings") dx []) ∧ H l = some (.lst (p.lens.map V.int)) ∧ p.Ok ∧ ∀ H', SB a H H' → SetAt K H' a p → Q .non H'
theorem use_set_init {K : PySem.W.Frag} {a dx l : Addr} {p : Prt} {H : Hp} {Q : VK} {E : XK} (ha : H a = some (.ins (He.ga K "Settings") dx [])) (hl : H l = some (.lst (p.lens.map V.int))) (ok : p.Ok) (k : ∀ H', SB a H H' → SetAt K H' a p → Q .non H') :
  sp_Settings_init K [.ref a, .ref l, .int p.size, .int p.fan, .int p.rec_, .int p.every, .int p.keep] H Q E := by unfold sp_Settings_init; exact ⟨a, dx, l, p, rfl, ha, hl, ok, k⟩
theorem b_Settings___init__ {K : PySem.W.Frag} {fd : FuncData} (F : F_Settings___init__ K fd) : KBn K fd P_Settings___init__ 3 ["fanout", "records", "every", "keep"] (fun us ws => us ++ ws) (fun vs zs => vs ++ zs) := kb_app F 3 ["fanout", "records", "every", "keep"] fun _ _ _ _ _ _ us ws h1 h2 => match us, ws, h1, h2 with | [_, _, _], [_, _, _, _], _, _ => rfl
theorem ok_Settings___init__ (T : Txt K mg D) : FnOk P w K mg base CX0 4 (He.fAd K ("Settings", some "__init__")) (D D_Settings___init__) P_Settings___init__ (sp_Settings_init K) := by
  refine T.d_Settings___init__.ok sc_Settings___init__ (fun vs H Q E h => ?_) (fun cdv A outer s H vs Q E hr h => ?_)
  · unfold sp_Settings_init at h
    first | (obtain ⟨rfl, _⟩ := h; rfl) | (obtain ⟨_, rfl, _⟩ := h; rfl) | (obtain ⟨_, _, rfl, _⟩ := h; rfl) | (obtain ⟨_, _, _, rfl, _⟩ := h; rfl) | (obtain ⟨_, _, _, _, rfl, _⟩ := h; rfl) | (obtain ⟨_, _, _, _, _, rfl, _⟩ := h; rfl) | (obtain ⟨_, _, _, _, _, _, rfl, _⟩ := h; rfl) | (obtain ⟨_, _, _, _, _, _, _, rfl, _⟩ := h; rfl) | (obtain ⟨_, _, _, _, _, _, _, _, rfl, _⟩ := h; rfl) | (obtain ⟨_, _, _, _, _, _, _, _, _, rfl, _⟩ := h; rfl) | (obtain ⟨_, _, _, _, _, _, _, _, _, _, rfl, _⟩ := h; rfl) | (obtain ⟨_, _, _, _, _, _, _, _, _, _, _, rfl, _⟩ := h; rfl)
  · refine ⟨_, PSs.nox (pss_cons (ps_if (PW.pt (pw_or (pt_not (pt_val (pe_callB (call_isiK2 (K := K)) (by rfl) T.n_isinstance (by decide +kernel) (pa_cons (pv 1) (pa_cons (pe_bltn (by rfl) T.n_list (by decide +kernel) (v := .ty "list") rfl) pa_nil))))) (pw_or1 (pt_not (pt_chain op_le op_le pe_int (pe_callB (call_lenK (K := K)) (by rfl) T.n_len (by decide +kernel) (pa_cons (pv 1) pa_nil)) (pe_globi T.i_MOST_LENGTHS)))))) (pss_one ps_never) pss_nil)
      (pss_cons (ps_for PassesOwn.never rfl (pi_list (pv 1)) (pg_name (i := 7) sc_Settings___init__.nd rfl (Or.inl rfl)) (pss_one (ps_expr (pe_call (ok_check_part T) (hr.mono (by decide)) rfl T.g_check_part T.d_check_part.kp (b_check_part T.d_check_part) .nil pass0 (pa_cons pe_str (pa_cons (pv 7) (pa_cons pe_int (pa_cons (pe_globi T.i_MOST_SIZE) pa_nil))))))))
      (pss_cons (ps_expr (pe_call (ok_check_part T) (hr.mono (by decide)) rfl T.g_check_part T.d_check_part.kp (b_check_part T.d_check_part) .nil pass0 (pa_cons pe_str (pa_cons (pv 2) (pa_cons (pe_callB (cr_maxK (K := K) rfl) (by rfl) T.n_max (by decide +kernel) (pa_cons (pv 1) pa_nil)) (pa_cons (pe_globi T.i_MOST_SIZE) pa_nil))))))
      (pss_cons (ps_expr (pe_call (ok_check_part T) (hr.mono (by decide)) rfl T.g_check_part T.d_check_part.kp (b_check_part T.d_check_part) .nil pass0 (pa_cons pe_str (pa_cons (pv 3) (pa_cons pe_int (pa_cons (pe_globi T.i_MOST_FANOUT) pa_nil))))))
      (pss_cons (ps_expr (pe_call (ok_check_part T) (hr.mono (by decide)) rfl T.g_check_part T.d_check_part.kp (b_check_part T.d_check_part) .nil pass0 (pa_cons pe_str (pa_cons (pv 4) (pa_cons pe_int (pa_cons (pe_globi T.i_MOST_RECORDS) pa_nil))))))
      (pss_cons (ps_expr (pe_call (ok_check_part T) (hr.mono (by decide)) rfl T.g_check_part T.d_check_part.kp (b_check_part T.d_check_part) .nil pass0 (pa_cons pe_str (pa_cons (pv 5) (pa_cons pe_int (pa_cons (pe_globi T.i_MOST_EVERY) pa_nil))))))
      (pss_cons (ps_expr (pe_call (ok_check_part T) (hr.mono (by decide)) rfl T.g_check_part T.d_check_part.kp (b_check_part T.d_check_part) .nil pass0 (pa_cons pe_str (pa_cons (pv 6) (pa_cons pe_int (pa_cons (pe_globi T.i_MOST_KEEP) pa_nil))))))
      (pss_cons (ps_fld (pv 0) (pe_callTy (call_tupK (K := K)) (by rfl) T.n_tuple (by decide +kernel) (pa_cons (pv 1) pa_nil)) rfl)
      (pss_cons (ps_fld (pv 0) (pv 2) rfl)
      (pss_cons (ps_fld (pv 0) (pv 3) rfl)
      (pss_cons (ps_fld (pv 0) (pv 4) rfl)
      (pss_cons (ps_fld (pv 0) (pv 5) rfl)
      (pss_one (ps_fld (pv 0) (pv 6) rfl)))))))))))))), ?_⟩
    unfold sp_Settings_init at h
    obtain ⟨a, dx, l, p, rfl, ha, hl, ok, k⟩ := h
    walk_at "rd"
    refine isi_list hl ?_
    walk_at "rd"
    have l0 := ok.l0
    have l1 := ok.l1
    refine iteT_of (decide_eq_true (by rw [List.length_map]; omega)) ?_
    walk_at "rd"
    refine iteF_of (by rw [decide_eq_true (by rw [List.length_map]; omega)]; rfl) ?_
    walk_at "rd"
    refine for_list (xs := p.lens.map V.int) (fun i σ H' => H' = H ∧ ∃ v : Option V, σ = [some (.ref a), some (.ref l), some (.int p.size), some (.int p.fan), some (.int p.rec_), some (.int p.every), some (.int p.keep), v]) ⟨rfl, _, rfl⟩ ?_ ?_ ?_
    · rintro i σ H' _ ⟨rfl, _⟩
      exact SqL.of hl
    · rintro i x σ H' hx ⟨rfl, v, rfl⟩
      obtain ⟨z, hz, rfl⟩ := map_some hx
      have hb := ok.le z (List.mem_of_getElem? hz)
      have s1 := ok.s1
      walk_at "rd"
      refine use_check_part (by omega) ?_
      walk_at "rd"
      exact ⟨_, rfl⟩
    · rintro σ H' ⟨rfl, v, rfl⟩
      walk_at "rd"
      refine ⟨_, _, rfl, SqL.of hl, ok.l0, fun m hm _ => ?_⟩
      have hb := ok.le m hm
      have s1 := ok.s1
      walk_at "rd"
      refine use_check_part (by omega) ?_
      walk_at "rd"
      refine use_check_part ok.f ?_
      walk_at "rd"
      refine use_check_part ok.r ?_
      walk_at "rd"
      refine use_check_part ok.e ?_
      walk_at "rd"
      refine use_check_part ok.k ?_
      walk_at "rd"
      refine ⟨_, _, rfl, .inl ⟨SqL.of hl, ?_⟩⟩
      intro t n0
      generalize eG0 : upd _ t _ = G0
      obtain ⟨g0, ht⟩ := gen_new n0 eG0
      clear eG0
      have ha0 := g0 _ _ ha
      have nta : t ≠ a := (ne_of_none ha n0).symm
      walk_at "rd"
      generalize eG1 : upd _ _ _ = G1
      obtain ⟨g1, h1⟩ := gen_st eG1
      clear eG1
      try simp only [pf_Settings_0, pf_Settings_1, pf_Settings_2, pf_Settings_3, pf_Settings_4, pf_Settings_5, pf_Packing_0, pf_Packing_1, pf_Packing_2, pf_Packing_3, pf_Packing_4, pf_Packing_5] at h1
      walk_at "rd"
      generalize eG2 : upd _ _ _ = G2
      obtain ⟨g2, h2⟩ := gen_st eG2
      clear eG2
      try simp only [pf_Settings_0, pf_Settings_1, pf_Settings_2, pf_Settings_3, pf_Settings_4, pf_Settings_5, pf_Packing_0, pf_Packing_1, pf_Packing_2, pf_Packing_3, pf_Packing_4, pf_Packing_5] at h2
      walk_at "rd"
      generalize eG3 : upd _ _ _ = G3
      obtain ⟨g3, h3⟩ := gen_st eG3
      clear eG3
      try simp only [pf_Settings_0, pf_Settings_1, pf_Settings_2, pf_Settings_3, pf_Settings_4, pf_Settings_5, pf_Packing_0, pf_Packing_1, pf_Packing_2, pf_Packing_3, pf_Packing_4, pf_Packing_5] at h3
      walk_at "rd"
      generalize eG4 : upd _ _ _ = G4
      obtain ⟨g4, h4⟩ := gen_st eG4
      clear eG4
      try simp only [pf_Settings_0, pf_Settings_1, pf_Settings_2, pf_Settings_3, pf_Settings_4, pf_Settings_5, pf_Packing_0, pf_Packing_1, pf_Packing_2, pf_Packing_3, pf_Packing_4, pf_Packing_5] at h4
      walk_at "rd"
      generalize eG5 : upd _ _ _ = G5
      obtain ⟨g5, h5⟩ := gen_st eG5
      clear eG5
      try simp only [pf_Settings_0, pf_Settings_1, pf_Settings_2, pf_Settings_3, pf_Settings_4, pf_Settings_5, pf_Packing_0, pf_Packing_1, pf_Packing_2, pf_Packing_3, pf_Packing_4, pf_Packing_5] at h5
      walk_at "rd"
      generalize eG6 : upd _ _ _ = G6
      obtain ⟨g6, h6⟩ := gen_st eG6
      clear eG6
      try simp only [pf_Settings_0, pf_Settings_1, pf_Settings_2, pf_Settings_3, pf_Settings_4, pf_Settings_5, pf_Packing_0, pf_Packing_1, pf_Packing_2, pf_Packing_3, pf_Packing_4, pf_Packing_5] at h6
      refine k G6 ((((((g0.sb.trans g1).trans g2).trans g3).trans g4).trans g5).trans g6) ⟨dx, t, ?_, (((((g1.trans g2).trans g3).trans g4).trans g5).trans g6) _ _ nta ht⟩
      exact h6

/-! ### how rows stand on pages: the numbers -/
def lenAt (p : Prt) (r : Nat) : Int := p.lens.getD (r % p.lens.length) 0
def usum (p : Prt) (r : Nat) : Nat → Int
  | 0 => 0
  | k + 1 => usum p r k + lenAt p (r + k)
theorem lenAt_ok {p : Prt} (ok : p.Ok) (r : Nat) : 1 ≤ lenAt p r ∧ lenAt p r ≤ p.size := by
  have h : r % p.lens.length < p.lens.length := Nat.mod_lt _ ok.l0
  unfold lenAt
  rw [List.getD_eq_getElem?_getD, List.getElem?_eq_getElem h]
  exact ok.le _ (List.getElem_mem h)
theorem usum_ge {p : Prt} (ok : p.Ok) (r : Nat) : ∀ k : Nat, (k : Int) ≤ usum p r k
  | 0 => by simp [usum]
  | k + 1 => by
    have h := usum_ge ok r k
    have h2 := (lenAt_ok ok (r + k)).1
    simp only [usum]
    omega
theorem usum_mono {p : Prt} (ok : p.Ok) (r : Nat) {j k : Nat} (h : j ≤ k) : usum p r j ≤ usum p r k := by
  induction k with
  | zero => have : j = 0 := by omega
            subst this; exact Int.le_refl _
  | succ k ih =>
    by_cases e : j = k + 1
    · subst e; exact Int.le_refl _
    · have h2 := (lenAt_ok ok (r + k)).1
      have h3 := ih (by omega)
      simp only [usum]
      omega
/-- so many rows fit on a page that begins with row r -/
def Fits (p : Prt) (r k : Nat) : Prop := usum p r k ≤ p.size ∧ p.size < usum p r (k + 1)
theorem Fits.uniq {p : Prt} (ok : p.Ok) {r j k : Nat} (a : Fits p r j) (b : Fits p r k) : j = k := by
  by_cases h : j < k
  · have := usum_mono ok r (show j + 1 ≤ k by omega)
    have := a.2; have := b.1; omega
  · by_cases h2 : k < j
    · have := usum_mono ok r (show k + 1 ≤ j by omega)
      have := b.2; have := a.1; omega
    · omega
theorem Fits.le {p : Prt} (ok : p.Ok) {r k : Nat} (a : Fits p r k) : k ≤ 64 := by
  have h1 := usum_ge ok r k
  have h2 := a.1
  have h3 := ok.s1
  omega
theorem Fits.pos {p : Prt} (ok : p.Ok) {r k : Nat} (a : Fits p r k) : 1 ≤ k := by
  match k, a with
  | 0, a =>
    have h := a.2
    simp only [usum] at h
    have := (lenAt_ok ok (r + 0)).2
    omega
  | k + 1, _ => omega
theorem fits_ex {p : Prt} (ok : p.Ok) (r : Nat) : ∃ k, Fits p r k := by
  have key : ∀ n : Nat, (∃ k, Fits p r k) ∨ usum p r n ≤ p.size := by
    intro n
    induction n with
    | zero => right; simp only [usum]; have := ok.s0; omega
    | succ n ih =>
      rcases ih with h | h
      · exact .inl h
      · by_cases e : usum p r (n + 1) ≤ p.size
        · exact .inr e
        · exact .inl ⟨n, h, by omega⟩
  rcases key 65 with h | h
  · exact h
  · have h1 := usum_ge ok r 65
    have h3 := ok.s1
    omega
/-- how many rows a page that begins with row r gets -/
noncomputable def rowsF (p : Prt) (r : Nat) : Nat := open Classical in if h : ∃ k, Fits p r k then h.choose else 1
theorem rowsF_ok {p : Prt} (ok : p.Ok) (r : Nat) : Fits p r (rowsF p r) := by
  unfold rowsF
  rw [dif_pos (fits_ex ok r)]
  exact (fits_ex ok r).choose_spec
theorem rowsF_eq {p : Prt} (ok : p.Ok) {r k : Nat} (h : Fits p r k) : rowsF p r = k := (rowsF_ok ok r).uniq ok h
theorem rowsF_le {p : Prt} (ok : p.Ok) (r : Nat) : rowsF p r ≤ 64 := (rowsF_ok ok r).le ok
theorem rowsF_pos {p : Prt} (ok : p.Ok) (r : Nat) : 1 ≤ rowsF p r := (rowsF_ok ok r).pos ok
theorem lenAt_mod {p : Prt} {r q : Nat} (h : r % p.lens.length = q % p.lens.length) (i : Nat) : lenAt p (r + i) = lenAt p (q + i) := by
  unfold lenAt
  rw [Nat.add_mod, h, ← Nat.add_mod]
theorem usum_mod {p : Prt} {r q : Nat} (h : r % p.lens.length = q % p.lens.length) : ∀ k, usum p r k = usum p q k
  | 0 => rfl
  | k + 1 => by simp only [usum]; rw [usum_mod h k, lenAt_mod h]
theorem rowsF_mod {p : Prt} (ok : p.Ok) {r q : Nat} (h : r % p.lens.length = q % p.lens.length) : rowsF p r = rowsF p q := by
  refine rowsF_eq ok ?_
  have := rowsF_ok ok q
  unfold Fits at this ⊢
  rw [usum_mod h, usum_mod h]
  exact this
/-- the first row of heap page n -/
noncomputable def startN (p : Prt) : Nat → Nat
  | 0 => 0
  | n + 1 => startN p n + rowsF p (startN p n)
/-! ### the cycle -/
theorem pigeon : ∀ (L n : Nat) (f : Nat → Nat), (∀ i, i < n → f i < L) → (∀ i j, i < j → j < n → f i ≠ f j) → n ≤ L
  | 0, n, f, h, _ => by
    match n with
    | 0 => exact Nat.le_refl 0
    | n + 1 => exact absurd (h 0 (by omega)) (by omega)
  | L + 1, 0, f, _, _ => Nat.zero_le _
  | L + 1, m + 1, f, h, inj => by
    have key := pigeon L m (fun i => if f i = L then f m else f i) (fun i hi => by
      have h1 := h i (by omega)
      have h2 := h m (by omega)
      have h3 := inj i m hi (by omega)
      show (if f i = L then f m else f i) < L
      split <;> omega) (fun i j hij hj => by
      have h3 := inj i j hij (by omega)
      have h4 := inj i m (by omega) (by omega)
      have h5 := inj j m hj (by omega)
      show (if f i = L then f m else f i) ≠ (if f j = L then f m else f j)
      split <;> split <;> omega)
    omega
noncomputable def resN (p : Prt) (n : Nat) : Nat := startN p n % p.lens.length
theorem resN_lt {p : Prt} (ok : p.Ok) (n : Nat) : resN p n < p.lens.length := Nat.mod_lt _ ok.l0
structure Cyc (p : Prt) (first pages : Nat) : Prop where
  pos : 0 < pages
  eq : resN p (first + pages) = resN p first
  inj : ∀ i j, i < j → j < first + pages → resN p i ≠ resN p j
theorem Cyc.le {p : Prt} (ok : p.Ok) {first pages : Nat} (c : Cyc p first pages) : first + pages ≤ 6 :=
  Nat.le_trans (pigeon p.lens.length (first + pages) (resN p) (fun i _ => resN_lt ok i) c.inj) ok.l1
noncomputable def stL (p : Prt) (n : Nat) : List V := (List.range (n + 1)).map fun j => V.int (startN p j)
theorem stL_succ (p : Prt) (n : Nat) : stL p (n + 1) = stL p n ++ [.int (startN p (n + 1))] := by
  unfold stL
  rw [List.range_succ, List.map_append]
  rfl
theorem stL_len (p : Prt) (n : Nat) : (stL p n).length = n + 1 := by unfold stL; rw [List.length_map, List.length_range]
theorem stL_get (p : Prt) {n j : Nat} (h : j ≤ n) : (stL p n)[j]? = some (.int (startN p j)) := by
  unfold stL
  rw [List.getElem?_map, List.getElem?_range (by omega)]
  rfl
theorem stL_last (p : Prt) (n : Nat) : atI (stL p n) (-1) = some (.int (startN p n)) := by
  match n with
  | 0 => exact atI_last [] _
  | n + 1 => rw [stL_succ]; exact atI_last _ _
/-- what the seen places' dict holds -/
def Seen (p : Prt) (n : Nat) (kvs : List (Key × V)) : Prop := kvs.length ≤ n ∧ (∀ j, j < n → valV kvs (.inl (resN p j : Int)) = some (.int j)) ∧ ∀ k : Int, valV kvs (.inl k) ≠ none → ∃ j, j < n ∧ k = (resN p j : Int)
theorem Seen.put {p : Prt} {n : Nat} {kvs : List (Key × V)} (s : Seen p n kvs) (h : valV kvs (.inl (resN p n : Int)) = none) : Seen p (n + 1) (putK kvs (.inl (resN p n : Int)) (.int n)) := by
  obtain ⟨s1, s2, s3⟩ := s
  refine ⟨Nat.le_trans (length_putK _ _ _) (by omega), fun j hj => ?_, fun k hk => ?_⟩
  · rw [valV_put]
    by_cases e : (Sum.inl (resN p j : Int) : Key) = Sum.inl (resN p n : Int)
    · rw [if_pos e]
      by_cases hjn : j = n
      · subst hjn; rfl
      · have := s2 j (by omega)
        rw [e, h] at this
        cases this
    · rw [if_neg e]
      have hjn : j ≠ n := fun z => e (by rw [z])
      exact s2 j (by omega)
  · rw [valV_put] at hk
    by_cases e : (Sum.inl k : Key) = Sum.inl (resN p n : Int)
    · exact ⟨n, by omega, Sum.inl.inj e⟩
    · rw [if_neg e] at hk
      obtain ⟨j, hj, ej⟩ := s3 k hk
      exact ⟨j, by omega, ej⟩
theorem at_len {p : Prt} (ok : p.Ok) (r : Nat) : atI (p.lens.map V.int) ((r : Int) % ((p.lens.map V.int).length : Int)) = some (.int (lenAt p r)) := by
  have hlt : r % p.lens.length < p.lens.length := Nat.mod_lt _ ok.l0
  refine atI_int (j := r % p.lens.length) ?_ ?_
  · rw [List.length_map]
    exact (Int.natCast_emod r p.lens.length).symm
  · rw [List.getElem?_map, List.getElem?_eq_getElem hlt]
    unfold lenAt
    rw [List.getD_eq_getElem?_getD, List.getElem?_eq_getElem hlt]
    rfl
theorem mlen0 {p : Prt} (ok : p.Ok) : (0 : Int) < ((p.lens.map V.int).length : Int) := by rw [List.length_map]; have := ok.l0; omega
theorem res_step {p : Prt} (ok : p.Ok) {i j : Nat} (h : resN p i = resN p j) : resN p (i + 1) = resN p (j + 1) := by
  unfold resN at h ⊢
  simp only [startN]
  rw [rowsF_mod ok h, Nat.add_mod, h, ← Nat.add_mod]
theorem res_add {p : Prt} (ok : p.Ok) {i j : Nat} (h : resN p i = resN p j) : ∀ k, resN p (i + k) = resN p (j + k)
  | 0 => h
  | k + 1 => res_step ok (res_add ok h k)
theorem Cyc.per {p : Prt} (ok : p.Ok) {first pages : Nat} (c : Cyc p first pages) {n : Nat} (h : first ≤ n) : resN p (n + pages) = resN p n := by
  have e := res_add ok c.eq (n - first)
  have e1 : first + pages + (n - first) = n + pages := by omega
  have e2 : first + (n - first) = n := by omega
  rw [e1, e2] at e
  exact e
theorem Cyc.red {p : Prt} (ok : p.Ok) {first pages : Nat} (c : Cyc p first pages) : ∀ n, first ≤ n → ∃ r, first ≤ r ∧ r < first + pages ∧ resN p n = resN p r := by
  intro n
  induction n using Nat.strongRecOn with
  | ind n ih =>
    intro h
    by_cases hl : n < first + pages
    · exact ⟨n, h, hl, rfl⟩
    · have hp := c.pos
      obtain ⟨r, h1, h2, h3⟩ := ih (n - pages) (by omega) (by omega)
      refine ⟨r, h1, h2, ?_⟩
      have := c.per ok (n := n - pages) (by omega)
      rw [show n - pages + pages = n by omega] at this
      rw [this, h3]
theorem Cyc.before {p : Prt} (ok : p.Ok) {first pages : Nat} (c : Cyc p first pages) {f g : Nat} (h : f < first) (hg : 1 ≤ g) : resN p f ≠ resN p (f + g) := by
  by_cases hl : f + g < first + pages
  · exact c.inj f (f + g) (by omega) hl
  · obtain ⟨r, h1, h2, h3⟩ := c.red ok (f + g) (by have := c.pos; omega)
    rw [h3]
    exact c.inj f r (by omega) h2
theorem Cyc.less {p : Prt} {first pages : Nat} (c : Cyc p first pages) {g : Nat} (hg : 1 ≤ g) (h : g < pages) : resN p first ≠ resN p (first + g) := c.inj _ _ (by omega) (by omega)
/-! ### far pages -/
theorem start_lt {p : Prt} (ok : p.Ok) (n : Nat) : startN p n < startN p (n + 1) := by
  have := rowsF_pos ok (startN p n)
  simp only [startN]
  omega
theorem start_mono {p : Prt} (ok : p.Ok) {m n : Nat} (h : m ≤ n) : startN p m ≤ startN p n := by
  induction n with
  | zero => have : m = 0 := by omega
            subst this; exact Nat.le_refl _
  | succ n ih =>
    by_cases e : m = n + 1
    · subst e; exact Nat.le_refl _
    · exact Nat.le_trans (ih (by omega)) (Nat.le_of_lt (start_lt ok n))
theorem start_ge {p : Prt} (ok : p.Ok) : ∀ n : Nat, n ≤ startN p n
  | 0 => Nat.zero_le _
  | n + 1 => by have := start_ge ok n; have := start_lt ok n; omega
noncomputable def rowsC (p : Prt) (first pages : Nat) : Nat := startN p (first + pages) - startN p first
theorem rowsC_pos {p : Prt} (ok : p.Ok) {first pages : Nat} (c : Cyc p first pages) : 0 < rowsC p first pages := by
  have h1 := start_lt ok first
  have h2 := start_mono ok (show first + 1 ≤ first + pages by have := c.pos; omega)
  unfold rowsC
  omega
theorem start_le {p : Prt} (ok : p.Ok) : ∀ n, startN p n ≤ 64 * n
  | 0 => Nat.le_refl _
  | n + 1 => by have := start_le ok n; have := rowsF_le ok (startN p n); simp only [startN]; omega
theorem rowsC_le {p : Prt} (ok : p.Ok) {first pages : Nat} (c : Cyc p first pages) : rowsC p first pages ≤ 384 := by
  have h1 := start_le ok (first + pages)
  have h2 := c.le ok
  unfold rowsC
  omega
theorem start_per {p : Prt} (ok : p.Ok) {first pages : Nat} (c : Cyc p first pages) {n : Nat} (h : first ≤ n) : startN p (n + pages) = startN p n + rowsC p first pages := by
  have key : ∀ k, startN p (first + k + pages) = startN p (first + k) + rowsC p first pages := by
    intro k
    induction k with
    | zero =>
      have := start_mono ok (show first ≤ first + pages by omega)
      show startN p (first + pages) = startN p first + (startN p (first + pages) - startN p first)
      omega
    | succ k ih =>
      have e : rowsF p (startN p (first + k + pages)) = rowsF p (startN p (first + k)) := rowsF_mod ok (c.per ok (n := first + k) (by omega))
      have e1 : first + (k + 1) + pages = (first + k + pages) + 1 := by omega
      rw [e1]
      simp only [startN]
      rw [e, ih]
      show startN p (first + k) + rowsC p first pages + rowsF p (startN p (first + k)) = startN p (first + k) + rowsF p (startN p (first + k)) + rowsC p first pages
      omega
  have := key (n - first)
  rw [show first + (n - first) = n by omega] at this
  exact this
theorem start_times {p : Prt} (ok : p.Ok) {first pages : Nat} (c : Cyc p first pages) {n : Nat} (h : first ≤ n) : ∀ t, startN p (n + t * pages) = startN p n + t * rowsC p first pages
  | 0 => by simp
  | t + 1 => by
    have e : n + (t + 1) * pages = n + t * pages + pages := by rw [Nat.succ_mul]; omega
    rw [e, start_per ok c (by omega), start_times ok c h t, Nat.succ_mul]
    omega
/-- row r stands on page n -/
def On (p : Prt) (r n : Nat) : Prop := startN p n ≤ r ∧ r < startN p (n + 1)
theorem On.uniq {p : Prt} (ok : p.Ok) {r m n : Nat} (a : On p r m) (b : On p r n) : m = n := by
  by_cases h : m < n
  · have := start_mono ok (show m + 1 ≤ n by omega)
    have := a.2; have := b.1; omega
  · by_cases h2 : n < m
    · have := start_mono ok (show n + 1 ≤ m by omega)
      have := b.2; have := a.1; omega
    · omega
theorem On.le {p : Prt} (ok : p.Ok) {r n : Nat} (a : On p r n) : n ≤ r := Nat.le_trans (start_ge ok n) a.1
def pkMeths : List Str := ["length", "rows_from", "start", "holder", "check_page", "units_of", "first_row", "page_of", "rows_on", "units_on", "units_left", "begun", "cycle"]
/-- a Packing, as far as its first fields go -/
structure PkB (K : PySem.W.Frag) (H : Hp) (a : Addr) (p : Prt) (dx : Addr) (fs : List (Str × V)) (t : Addr) : Prop where
  h : H a = some (.ins (He.ga K "Packing") dx fs)
  l : fs.lookup ("row_lengths" : Str) = some (V.ref t)
  r : fs.lookup ("room" : Str) = some (V.int p.size)
  m : ∀ x ∈ pkMeths, fs.lookup x = none
  t : H t = some (.tup (p.lens.map V.int))
def PkBase (K : PySem.W.Frag) (H : Hp) (a : Addr) (p : Prt) : Prop := ∃ dx fs t, PkB K H a p dx fs t
theorem PkBase.same {K : PySem.W.Frag} {H H' : Hp} {a : Addr} {p : Prt} (h : PkBase K H a p) (s : Same H H') : PkBase K H' a p := let ⟨dx, fs, t, b⟩ := h; ⟨dx, fs, t, s _ _ b.h, b.l, b.r, b.m, s _ _ b.t⟩
@[irreducible] def sp_Packing_length (K : PySem.W.Frag) : Sp := fun vs H Q _ => ∃ (a : Addr) (p : Prt) (r : Nat), vs = [.ref a, .int r] ∧ PkBase K H a p ∧ p.Ok ∧ Q (.int (lenAt p r)) H
theorem use_length {K : PySem.W.Frag} {a : Addr} {p : Prt} {r : Nat} {H : Hp} {Q : VK} {E : XK} {i : Int} (hi : i = (r : Int)) (b : PkBase K H a p) (ok : p.Ok) (q : Q (.int (lenAt p r)) H) : sp_Packing_length K [.ref a, .int i] H Q E := by
  subst hi; unfold sp_Packing_length; exact ⟨a, p, r, rfl, b, ok, q⟩
theorem b_Packing_length {K : PySem.W.Frag} {fd : FuncData} (F : F_Packing_length K fd) : Binds K fd P_Packing_length [] := FunD.bindsN F fun _ _ _ _ _ _ us hl => match us, hl with | [_, _], _ => rfl
theorem ok_Packing_length (T : Txt K mg D) : FnOk P w K mg base CX0 1 (He.fAd K ("Packing", some "length")) (D D_Packing_length) P_Packing_length (sp_Packing_length K) := by
  refine T.d_Packing_length.ok sc_Packing_length (fun vs H Q E h => ?_) (fun cdv A outer s H vs Q E hr h => ?_)
  · unfold sp_Packing_length at h
    first | (obtain ⟨rfl, _⟩ := h; rfl) | (obtain ⟨_, rfl, _⟩ := h; rfl) | (obtain ⟨_, _, rfl, _⟩ := h; rfl) | (obtain ⟨_, _, _, rfl, _⟩ := h; rfl) | (obtain ⟨_, _, _, _, rfl, _⟩ := h; rfl) | (obtain ⟨_, _, _, _, _, rfl, _⟩ := h; rfl) | (obtain ⟨_, _, _, _, _, _, rfl, _⟩ := h; rfl) | (obtain ⟨_, _, _, _, _, _, _, rfl, _⟩ := h; rfl) | (obtain ⟨_, _, _, _, _, _, _, _, rfl, _⟩ := h; rfl) | (obtain ⟨_, _, _, _, _, _, _, _, _, rfl, _⟩ := h; rfl) | (obtain ⟨_, _, _, _, _, _, _, _, _, _, rfl, _⟩ := h; rfl) | (obtain ⟨_, _, _, _, _, _, _, _, _, _, _, rfl, _⟩ := h; rfl)
  · refine ⟨_, PSs.nox (pss_one (ps_ret (pe_ix (ix_tupK (K := K)) (pe_fldK (K := K) (pv 0) rfl) (pe_op op_mod (pv 1) (pe_callB (call_lenK (K := K)) (by rfl) T.n_len (by decide +kernel) (pa_cons (pe_fldK (K := K) (pv 0) rfl) pa_nil))) (fun _ _ => rfl)))), ?_⟩
    unfold sp_Packing_length at h
    obtain ⟨a, p, r, rfl, ⟨dx, fs, t, hb⟩, ok, q⟩ := h
    have h1 := hb.h
    have h2 := hb.l
    have h3 := hb.t
    have hl := ok.l0
    walk_at "rd"
    refine ⟨(by show (0 : Int) < ((p.lens.map V.int).length : Nat); rw [List.length_map]; omega), ?_⟩
    have hlt : r % p.lens.length < p.lens.length := Nat.mod_lt _ hl
    refine ⟨_, _, _, .int (lenAt p r), rfl, rfl, SqT.of h3, atI_int (j := r % p.lens.length) ?_ ?_, q⟩
    · rw [List.length_map]
      exact (Int.natCast_emod r p.lens.length).symm
    · rw [List.getElem?_map, List.getElem?_eq_getElem hlt]
      unfold lenAt
      rw [List.getD_eq_getElem?_getD, List.getElem?_eq_getElem hlt]
      rfl

@[irreducible] def sp_Packing_rows_from (K : PySem.W.Frag) : Sp := fun vs H Q _ => ∃ (a : Addr) (p : Prt) (r : Nat), vs = [.ref a, .int r] ∧ PkBase K H a p ∧ p.Ok ∧ ∀ H', Same H H' → Q (.int (rowsF p r)) H'
theorem use_rows_from {K : PySem.W.Frag} {a : Addr} {p : Prt} {r : Nat} {H : Hp} {Q : VK} {E : XK} {i : Int} (hi : i = (r : Int)) (b : PkBase K H a p) (ok : p.Ok) (q : ∀ H', Same H H' → Q (.int (rowsF p r)) H') : sp_Packing_rows_from K [.ref a, .int i] H Q E := by
  subst hi; unfold sp_Packing_rows_from; exact ⟨a, p, r, rfl, b, ok, q⟩
theorem b_Packing_rows_from {K : PySem.W.Frag} {fd : FuncData} (F : F_Packing_rows_from K fd) : Binds K fd P_Packing_rows_from [] := FunD.bindsN F fun _ _ _ _ _ _ us hl => match us, hl with | [_, _], _ => rfl
theorem ok_Packing_rows_from (T : Txt K mg D) : FnOk P w K mg base CX0 2 (He.fAd K ("Packing", some "rows_from")) (D D_Packing_rows_from) P_Packing_rows_from (sp_Packing_rows_from K) := by
  refine T.d_Packing_rows_from.ok sc_Packing_rows_from (fun vs H Q E h => ?_) (fun cdv A outer s H vs Q E hr h => ?_)
  · unfold sp_Packing_rows_from at h
    first | (obtain ⟨rfl, _⟩ := h; rfl) | (obtain ⟨_, rfl, _⟩ := h; rfl) | (obtain ⟨_, _, rfl, _⟩ := h; rfl) | (obtain ⟨_, _, _, rfl, _⟩ := h; rfl) | (obtain ⟨_, _, _, _, rfl, _⟩ := h; rfl) | (obtain ⟨_, _, _, _, _, rfl, _⟩ := h; rfl) | (obtain ⟨_, _, _, _, _, _, rfl, _⟩ := h; rfl) | (obtain ⟨_, _, _, _, _, _, _, rfl, _⟩ := h; rfl) | (obtain ⟨_, _, _, _, _, _, _, _, rfl, _⟩ := h; rfl) | (obtain ⟨_, _, _, _, _, _, _, _, _, rfl, _⟩ := h; rfl) | (obtain ⟨_, _, _, _, _, _, _, _, _, _, rfl, _⟩ := h; rfl) | (obtain ⟨_, _, _, _, _, _, _, _, _, _, _, rfl, _⟩ := h; rfl)
  · refine ⟨_, PSs.nox (pss_cons (ps_asg (pe_tup (pa_cons pe_int (pa_cons pe_int pa_nil))) (pg_tup rfl (pgs_cons (pg_name (i := 2) sc_Packing_rows_from.nd rfl (Or.inl rfl)) (pgs_cons (pg_name (i := 3) sc_Packing_rows_from.nd rfl (Or.inl rfl)) pgs_nil))))
      (pss_cons (ps_while PassesOwn.never (pt_cmpR op_le (pe_op op_add (pv 3) (pe_meth (pv 0) T.c_Packing T.m_Packing_length (ok_Packing_length T) (hr.mono (by decide)) (b_Packing_length T.d_Packing_length) .nil pass0 (pa_cons (pe_op op_add (pv 1) (pv 2)) pa_nil))) (pe_fldK (K := K) (pv 0) rfl) (nomark _)) (pss_cons (ps_aug (i := 3) sc_Packing_rows_from.nd rfl (Or.inl rfl) (pe_meth (pv 0) T.c_Packing T.m_Packing_length (ok_Packing_length T) (hr.mono (by decide)) (b_Packing_length T.d_Packing_length) .nil pass0 (pa_cons (pe_op op_add (pv 1) (pv 2)) pa_nil)) ip_add)
      (pss_one (ps_aug (i := 2) sc_Packing_rows_from.nd rfl (Or.inl rfl) pe_int ip_add))))
      (pss_one (ps_ret (pv 2))))), ?_⟩
    unfold sp_Packing_rows_from at h
    obtain ⟨a, p, r, rfl, b, ok, q⟩ := h
    obtain ⟨dx, fs, t, hb⟩ := id b
    have h1 := hb.h
    have h2 := hb.r
    have h3 := hb.m "length" (by decide)
    walk_at "rd"
    intro t0 n0
    generalize eH0 : upd _ t0 _ = H0
    obtain ⟨s0, ht0⟩ := gen_new n0 eH0
    clear eH0
    have h1 := s0 _ _ h1
    have b := b.same s0
    have q : Q (.int (rowsF p r)) H0 := q H0 s0
    walk_at "rd"
    refine ⟨fun m σ H' => ∃ k : Nat, H' = H0 ∧ σ = [some (.ref a), some (.int r), some (.int k), some (.int (usum p r k))] ∧ usum p r k ≤ p.size ∧ m = 65 - k, ⟨65, 0, rfl, rfl, by simp only [usum]; have := ok.s0; omega, rfl⟩, ?_⟩
    rintro m σ H' ⟨k, rfl, rfl, hk, rfl⟩
    walk_at "rd"
    refine use_length (r := r + k) (by omega) b ok ?_
    walk_at "rd"
    refine iteB (fun c => ?_) (fun c => ?_)
    · have c := of_decide_eq_true c
      have hk2 : usum p r (k + 1) ≤ p.size := c
      have hk3 := usum_ge ok r (k + 1)
      have hs := ok.s1
      refine ⟨fun σ' H'' => ∃ m', m' < 65 - k ∧ ∃ k : Nat, H'' = H' ∧ σ' = [some (.ref a), some (.int r), some (.int k), some (.int (usum p r k))] ∧ usum p r k ≤ p.size ∧ m' = 65 - k, fun _ _ h => h, ?_⟩
      walk_at "rd"
      refine use_length (r := r + k) (by omega) b ok ?_
      walk_at "rd"
      exact ⟨65 - (k + 1), by omega, k + 1, rfl, rfl, hk2, rfl⟩
    · have c := of_decide_eq_false c
      walk_at "rd"
      have e : rowsF p r = k := rowsF_eq ok ⟨hk, by simp only [usum]; omega⟩
      rw [e] at q
      exact q

@[irreducible] def sp_check_settings (K : PySem.W.Frag) : Sp := fun vs H Q _ => ∃ (a dx : Addr) (fs : List (Str × V)), vs = [.ref a] ∧ H a = some (.ins (He.ga K "Settings") dx fs) ∧ Q .non H
theorem use_check_settings {K : PySem.W.Frag} {a dx : Addr} {fs : List (Str × V)} {H : Hp} {Q : VK} {E : XK} (h : H a = some (.ins (He.ga K "Settings") dx fs)) (q : Q .non H) : sp_check_settings K [.ref a] H Q E := by
  unfold sp_check_settings; exact ⟨a, dx, fs, rfl, h, q⟩
theorem b_check_settings {K : PySem.W.Frag} {fd : FuncData} (F : F_check_settings K fd) : Binds K fd P_check_settings [] := FunD.bindsN F fun _ _ _ _ _ _ us hl => match us, hl with | [_], _ => rfl
theorem ok_check_settings (T : Txt K mg D) : FnOk P w K mg base CX0 1 (He.fAd K ("check_settings", none)) (D D_check_settings) P_check_settings (sp_check_settings K) := by
  refine T.d_check_settings.ok sc_check_settings (fun vs H Q E h => ?_) (fun cdv A outer s H vs Q E hr h => ?_)
  · unfold sp_check_settings at h
    first | (obtain ⟨rfl, _⟩ := h; rfl) | (obtain ⟨_, rfl, _⟩ := h; rfl) | (obtain ⟨_, _, rfl, _⟩ := h; rfl) | (obtain ⟨_, _, _, rfl, _⟩ := h; rfl) | (obtain ⟨_, _, _, _, rfl, _⟩ := h; rfl) | (obtain ⟨_, _, _, _, _, rfl, _⟩ := h; rfl) | (obtain ⟨_, _, _, _, _, _, rfl, _⟩ := h; rfl) | (obtain ⟨_, _, _, _, _, _, _, rfl, _⟩ := h; rfl) | (obtain ⟨_, _, _, _, _, _, _, _, rfl, _⟩ := h; rfl) | (obtain ⟨_, _, _, _, _, _, _, _, _, rfl, _⟩ := h; rfl) | (obtain ⟨_, _, _, _, _, _, _, _, _, _, rfl, _⟩ := h; rfl) | (obtain ⟨_, _, _, _, _, _, _, _, _, _, _, rfl, _⟩ := h; rfl)
  · refine ⟨_, PSs.nox (pss_one (ps_if (pt_not (pt_val (pe_callB (call_isiK2 (K := K)) (by rfl) T.n_isinstance (by decide +kernel) (pa_cons (pv 0) (pa_cons (pe_glob (v := .ref (He.ga K "Settings")) rfl T.g_Settings rfl) pa_nil))))) (pss_one ps_never) pss_nil)), ?_⟩
    unfold sp_check_settings at h
    obtain ⟨a, dx, fs, rfl, ha, q⟩ := h
    walk_at "rd"
    refine isi_own ha T.c_Settings T.ic_Settings T.kk_Settings_Settings ?_
    walk_at "rd"
    exact q

/-- a whole Packing -/
def PkAt (K : PySem.W.Frag) (H : Hp) (a : Addr) (p : Prt) (first pages : Nat) : Prop := ∃ dx t l, H a = some (.ins (He.ga K "Packing") dx [("row_lengths", .ref t), ("room", .int p.size), ("starts", .ref l), ("first", .int first), ("pages", .int pages), ("rows", .int ((startN p (first + pages) : Int) - startN p first))]) ∧
  H t = some (.tup (p.lens.map V.int)) ∧ H l = some (.lst (stL p (first + pages)))
theorem PkAt.same {K : PySem.W.Frag} {H H' : Hp} {a : Addr} {p : Prt} {first pages : Nat} (h : PkAt K H a p first pages) (s : Same H H') : PkAt K H' a p first pages := let ⟨dx, t, l, h1, h2, h3⟩ := h; ⟨dx, t, l, s _ _ h1, s _ _ h2, s _ _ h3⟩
@[irreducible] def sp_Packing_init (K : PySem.W.Frag) : Sp := fun vs H Q _ => ∃ (a dx b : Addr) (p : Prt), vs = [.ref a, .ref b] ∧ H a = some (.ins (He.ga K "Packing") dx []) ∧ SetAt K H b p ∧ p.Ok ∧
  ∀ H' first pages, SB a H H' → Cyc p first pages → PkAt K H' a p first pages → (∀ s xs H'', H s = some (.lst xs) → SB s H' H'' → PkAt K H'' a p first pages) → Q .non H'
theorem use_packing_init {K : PySem.W.Frag} {a dx b : Addr} {p : Prt} {H : Hp} {Q : VK} {E : XK} (h : H a = some (.ins (He.ga K "Packing") dx [])) (hb : SetAt K H b p) (ok : p.Ok)
  (k : ∀ H' first pages, SB a H H' → Cyc p first pages → PkAt K H' a p first pages → (∀ s xs H'', H s = some (.lst xs) → SB s H' H'' → PkAt K H'' a p first pages) → Q .non H') : sp_Packing_init K [.ref a, .ref b] H Q E := by
  unfold sp_Packing_init; exact ⟨a, dx, b, p, rfl, h, hb, ok, k⟩
theorem b_Packing___init__ {K : PySem.W.Frag} {fd : FuncData} (F : F_Packing___init__ K fd) : Binds K fd P_Packing___init__ [] := FunD.bindsN F fun _ _ _ _ _ _ us hl => match us, hl with | [_, _], _ => rfl
theorem ok_Packing___init__ (T : Txt K mg D) : FnOk P w K mg base CX0 3 (He.fAd K ("Packing", some "__init__")) (D D_Packing___init__) P_Packing___init__ (sp_Packing_init K) := by
  refine T.d_Packing___init__.ok sc_Packing___init__ (fun vs H Q E h => ?_) (fun cdv A outer s H vs Q E hr h => ?_)
  · unfold sp_Packing_init at h
    first | (obtain ⟨rfl, _⟩ := h; rfl) | (obtain ⟨_, rfl, _⟩ := h; rfl) | (obtain ⟨_, _, rfl, _⟩ := h; rfl) | (obtain ⟨_, _, _, rfl, _⟩ := h; rfl) | (obtain ⟨_, _, _, _, rfl, _⟩ := h; rfl) | (obtain ⟨_, _, _, _, _, rfl, _⟩ := h; rfl) | (obtain ⟨_, _, _, _, _, _, rfl, _⟩ := h; rfl) | (obtain ⟨_, _, _, _, _, _, _, rfl, _⟩ := h; rfl) | (obtain ⟨_, _, _, _, _, _, _, _, rfl, _⟩ := h; rfl) | (obtain ⟨_, _, _, _, _, _, _, _, _, rfl, _⟩ := h; rfl) | (obtain ⟨_, _, _, _, _, _, _, _, _, _, rfl, _⟩ := h; rfl) | (obtain ⟨_, _, _, _, _, _, _, _, _, _, _, rfl, _⟩ := h; rfl)
  · refine ⟨_, PSs.nox (pss_cons (ps_expr (pe_call (ok_check_settings T) (hr.mono (by decide)) rfl T.g_check_settings T.d_check_settings.kp (b_check_settings T.d_check_settings) .nil pass0 (pa_cons (pv 1) pa_nil)))
      (pss_cons (ps_fld (pv 0) (pe_fldK (K := K) (pv 1) rfl) rfl)
      (pss_cons (ps_fld (pv 0) (pe_fldK (K := K) (pv 1) rfl) rfl)
      (pss_cons (ps_fld (pv 0) (pe_lst (pa_cons pe_int pa_nil)) rfl)
      (pss_cons (ps_set (i := 2) sc_Packing___init__.nd rfl (Or.inl rfl) pe_dnewK)
      (pss_cons (ps_while PassesOwn.never (pt_cmp (pc_dnotin (hu_of hr) (pe_op op_mod (pe_ix (ix_listK (K := K)) (pe_fldK (K := K) (pv 0) rfl) (pe_un un_neg pe_int) (fun _ _ => rfl)) (pe_callB (call_lenK (K := K)) (by rfl) T.n_len (by decide +kernel) (pa_cons (pe_fldK (K := K) (pv 0) rfl) pa_nil))) (pv 2))) (pss_cons (ps_dput (hu_of hr) (pv 2) (pe_op op_mod (pe_ix (ix_listK (K := K)) (pe_fldK (K := K) (pv 0) rfl) (pe_un un_neg pe_int) (fun _ _ => rfl)) (pe_callB (call_lenK (K := K)) (by rfl) T.n_len (by decide +kernel) (pa_cons (pe_fldK (K := K) (pv 0) rfl) pa_nil))) (pe_op op_sub (pe_callB (call_lenK (K := K)) (by rfl) T.n_len (by decide +kernel) (pa_cons (pe_fldK (K := K) (pv 0) rfl) pa_nil)) pe_int) rfl)
      (pss_one (ps_expr (pe_bm PySem.F.plainAttrs_list PySem.F.slot_list_append PySem.F.type_list_append mt_append (pe_fldK (K := K) (pv 0) rfl) (pa_cons (pe_op op_add (pe_ix (ix_listK (K := K)) (pe_fldK (K := K) (pv 0) rfl) (pe_un un_neg pe_int) (fun _ _ => rfl)) (pe_meth (pv 0) T.c_Packing T.m_Packing_rows_from (ok_Packing_rows_from T) (hr.mono (by decide)) (b_Packing_rows_from T.d_Packing_rows_from) .nil pass0 (pa_cons (pe_ix (ix_listK (K := K)) (pe_fldK (K := K) (pv 0) rfl) (pe_un un_neg pe_int) (fun _ _ => rfl)) pa_nil))) pa_nil))))))
      (pss_cons (ps_fld (pv 0) (pe_dget (hu_of hr) (pv 2) (pe_op op_mod (pe_ix (ix_listK (K := K)) (pe_fldK (K := K) (pv 0) rfl) (pe_un un_neg pe_int) (fun _ _ => rfl)) (pe_callB (call_lenK (K := K)) (by rfl) T.n_len (by decide +kernel) (pa_cons (pe_fldK (K := K) (pv 0) rfl) pa_nil))) (fun _ _ => rfl)) rfl)
      (pss_cons (ps_fld (pv 0) (pe_op op_sub (pe_op op_sub (pe_callB (call_lenK (K := K)) (by rfl) T.n_len (by decide +kernel) (pa_cons (pe_fldK (K := K) (pv 0) rfl) pa_nil)) pe_int) (pe_fldK (K := K) (pv 0) rfl)) rfl)
      (pss_one (ps_fld (pv 0) (pe_op op_sub (pe_ix (ix_listK (K := K)) (pe_fldK (K := K) (pv 0) rfl) (pe_un un_neg pe_int) (fun _ _ => rfl)) (pe_ix (ix_listK (K := K)) (pe_fldK (K := K) (pv 0) rfl) (pe_fldK (K := K) (pv 0) rfl) (fun _ _ => rfl))) rfl)))))))))), ?_⟩
    unfold sp_Packing_init at h
    obtain ⟨a, dx, b, p, rfl, ha, ⟨dy, t, hb, ht⟩, ok, k⟩ := h
    have l0 := ok.l0
    have l1 := ok.l1
    have nab : a ≠ b := ne_of ha hb (by intro z; injection z with _ _ z3; cases z3)
    have nat : t ≠ a := ne_of ht ha (by intro z; cases z)
    walk_at "rd"
    refine use_check_settings hb ?_
    walk_at "rd"
    generalize eG1 : upd _ _ _ = G1
    obtain ⟨g1, h1⟩ := gen_st eG1
    clear eG1
    try simp only [pf_Settings_0, pf_Settings_1, pf_Settings_2, pf_Settings_3, pf_Settings_4, pf_Settings_5, pf_Packing_0, pf_Packing_1, pf_Packing_2, pf_Packing_3, pf_Packing_4, pf_Packing_5] at h1
    have hb1 := g1 _ _ nab.symm hb
    walk_at "rd"
    generalize eG2 : upd _ _ _ = G2
    obtain ⟨g2, h2⟩ := gen_st eG2
    clear eG2
    try simp only [pf_Settings_0, pf_Settings_1, pf_Settings_2, pf_Settings_3, pf_Settings_4, pf_Settings_5, pf_Packing_0, pf_Packing_1, pf_Packing_2, pf_Packing_3, pf_Packing_4, pf_Packing_5] at h2
    walk_at "rd"
    intro l n3
    generalize eG3 : upd _ l _ = G3
    obtain ⟨g3, h3⟩ := gen_new n3 eG3
    clear eG3
    have h23 := g3 _ _ h2
    have nla : l ≠ a := (ne_of_none h2 n3).symm
    walk_at "rd"
    generalize eG4 : upd _ _ _ = G4
    obtain ⟨g4, h4⟩ := gen_st eG4
    clear eG4
    try simp only [pf_Settings_0, pf_Settings_1, pf_Settings_2, pf_Settings_3, pf_Settings_4, pf_Settings_5, pf_Packing_0, pf_Packing_1, pf_Packing_2, pf_Packing_3, pf_Packing_4, pf_Packing_5] at h4
    have h34 := g4 _ _ nla h3
    walk_at "rd"
    intro d n5
    generalize eG5 : upd _ d _ = G5
    obtain ⟨g5, h5⟩ := gen_new n5 eG5
    clear eG5
    have h45 := g5 _ _ h4
    have h35 := g5 _ _ h34
    have nda : d ≠ a := (ne_of_none h4 n5).symm
    have ndl : d ≠ l := (ne_of_none h34 n5).symm
    have ht5 := g5 _ _ (g4 _ _ nat (g3 _ _ (g2 _ _ nat (g1 _ _ nat ht))))
    have ntl : t ≠ l := ne_of ht5 h35 (by intro z; cases z)
    have ntd : t ≠ d := ne_of ht5 h5 (by intro z; cases z)
    have fro : ∀ H', SX [l, d] G5 H' → H' a = some (.ins (He.ga K "Packing") dx [(("row_lengths" : Str), V.ref t), (("room" : Str), V.int p.size), (("starts" : Str), V.ref l)]) ∧ H' t = some (.tup (p.lens.map V.int)) := fun H' f => ⟨f _ _ (by simp [nla.symm, nda.symm]) h45, f _ _ (by simp [ntl, ntd]) ht5⟩
    walk_at "rd"
    refine ⟨fun m σ H' => ∃ (n : Nat) (kvs : List (Key × V)), σ = [some (.ref a), some (.ref b), some (.ref d)] ∧ SX [l, d] G5 H' ∧ H' l = some (.lst (stL p n)) ∧ H' d = some (.dK kvs) ∧ Seen p n kvs ∧
      (∀ i j, i < j → j < n → resN p i ≠ resN p j) ∧ n ≤ 6 ∧ m = 7 - n, ⟨7, 0, [], rfl, SX.refl, h35, h5, ⟨Nat.le_refl _, fun j hj => absurd hj (by omega), fun k hk => absurd rfl hk⟩, fun i j _ hj => absurd hj (by omega), by omega, rfl⟩, ?_⟩
    rintro m σ H' ⟨n, kvs, rfl, fx, hl, hd, hs, inj, hn, rfl⟩
    obtain ⟨ha', ht'⟩ := fro _ fx
    have base : ∀ G, Same H' G → PkBase K G a p := fun G g => ⟨dx, _, t, g _ _ ha', by kernel_rfl, by kernel_rfl, none_all (by kernel_rfl), g _ _ ht'⟩
    walk_at "rd"
    have elen : ((p.lens.map V.int).length : Int) = (p.lens.length : Int) := by rw [List.length_map]
    have eres : (startN p n : Int) % ((p.lens.map V.int).length : Int) = (resN p n : Int) := by rw [elen]; exact (Int.natCast_emod _ _).symm
    have e0 : (0 : Int) < ((p.lens.map V.int).length : Int) := by rw [elen]; omega
    refine ⟨_, _, _, _, rfl, rfl, SqL.of hl, stL_last p n, ?_⟩
    walk_at "rd"
    have hg : ∀ G, G d = some (.dK kvs) → DGet G d (.int ((startN p n : Int) % ((p.lens.map V.int).length : Int))) (valV kvs (Sum.inl (resN p n : Int))) := fun G h => by
      rw [eres]; exact DGet.k (k := Sum.inl (resN p n : Int)) h
    refine ⟨_, _, rfl, hg _ hd, ?_⟩
    walk_at "rd"
    cases hv : valV kvs (Sum.inl (resN p n : Int)) with
    | none =>
      refine iteT ?_
      have inj2 : ∀ i j, i < j → j < n + 1 → resN p i ≠ resN p j := fun i j hij hj => by
        by_cases hjn : j = n
        · subst hjn
          intro z
          have := hs.2.1 i hij
          rw [z, hv] at this
          cases this
        · exact inj i j hij (by omega)
      have hn7 : n + 1 ≤ 6 := Nat.le_trans (pigeon p.lens.length (n + 1) (resN p) (fun i _ => resN_lt ok i) inj2) ok.l1
      refine ⟨fun σ' H'' => ∃ m', m' < 7 - n ∧ ∃ (n : Nat) (kvs : List (Key × V)), σ' = [some (.ref a), some (.ref b), some (.ref d)] ∧ SX [l, d] G5 H'' ∧ H'' l = some (.lst (stL p n)) ∧ H'' d = some (.dK kvs) ∧ Seen p n kvs ∧
        (∀ i j, i < j → j < n → resN p i ≠ resN p j) ∧ n ≤ 6 ∧ m' = 7 - n, fun _ _ h => h, ?_⟩
      walk_at "rd"
      refine ⟨_, _, _, _, rfl, rfl, SqL.of hl, stL_last p n, ?_⟩
      walk_at "rd"
      have hput : DPut H' d (.int ((startN p n : Int) % ((p.lens.map V.int).length : Int))) (.int (((stL p n).length : Int) - 1)) (upd H' d (.dK (putK kvs (Sum.inl (resN p n : Int)) (.int n)))) := by
        have e2 : ((stL p n).length : Int) - 1 = (n : Int) := by rw [stL_len]; omega
        rw [eres, e2]
        exact DPut.k (k := Sum.inl (resN p n : Int)) hd (szlt (Nat.le_trans hs.1 (by omega)))
      refine ⟨_, _, rfl, hput, ?_⟩
      generalize eG7 : upd _ _ _ = G7
      obtain ⟨g7, h7⟩ := gen_st eG7
      clear eG7
      try simp only [pf_Settings_0, pf_Settings_1, pf_Settings_2, pf_Settings_3, pf_Settings_4, pf_Settings_5, pf_Packing_0, pf_Packing_1, pf_Packing_2, pf_Packing_3, pf_Packing_4, pf_Packing_5] at h7
      have hl7 := g7 _ _ ndl.symm hl
      have ha7 := g7 _ _ nda.symm ha'
      have ht7 := g7 _ _ ntd ht'
      walk_at "rd"
      refine ⟨.inl ⟨rfl, _, SqL.of hl7⟩, ?_⟩
      walk_at "rd"
      refine ⟨_, _, _, _, rfl, rfl, SqL.of hl7, stL_last p n, ?_⟩
      walk_at "rd"
      refine ⟨_, _, _, _, rfl, rfl, SqL.of hl7, stL_last p n, ?_⟩
      walk_at "rd"
      refine use_rows_from (r := startN p n) rfl ⟨dx, _, t, ha7, by kernel_rfl, by kernel_rfl, none_all (by kernel_rfl), ht7⟩ ok fun G8 g8 => ?_
      walk_at "rd"
      refine ⟨_, _, _, rfl, rfl, g8 _ _ hl7, szlt (by rw [stL_len]; omega), ?_⟩
      generalize eG9 : upd _ _ _ = G9
      obtain ⟨g9, h9⟩ := gen_st eG9
      clear eG9
      try simp only [pf_Settings_0, pf_Settings_1, pf_Settings_2, pf_Settings_3, pf_Settings_4, pf_Settings_5, pf_Packing_0, pf_Packing_1, pf_Packing_2, pf_Packing_3, pf_Packing_4, pf_Packing_5] at h9
      refine ⟨7 - (n + 1), by omega, n + 1, putK kvs (Sum.inl (resN p n : Int)) (.int n), rfl, ?_, ?_, g9 _ _ ndl (g8 _ _ h7), hs.put hv, inj2, hn7, rfl⟩
      · exact ((fx.trans (g7.sx (by simp))).trans g8.sx).trans (g9.sx (by simp))
      · rw [h9, stL_succ]
        exact congrArg (fun z => some (HO.lst (stL p n ++ [V.int z]))) (Int.natCast_add _ _).symm
    | some v =>
      refine iteF ?_
      obtain ⟨j, hj, ej⟩ := hs.2.2 (resN p n : Int) (by rw [hv]; simp)
      have hvj := hs.2.1 j hj
      have hv0 := hv
      rw [← ej, hv] at hvj
      cases hvj
      have ejn : resN p n = resN p j := by omega
      walk_at "rd"
      refine ⟨_, _, _, _, rfl, rfl, SqL.of hl, stL_last p n, ?_⟩
      walk_at "rd"
      refine ⟨_, .int j, rfl, ?_, ?_⟩
      · have := hg _ hd
        rw [hv0] at this
        exact this
      walk_at "rd"
      generalize eK1 : upd _ _ _ = K1
      obtain ⟨k1, e1⟩ := gen_st eK1
      clear eK1
      try simp only [pf_Settings_0, pf_Settings_1, pf_Settings_2, pf_Settings_3, pf_Settings_4, pf_Settings_5, pf_Packing_0, pf_Packing_1, pf_Packing_2, pf_Packing_3, pf_Packing_4, pf_Packing_5] at e1
      have hl1 := k1 _ _ nla hl
      walk_at "rd"
      generalize eK2 : upd _ _ _ = K2
      obtain ⟨k2, e2⟩ := gen_st eK2
      clear eK2
      try simp only [pf_Settings_0, pf_Settings_1, pf_Settings_2, pf_Settings_3, pf_Settings_4, pf_Settings_5, pf_Packing_0, pf_Packing_1, pf_Packing_2, pf_Packing_3, pf_Packing_4, pf_Packing_5] at e2
      have hl2 := k2 _ _ nla hl1
      walk_at "rd"
      refine ⟨_, _, _, _, rfl, rfl, SqL.of hl2, stL_last p n, ?_⟩
      walk_at "rd"
      refine ⟨_, _, _, _, rfl, rfl, SqL.of hl2, atI_int (j := j) rfl (stL_get p (show j ≤ n by omega)), ?_⟩
      walk_at "rd"
      generalize eK3 : upd _ _ _ = K3
      obtain ⟨k3, e3⟩ := gen_st eK3
      clear eK3
      try simp only [pf_Settings_0, pf_Settings_1, pf_Settings_2, pf_Settings_3, pf_Settings_4, pf_Settings_5, pf_Packing_0, pf_Packing_1, pf_Packing_2, pf_Packing_3, pf_Packing_4, pf_Packing_5] at e3
      have eN : j + (n - j) = n := by omega
      have e7 : ((stL p n).length : Int) - 1 - (j : Int) = ((n - j : Nat) : Int) := by rw [stL_len]; omega
      have q1 : K3 a = some (.ins (He.ga K "Packing") dx [("row_lengths", .ref t), ("room", .int p.size), ("starts", .ref l), ("first", .int j), ("pages", .int (n - j : Nat)), ("rows", .int ((startN p (j + (n - j)) : Int) - startN p j))]) := by
        rw [eN, ← e7]
        exact e3
      have q2 : K3 t = some (.tup (p.lens.map V.int)) := k3 _ _ nat (k2 _ _ nat (k1 _ _ nat ht'))
      have q3 : K3 l = some (.lst (stL p (j + (n - j)))) := by
        rw [eN]
        exact k3 _ _ nla hl2
      refine k K3 j (n - j) ?_ ⟨by omega, by rw [eN]; exact ejn, fun x y hxy hy => inj x y hxy (by omega)⟩ ⟨dx, t, l, q1, q2, q3⟩ fun s xs H'' hs0 e => ?_
      · intro c o hc ho
        have o2 := g2 _ _ hc (g1 _ _ hc ho)
        have o4 := g4 _ _ hc (g3 _ _ o2)
        exact k3 _ _ hc (k2 _ _ hc (k1 _ _ hc (fx _ _ (by simp [ne_of_none o2 n3, ne_of_none o4 n5]) (g5 _ _ o4))))
      · have nsa : s ≠ a := ne_of hs0 ha (by intro z; cases z)
        have nst : s ≠ t := ne_of hs0 ht (by intro z; cases z)
        have nsl : s ≠ l := ne_of_none (g2 _ _ nsa (g1 _ _ nsa hs0)) n3
        exact ⟨dx, t, l, e _ _ nsa.symm q1, e _ _ nst.symm q2, e _ _ nsl.symm q3⟩

@[irreducible] def sp_Packing_start (K : PySem.W.Frag) : Sp := fun vs H Q _ => ∃ (a : Addr) (p : Prt) (first pages n : Nat), vs = [.ref a, .int n] ∧ PkAt K H a p first pages ∧ p.Ok ∧ Cyc p first pages ∧ ∀ H', Same H H' → Q (.int (startN p n)) H'
theorem use_start {K : PySem.W.Frag} {a : Addr} {p : Prt} {first pages n : Nat} {H : Hp} {Q : VK} {E : XK} {i : Int} (hi : i = (n : Int)) (h : PkAt K H a p first pages) (ok : p.Ok) (c : Cyc p first pages) (k : ∀ H', Same H H' → Q (.int (startN p n)) H') :
  sp_Packing_start K [.ref a, .int i] H Q E := by subst hi; unfold sp_Packing_start; exact ⟨a, p, first, pages, n, rfl, h, ok, c, k⟩
@[irreducible] def sp_Packing_holder (K : PySem.W.Frag) : Sp := fun vs H Q _ => ∃ (a : Addr) (p : Prt) (first pages r : Nat), vs = [.ref a, .int r] ∧ PkAt K H a p first pages ∧ p.Ok ∧ Cyc p first pages ∧ ∀ n H', On p r n → Same H H' → Q (.int n) H'
theorem use_holder {K : PySem.W.Frag} {a : Addr} {p : Prt} {first pages r : Nat} {H : Hp} {Q : VK} {E : XK} {i : Int} (hi : i = (r : Int)) (h : PkAt K H a p first pages) (ok : p.Ok) (c : Cyc p first pages) (k : ∀ n H', On p r n → Same H H' → Q (.int n) H') :
  sp_Packing_holder K [.ref a, .int i] H Q E := by subst hi; unfold sp_Packing_holder; exact ⟨a, p, first, pages, r, rfl, h, ok, c, k⟩
/-- the first row of the cycle that is like row r, and how many cycles lie between -/
theorem near_of {p : Prt} (ok : p.Ok) {first pages : Nat} (c : Cyc p first pages) (r : Nat) : ∃ t near, r = near + t * rowsC p first pages ∧ near < startN p (first + pages) ∧ (t = 0 ∨ startN p first ≤ near) ∧
    (startN p first ≤ r → t = (r - startN p first) / rowsC p first pages) ∧ (r < startN p first → t = 0) := by
  have h1 := rowsC_pos ok c
  have h2 := start_mono ok (show first ≤ first + pages by omega)
  have er : rowsC p first pages = startN p (first + pages) - startN p first := rfl
  by_cases h : startN p first ≤ r
  · refine ⟨(r - startN p first) / rowsC p first pages, startN p first + (r - startN p first) % rowsC p first pages, ?_, ?_, .inr (by omega), fun _ => rfl, fun z => by omega⟩
    · have := Nat.mod_add_div (r - startN p first) (rowsC p first pages)
      rw [Nat.mul_comm] at this
      omega
    · have := Nat.mod_lt (r - startN p first) h1
      omega
  · exact ⟨0, r, by omega, by omega, .inl rfl, fun z => absurd z h, fun _ => rfl⟩
theorem par6 {A B : Option V} {x y : Int} (h : x = y) {l : List (Option V)} : A :: B :: some (V.int x) :: l = A :: B :: some (V.int y) :: l := by subst h; rfl
theorem b_Packing_holder {K : PySem.W.Frag} {fd : FuncData} (F : F_Packing_holder K fd) : Binds K fd P_Packing_holder [] := FunD.bindsN F fun _ _ _ _ _ _ us hl => match us, hl with | [_, _], _ => rfl
theorem ok_Packing_holder (T : Txt K mg D) : FnOk P w K mg base CX0 1 (He.fAd K ("Packing", some "holder")) (D D_Packing_holder) P_Packing_holder (sp_Packing_holder K) := by
  refine T.d_Packing_holder.ok sc_Packing_holder (fun vs H Q E h => ?_) (fun cdv A outer s H vs Q E hr h => ?_)
  · unfold sp_Packing_holder at h
    first | (obtain ⟨rfl, _⟩ := h; rfl) | (obtain ⟨_, rfl, _⟩ := h; rfl) | (obtain ⟨_, _, rfl, _⟩ := h; rfl) | (obtain ⟨_, _, _, rfl, _⟩ := h; rfl) | (obtain ⟨_, _, _, _, rfl, _⟩ := h; rfl) | (obtain ⟨_, _, _, _, _, rfl, _⟩ := h; rfl) | (obtain ⟨_, _, _, _, _, _, rfl, _⟩ := h; rfl) | (obtain ⟨_, _, _, _, _, _, _, rfl, _⟩ := h; rfl) | (obtain ⟨_, _, _, _, _, _, _, _, rfl, _⟩ := h; rfl) | (obtain ⟨_, _, _, _, _, _, _, _, _, rfl, _⟩ := h; rfl) | (obtain ⟨_, _, _, _, _, _, _, _, _, _, rfl, _⟩ := h; rfl) | (obtain ⟨_, _, _, _, _, _, _, _, _, _, _, rfl, _⟩ := h; rfl)
  · refine ⟨_, PSs.nox (pss_cons (ps_set (i := 2) sc_Packing_holder.nd rfl (Or.inl rfl) pe_int)
      (Evl.pss_cut (ps_if (pt_cmpR op_ge (pv 1) (pe_ix (ix_listK (K := K)) (pe_fldK (K := K) (pv 0) rfl) (pe_fldK (K := K) (pv 0) rfl) (fun _ _ => rfl)) (nomark _)) (pss_one (ps_set (i := 2) sc_Packing_holder.nd rfl (Or.inl rfl) (pe_op op_fdivW (pe_op op_sub (pv 1) (pe_ix (ix_listK (K := K)) (pe_fldK (K := K) (pv 0) rfl) (pe_fldK (K := K) (pv 0) rfl) (fun _ _ => rfl))) (pe_fldK (K := K) (pv 0) rfl)))) pss_nil)
      (pss_cons (ps_set (i := 3) sc_Packing_holder.nd rfl (Or.inr rfl) (pe_op op_sub (pv 1) (pe_op op_mul (pv 2) (pe_fldK (K := K) (pv 0) rfl))))
      (pss_cons (ps_set (i := 4) sc_Packing_holder.nd rfl (Or.inl rfl) (pe_ix (ix_listK (K := K)) (pe_lc (own := [("place", 5)]) rfl sc_Packing_holder.nd (pi_range1 (by rfl) T.n_range (pa_cons (pe_callB (call_lenK (K := K)) (by rfl) T.n_len (by decide +kernel) (pa_cons (pe_fldK (K := K) (pv 0) rfl) pa_nil)) pa_nil)) (blkOk_by (N := N_Packing_holder) (sc := defScope s_Packing_holder) (by decide +kernel)) (fun _ _ _ _ _ => (pg_name (i := 5) sc_Packing_holder.nd rfl (Or.inl rfl))) (fun _ _ _ _ _ => (pts_one (pt_cmpR op_le (pe_ix (ix_listK (K := K)) (pe_fldK (K := K) (pv 0) rfl) (pv 5) (fun _ _ => rfl)) (pv 3) (nomark _)))) (fun _ _ _ _ _ => (pv 5))) (pe_un un_neg pe_int) (fun _ _ => rfl)))
      (pss_one (ps_ret (pe_op op_add (pv 4) (pe_op op_mul (pv 2) (pe_fldK (K := K) (pv 0) rfl))))))))), ?_⟩
    unfold sp_Packing_holder at h
    obtain ⟨a, p, first, pages, r, rfl, ⟨dx, t, l, h1, h2, h3⟩, ok, c, k⟩ := h
    have hle := c.le ok
    have hpos := c.pos
    have hsp := start_mono ok (show first ≤ first + pages by omega)
    have er : (startN p (first + pages) : Int) - (startN p first : Int) = (rowsC p first pages : Int) := by unfold rowsC; omega
    have hr0 := rowsC_pos ok c
    have hr1 := rowsC_le ok c
    obtain ⟨tm, near, en, hn, ht, hu, hv⟩ := near_of ok c r
    have hsl := stL_len p (first + pages)
    walk_at "rd"
    refine ⟨fun σ' H' => H' = H ∧ σ' = [some (.ref a), some (.int r), some (.int tm), none, none, none], ?_, ?_⟩
    · walk_at "rd"
      refine ⟨_, _, _, _, rfl, rfl, SqL.of h3, atI_int (j := first) rfl (stL_get p (by omega)), ?_⟩
      walk_at "rd"
      refine iteB (fun d => ?_) (fun d => ?_)
      · have d := of_decide_eq_true d
        have d2 : startN p first ≤ r := by omega
        walk_at "rd"
        refine ⟨_, _, _, _, rfl, rfl, SqL.of h3, atI_int (j := first) rfl (stL_get p (by omega)), ?_⟩
        walk_at "rd"
        have e9 : ((r : Int) - (startN p first : Int)) / ((startN p (first + pages) : Int) - (startN p first : Int)) = (tm : Int) := by
          rw [er, ← Int.ofNat_sub d2, hu d2]; rfl
        exact par6 e9
      · have d := of_decide_eq_false d
        walk_at "rd"
        have e9 := hv (by omega)
        subst e9
        rfl
    rintro σ H' ⟨rfl, rfl⟩
    walk_at "rd"
    have hs0 : startN p 0 = 0 := rfl
    have enear : (r : Int) - (tm : Int) * ((startN p (first + pages) : Int) - (startN p first : Int)) = (near : Int) := by
      rw [er, ← Int.natCast_mul]; omega
    intro D1 n1
    have nl : l ≠ D1 := ne_of_none h3 n1
    refine lc_range (lo := 0) (n := Int.toNat _) (fun i G => ∃ c, G D1 = some (.lst ((List.range c).map fun (j : Nat) => V.int (j : Int))) ∧ SX [D1] H' G ∧ (∀ j, j < i → (startN p j ≤ near ↔ j < c)) ∧ c ≤ i) ⟨0, upd_same, SX.refl.mut n1, fun j hj => absurd hj (by omega), Nat.le_refl _⟩ ?_ ?_
    · rintro i G hi ⟨m, hD, f, hc, hm⟩
      have hi2 : i ≤ first + pages := by omega
      refine ⟨rfl, ?_⟩
      have h3' := f _ _ (by simp [nl]) h3
      have h1' := f _ _ (by simp [ne_of_none h1 n1]) h1
      walk_at "rd"
      refine ⟨_, _, _, _, rfl, rfl, SqL.of h3', atI_int (j := i) (by omega) (stL_get p hi2), ?_⟩
      walk_at "rd"
      refine iteB (fun d => ?_) (fun d => ?_)
      · have d := of_decide_eq_true d
        have d : startN p i ≤ near := by
          have d2 : (startN p i : Int) ≤ (r : Int) - (tm : Int) * ((startN p (first + pages) : Int) - (startN p first : Int)) := d
          omega
        walk_at "rd"
        have hmi : m = i := by
          by_cases h : m = i
          · exact h
          · have z := (hc m (by omega)).mp (Nat.le_trans (start_mono ok (by omega)) d)
            omega
        subst hmi
        refine ⟨_, hD, szlt (by rw [List.length_map, List.length_range]; omega), m + 1, ?_, f.upd (by simp), fun j hj => ⟨fun _ => hj, fun _ => Nat.le_trans (start_mono ok (by omega)) d⟩, Nat.le_refl _⟩
        rw [upd_same, List.range_succ, List.map_append]
        exact congrArg (fun z => some (HO.lst (List.map (fun (j : Nat) => V.int (j : Int)) (List.range m) ++ [V.int z]))) (Int.zero_add _)
      · have d := of_decide_eq_false d
        have d : ¬ startN p i ≤ near := by
          have d2 : ¬ (startN p i : Int) ≤ (r : Int) - (tm : Int) * ((startN p (first + pages) : Int) - (startN p first : Int)) := d
          omega
        refine ⟨m, hD, f, fun j hj => ?_, by omega⟩
        by_cases h : j = i
        · subst h
          exact ⟨fun z => absurd z d, fun z => by omega⟩
        · exact hc j (by omega)
    · rintro G ⟨m, hD, f, hc, hm⟩
      have hlen : (Int.toNat (((stL p (first + pages)).length : Nat) : Int)) = first + pages + 1 := by rw [stL_len]; omega
      rw [hlen] at hc hm
      have m1 : 0 < m := (hc 0 (by omega)).mp (by rw [hs0]; omega)
      have m2 : m ≤ first + pages := by
        by_cases h : m ≤ first + pages
        · exact h
        · have := (hc (first + pages) (by omega)).mpr (by omega)
          omega
      obtain ⟨m, rfl⟩ : ∃ m', m = m' + 1 := ⟨m - 1, by omega⟩
      have b1 := (hc m (by omega)).mpr (by omega)
      have b2 : near < startN p (m + 1) := by
        by_cases h : startN p (m + 1) ≤ near
        · have := (hc (m + 1) (by omega)).mp h
          omega
        · omega
      have hat : atI ((List.range (m + 1)).map fun (j : Nat) => V.int (j : Int)) (-1) = some (.int (m : Int)) := by
        rw [List.range_succ, List.map_append]
        exact atI_last _ _
      have sG : Same H' G := fun b o ho => f _ _ (by simp [ne_of_none ho n1]) ho
      have h11 := sG _ _ h1
      walk_at "rd"
      refine ⟨_, _, _, _, rfl, rfl, SqL.of hD, hat, ?_⟩
      walk_at "rd"
      have ePn : (m : Int) + (tm : Int) * (pages : Int) = ((m + tm * pages : Nat) : Int) := by rw [← Int.natCast_mul]; omega
      have on : On p r (m + tm * pages) := by
        rcases ht with ht | ht
        · subst ht
          simp only [Nat.zero_mul, Nat.add_zero] at en ⊢
          rw [en]
          exact ⟨b1, b2⟩
        · have hmf : first ≤ m := by
            by_cases h : first ≤ m
            · exact h
            · have := start_mono ok (show m + 1 ≤ first by omega)
              omega
          have e1 := start_times ok c hmf tm
          have e2 := start_times ok c (show first ≤ m + 1 by omega) tm
          refine ⟨?_, ?_⟩
          · rw [e1, en]; omega
          · rw [show m + tm * pages + 1 = m + 1 + tm * pages by omega, e2, en]; omega
      have q := k _ G on sG
      rw [← ePn] at q
      exact q

@[irreducible] def sp_check_row : Sp := fun vs H Q _ => ∃ i m : Int, vs = [.int i, .int m] ∧ (0 ≤ i ∧ i ≤ m - 1) ∧ Q .non H
theorem use_check_row {i m : Int} {H : Hp} {Q : VK} {E : XK} (h : 0 ≤ i ∧ i ≤ m - 1) (q : Q .non H) : sp_check_row [.int i, .int m] H Q E := by unfold sp_check_row; exact ⟨i, m, rfl, h, q⟩
@[irreducible] def sp_check_moment : Sp := fun vs H Q _ => ∃ i : Int, vs = [.int i] ∧ (0 ≤ i ∧ i ≤ 1000000000000000000000000000000) ∧ Q .non H
theorem use_check_moment {i : Int} {H : Hp} {Q : VK} {E : XK} (h : 0 ≤ i ∧ i ≤ 1000000000000000000000000000000) (q : Q .non H) : sp_check_moment [.int i] H Q E := by unfold sp_check_moment; exact ⟨i, rfl, h, q⟩
theorem b_check_moment {K : PySem.W.Frag} {fd : FuncData} (F : F_check_moment K fd) : Binds K fd P_check_moment [] := FunD.bindsN F fun _ _ _ _ _ _ us hl => match us, hl with | [_], _ => rfl
theorem ok_check_moment (T : Txt K mg D) : FnOk P w K mg base CX0 3 (He.fAd K ("check_moment", none)) (D D_check_moment) P_check_moment sp_check_moment := by
  refine T.d_check_moment.ok sc_check_moment (fun vs H Q E h => ?_) (fun cdv A outer s H vs Q E hr h => ?_)
  · unfold sp_check_moment at h
    first | (obtain ⟨rfl, _⟩ := h; rfl) | (obtain ⟨_, rfl, _⟩ := h; rfl) | (obtain ⟨_, _, rfl, _⟩ := h; rfl) | (obtain ⟨_, _, _, rfl, _⟩ := h; rfl) | (obtain ⟨_, _, _, _, rfl, _⟩ := h; rfl) | (obtain ⟨_, _, _, _, _, rfl, _⟩ := h; rfl) | (obtain ⟨_, _, _, _, _, _, rfl, _⟩ := h; rfl) | (obtain ⟨_, _, _, _, _, _, _, rfl, _⟩ := h; rfl) | (obtain ⟨_, _, _, _, _, _, _, _, rfl, _⟩ := h; rfl) | (obtain ⟨_, _, _, _, _, _, _, _, _, rfl, _⟩ := h; rfl) | (obtain ⟨_, _, _, _, _, _, _, _, _, _, rfl, _⟩ := h; rfl) | (obtain ⟨_, _, _, _, _, _, _, _, _, _, _, rfl, _⟩ := h; rfl)
  · refine ⟨_, PSs.nox (pss_one (ps_if (pt_not (pt_val (pe_call (ok_is_between T) (hr.mono (by decide)) rfl T.g_is_between T.d_is_between.kp (b_is_between T.d_is_between) .nil pass0 (pa_cons (pv 0) (pa_cons pe_int (pa_cons (pe_globi T.i_MOST_ROW) pa_nil)))))) (pss_one ps_never) pss_nil)), ?_⟩
    unfold sp_check_moment at h
    obtain ⟨i, rfl, h, q⟩ := h
    walk_at "rd"
    refine use_between ?_
    rw [decide_eq_true h]
    walk_at "rd"
    exact q

@[irreducible] def sp_Packing_check_page (K : PySem.W.Frag) : Sp := fun vs H Q _ => ∃ (a : Addr) (p : Prt) (first pages n : Nat), vs = [.ref a, .int n] ∧ PkAt K H a p first pages ∧ p.Ok ∧ Cyc p first pages ∧ startN p n < 1000000000000000000000000000000 ∧ ∀ H', Same H H' → Q .non H'
theorem use_check_page {K : PySem.W.Frag} {a : Addr} {p : Prt} {first pages n : Nat} {H : Hp} {Q : VK} {E : XK} {i : Int} (hi : i = (n : Int)) (h : PkAt K H a p first pages) (ok : p.Ok) (c : Cyc p first pages) (hn : startN p n < 1000000000000000000000000000000)
  (k : ∀ H', Same H H' → Q .non H') : sp_Packing_check_page K [.ref a, .int i] H Q E := by subst hi; unfold sp_Packing_check_page; exact ⟨a, p, first, pages, n, rfl, h, ok, c, hn, k⟩
@[irreducible] def sp_Packing_units_of (K : PySem.W.Frag) : Sp := fun vs H Q _ => ∃ (a : Addr) (p : Prt) (r k : Nat), vs = [.ref a, .int r, .int ((r : Int) + k)] ∧ PkBase K H a p ∧ p.Ok ∧ k ≤ 1000 ∧ ∀ H', Same H H' → Q (.int (usum p r k)) H'
theorem use_units_of {K : PySem.W.Frag} {a : Addr} {p : Prt} {r k : Nat} {H : Hp} {Q : VK} {E : XK} {i j : Int} (hi : i = (r : Int)) (hj : j = (r : Int) + k) (h : PkBase K H a p) (ok : p.Ok) (hk : k ≤ 1000) (q : ∀ H', Same H H' → Q (.int (usum p r k)) H') :
  sp_Packing_units_of K [.ref a, .int i, .int j] H Q E := by subst hi hj; unfold sp_Packing_units_of; exact ⟨a, p, r, k, rfl, h, ok, hk, q⟩
def lensL (p : Prt) (r k : Nat) : List Int := (List.range k).map fun i => lenAt p (r + i)
theorem lensL_succ (p : Prt) (r k : Nat) : lensL p r (k + 1) = lensL p r k ++ [lenAt p (r + k)] := by
  unfold lensL
  rw [List.range_succ, List.map_append]
  rfl
theorem lensL_sum (p : Prt) (r : Nat) : ∀ k, (lensL p r k).sum = usum p r k
  | 0 => rfl
  | k + 1 => by rw [lensL_succ, List.sum_append, lensL_sum p r k]; simp [usum]
theorem pk_base {K : PySem.W.Frag} {H : Hp} {a : Addr} {p : Prt} {first pages : Nat} (h : PkAt K H a p first pages) : PkBase K H a p := by
  obtain ⟨dx, t, l, h1, h2, h3⟩ := h
  exact ⟨dx, _, t, h1, by kernel_rfl, by kernel_rfl, none_all (by kernel_rfl), h2⟩
theorem ne_eq {i j : Int} {A B : Prop} (h : i = j) (b : B) : if (!decide (V.int i = V.int j)) = true then A else B := by
  subst h
  rw [decide_eq_true rfl]
  exact iteF b
@[irreducible] def sp_Packing_page_of (K : PySem.W.Frag) : Sp := fun vs H Q _ => ∃ (a : Addr) (p : Prt) (first pages r : Nat), vs = [.ref a, .int r] ∧ PkAt K H a p first pages ∧ p.Ok ∧ Cyc p first pages ∧ r < 1000000000000000000000000000000 ∧ ∀ n H', On p r n → Same H H' → Q (.int n) H'
theorem use_page_of {K : PySem.W.Frag} {a : Addr} {p : Prt} {first pages r : Nat} {H : Hp} {Q : VK} {E : XK} {i : Int} (hi : i = (r : Int)) (h : PkAt K H a p first pages) (ok : p.Ok) (c : Cyc p first pages) (hr : r < 1000000000000000000000000000000)
  (k : ∀ n H', On p r n → Same H H' → Q (.int n) H') : sp_Packing_page_of K [.ref a, .int i] H Q E := by subst hi; unfold sp_Packing_page_of; exact ⟨a, p, first, pages, r, rfl, h, ok, c, hr, k⟩
@[irreducible] def sp_Packing_begun (K : PySem.W.Frag) : Sp := fun vs H Q _ => ∃ (a : Addr) (p : Prt) (first pages r : Nat), vs = [.ref a, .int r] ∧ PkAt K H a p first pages ∧ p.Ok ∧ Cyc p first pages ∧ r ≤ 1000000000000000000000000000000 ∧
  (r = 0 → ∀ H', Same H H' → Q (.int 0) H') ∧ ∀ n H', 0 < r → On p (r - 1) n → Same H H' → Q (.int ((n : Int) + 1)) H'
theorem use_begun {K : PySem.W.Frag} {a : Addr} {p : Prt} {first pages r : Nat} {H : Hp} {Q : VK} {E : XK} {i : Int} (hi : i = (r : Int)) (h : PkAt K H a p first pages) (ok : p.Ok) (c : Cyc p first pages) (hr : r ≤ 1000000000000000000000000000000)
  (k0 : r = 0 → ∀ H', Same H H' → Q (.int 0) H') (k : ∀ n H', 0 < r → On p (r - 1) n → Same H H' → Q (.int ((n : Int) + 1)) H') : sp_Packing_begun K [.ref a, .int i] H Q E := by subst hi; unfold sp_Packing_begun; exact ⟨a, p, first, pages, r, rfl, h, ok, c, hr, k0, k⟩
@[irreducible] def sp_Packing_first_row (K : PySem.W.Frag) : Sp := fun vs H Q _ => ∃ (a : Addr) (p : Prt) (first pages n : Nat), vs = [.ref a, .int n] ∧ PkAt K H a p first pages ∧ p.Ok ∧ Cyc p first pages ∧ startN p n < 1000000000000000000000000000000 ∧ ∀ H', Same H H' → Q (.int (startN p n)) H'
theorem use_first_row {K : PySem.W.Frag} {a : Addr} {p : Prt} {first pages n : Nat} {H : Hp} {Q : VK} {E : XK} {i : Int} (hi : i = (n : Int)) (h : PkAt K H a p first pages) (ok : p.Ok) (c : Cyc p first pages) (hn : startN p n < 1000000000000000000000000000000)
  (k : ∀ H', Same H H' → Q (.int (startN p n)) H') : sp_Packing_first_row K [.ref a, .int i] H Q E := by subst hi; unfold sp_Packing_first_row; exact ⟨a, p, first, pages, n, rfl, h, ok, c, hn, k⟩
@[irreducible] def sp_Packing_rows_on (K : PySem.W.Frag) : Sp := fun vs H Q _ => ∃ (a : Addr) (p : Prt) (first pages n : Nat), vs = [.ref a, .int n] ∧ PkAt K H a p first pages ∧ p.Ok ∧ Cyc p first pages ∧ startN p n < 1000000000000000000000000000000 ∧ ∀ H', Same H H' → Q (.int (rowsF p (startN p n))) H'
theorem use_rows_on {K : PySem.W.Frag} {a : Addr} {p : Prt} {first pages n : Nat} {H : Hp} {Q : VK} {E : XK} {i : Int} (hi : i = (n : Int)) (h : PkAt K H a p first pages) (ok : p.Ok) (c : Cyc p first pages) (hn : startN p n < 1000000000000000000000000000000)
  (k : ∀ H', Same H H' → Q (.int (rowsF p (startN p n))) H') : sp_Packing_rows_on K [.ref a, .int i] H Q E := by subst hi; unfold sp_Packing_rows_on; exact ⟨a, p, first, pages, n, rfl, h, ok, c, hn, k⟩
@[irreducible] def sp_Packing_units_on (K : PySem.W.Frag) : Sp := fun vs H Q _ => ∃ (a : Addr) (p : Prt) (first pages n : Nat), vs = [.ref a, .int n] ∧ PkAt K H a p first pages ∧ p.Ok ∧ Cyc p first pages ∧ startN p n < 1000000000000000000000000000000 ∧ ∀ H', Same H H' → Q (.int (usum p (startN p n) (rowsF p (startN p n)))) H'
theorem use_units_on {K : PySem.W.Frag} {a : Addr} {p : Prt} {first pages n : Nat} {H : Hp} {Q : VK} {E : XK} {i : Int} (hi : i = (n : Int)) (h : PkAt K H a p first pages) (ok : p.Ok) (c : Cyc p first pages) (hn : startN p n < 1000000000000000000000000000000)
  (k : ∀ H', Same H H' → Q (.int (usum p (startN p n) (rowsF p (startN p n)))) H') : sp_Packing_units_on K [.ref a, .int i] H Q E := by subst hi; unfold sp_Packing_units_on; exact ⟨a, p, first, pages, n, rfl, h, ok, c, hn, k⟩
@[irreducible] def sp_Packing_units_left (K : PySem.W.Frag) : Sp := fun vs H Q _ => ∃ (a : Addr) (p : Prt) (first pages r : Nat), vs = [.ref a, .int r] ∧ PkAt K H a p first pages ∧ p.Ok ∧ Cyc p first pages ∧ r < 1000000000000000000000000000000 ∧
  ∀ n H', On p r n → Same H H' → Q (.int (p.size - usum p (startN p n) (r + 1 - startN p n))) H'
theorem use_units_left {K : PySem.W.Frag} {a : Addr} {p : Prt} {first pages r : Nat} {H : Hp} {Q : VK} {E : XK} {i : Int} (hi : i = (r : Int)) (h : PkAt K H a p first pages) (ok : p.Ok) (c : Cyc p first pages) (hr : r < 1000000000000000000000000000000)
  (k : ∀ n H', On p r n → Same H H' → Q (.int (p.size - usum p (startN p n) (r + 1 - startN p n))) H') : sp_Packing_units_left K [.ref a, .int i] H Q E := by subst hi; unfold sp_Packing_units_left; exact ⟨a, p, first, pages, r, rfl, h, ok, c, hr, k⟩
def dgL (f : Nat → Int) : List V := [.int (f 0), .int (f 1), .int (f 2), .int (f 3), .int (f 4), .int (f 5), .int (f 6), .int (f 7), .int (f 8), .int (f 9), .int (f 10), .int (f 11), .int (f 12), .int (f 13), .int (f 14), .int (f 15), .int (f 16), .int (f 17), .int (f 18), .int (f 19), .int (f 20), .int (f 21), .int (f 22), .int (f 23), .int (f 24), .int (f 25), .int (f 26), .int (f 27), .int (f 28), .int (f 29), .int (f 30), .int (f 31), .int (f 32), .int (f 33), .int (f 34), .int (f 35), .int (f 36), .int (f 37), .int (f 38), .int (f 39)]
theorem dgL_eq (f : Nat → Int) : dgL f = (List.range 40).map fun j => V.int (f j) := rfl
def DgOk (f : Nat → Int) : Prop := ∀ j, 0 ≤ f j ∧ f j < 1009
theorem dgL_of {xs : List Int} (h : xs.length = 40) : dgL (fun j => xs.getD j 0) = xs.map V.int := by
  rw [dgL_eq]
  apply List.ext_getElem
  · rw [List.length_map, List.length_range, List.length_map, h]
  · intro i h1 h2
    rw [List.getElem_map, List.getElem_map, List.getElem_range]
    have : i < xs.length := by simpa using h2
    simp [List.getD_eq_getElem?_getD, this]
theorem dg_at {f : Nat → Int} {j : Nat} {i : Int} (hi : i = (j : Int)) (h : j < 40) : atI (dgL f) i = some (.int (f j)) := by
  refine atI_int hi ?_
  rw [dgL_eq, List.getElem?_map, List.getElem?_range h]
  rfl
@[irreducible] def sp_law_digits : Sp := fun vs H Q _ => ∃ c : Int, vs = [.int c, .int 40] ∧ ∀ q f H', H q = none → Same H H' → DgOk f → H' q = some (.lst (dgL f)) → Q (.ref q) H'
theorem use_digits {c : Int} {H : Hp} {Q : VK} {E : XK} (k : ∀ q f H', H q = none → Same H H' → DgOk f → H' q = some (.lst (dgL f)) → Q (.ref q) H') : sp_law_digits [.int c, .int 40] H Q E := by unfold sp_law_digits; exact ⟨c, rfl, k⟩
theorem b_law_digits {K : PySem.W.Frag} {fd : FuncData} (F : F_law_digits K fd) : Binds K fd P_law_digits [] := FunD.bindsN F fun _ _ _ _ _ _ us hl => match us, hl with | [_, _], _ => rfl
theorem ok_law_digits (T : Txt K mg D) : FnOk P w K mg base CX0 1 (He.fAd K ("_law_digits", none)) (D D_law_digits) P_law_digits sp_law_digits := by
  refine T.d_law_digits.ok sc_law_digits (fun vs H Q E h => ?_) (fun cdv A outer s H vs Q E hr h => ?_)
  · unfold sp_law_digits at h
    first | (obtain ⟨rfl, _⟩ := h; rfl) | (obtain ⟨_, rfl, _⟩ := h; rfl) | (obtain ⟨_, _, rfl, _⟩ := h; rfl) | (obtain ⟨_, _, _, rfl, _⟩ := h; rfl) | (obtain ⟨_, _, _, _, rfl, _⟩ := h; rfl) | (obtain ⟨_, _, _, _, _, rfl, _⟩ := h; rfl) | (obtain ⟨_, _, _, _, _, _, rfl, _⟩ := h; rfl) | (obtain ⟨_, _, _, _, _, _, _, rfl, _⟩ := h; rfl) | (obtain ⟨_, _, _, _, _, _, _, _, rfl, _⟩ := h; rfl) | (obtain ⟨_, _, _, _, _, _, _, _, _, rfl, _⟩ := h; rfl) | (obtain ⟨_, _, _, _, _, _, _, _, _, _, rfl, _⟩ := h; rfl) | (obtain ⟨_, _, _, _, _, _, _, _, _, _, _, rfl, _⟩ := h; rfl)
  · refine ⟨_, PSs.nox (pss_cons (ps_set (i := 2) sc_law_digits.nd rfl (Or.inl rfl) (pe_lst pa_nil))
      (pss_cons (ps_set (i := 3) sc_law_digits.nd rfl (Or.inl rfl) pe_int)
      (Evl.pss_cut (ps_if (pt_cmpR op_ge (pv 0) (pe_powc (c := 1000000000000000000) (by decide)) (nomark _)) (pss_one (ps_set (i := 3) sc_law_digits.nd rfl (Or.inl rfl) (pv 0))) pss_nil)
      (pss_cons (ps_set (i := 4) sc_law_digits.nd rfl (Or.inl rfl) (pe_op op_mod (pe_callTy call_int1 (by rfl) T.n_int (by decide +kernel) (pa_cons (pv 0) pa_nil)) pe_int))
      (pss_cons (ps_for PassesOwn.never rfl (pi_range1 (by rfl) T.n_range (pa_cons (pv 1) pa_nil)) (pg_name (i := 5) sc_law_digits.nd rfl (Or.inl rfl)) (pss_cons (ps_set (i := 4) sc_law_digits.nd rfl (Or.inl rfl) (pe_op op_mod (pe_callTy call_int1 (by rfl) T.n_int (by decide +kernel) (pa_cons (pe_op op_add (pe_op op_add (pe_op op_mul (pv 4) pe_int) (pe_op op_mul pe_int (pv 5))) pe_int) pa_nil)) pe_int))
      (pss_cons (ps_set (i := 4) sc_law_digits.nd rfl (Or.inl rfl) (pe_op op_mod (pe_callTy call_int1 (by rfl) T.n_int (by decide +kernel) (pa_cons (pe_op op_mul (pv 4) (pe_op op_add (pe_op op_fdivW (pv 4) pe_int) pe_int)) pa_nil)) pe_int))
      (pss_one (ps_if (pt_cmpR op_gt (pv 3) pe_int (nomark _)) (pss_cons (ps_expr (pe_bm PySem.F.plainAttrs_list PySem.F.slot_list_append PySem.F.type_list_append mt_append (pv 2) (pa_cons (pe_op op_mod (pe_callTy call_int1 (by rfl) T.n_int (by decide +kernel) (pa_cons (pv 3) pa_nil)) pe_int) pa_nil)))
      (pss_one (ps_set (i := 3) sc_law_digits.nd rfl (Or.inl rfl) (pe_op op_fdivW (pv 3) pe_int)))) (pss_one (ps_expr (pe_bm PySem.F.plainAttrs_list PySem.F.slot_list_append PySem.F.type_list_append mt_append (pv 2) (pa_cons (pe_op op_mod (pe_callTy call_int1 (by rfl) T.n_int (by decide +kernel) (pa_cons (pe_op op_fdivW (pv 4) pe_int) pa_nil)) pe_int) pa_nil)))))))))
      (pss_one (ps_ret (pv 2)))))))), ?_⟩
    unfold sp_law_digits at h
    obtain ⟨c, rfl, k⟩ := h
    walk_at "rd"
    intro q n0
    generalize eG0 : upd _ q _ = G0
    obtain ⟨g0, c0⟩ := gen_new n0 eG0
    clear eG0
    walk_at "rd"
    refine ⟨fun σ' H' => H' = G0 ∧ ∃ z : Int, σ' = [some (.int c), some (.int 40), some (.ref q), some (.int z), none, none], ?_, ?_⟩
    · walk_at "rd"
      refine ite2 (fun _ => ?_) (fun _ => ?_)
      · walk_at "rd"
        exact ⟨_, rfl⟩
      · walk_at "rd"
        exact ⟨_, rfl⟩
    rintro σ H' ⟨rfl, z, rfl⟩
    walk_at "rd"
    refine for_range (lo := 0) (n := 40) (fun i σ G => ∃ (xs : List Int) (z n : Int) (v : Option V), σ = [some (.int c), some (.int 40), some (.ref q), some (.int z), some (.int n), v] ∧ (0 ≤ n ∧ n < 2147483647) ∧ xs.length = i ∧ (∀ x ∈ xs, 0 ≤ x ∧ x < 1009) ∧ G q = some (.lst (xs.map V.int)) ∧ SX [q] H' G)
      ⟨[], _, _, _, rfl, ⟨Int.emod_nonneg _ (by decide), Int.emod_lt_of_pos _ (by decide)⟩, rfl, fun x hx => (nomatch hx), c0, SX.refl⟩ ?_ ?_
    · rintro i σ G hi ⟨xs, z, n, v, rfl, ⟨m0, m1⟩, hl, hb, hq, f⟩
      walk_at "rd"
      have b0 := Int.emod_nonneg (n * 48271 + 30103 * (0 + (i : Int)) + 11) (show (2147483647 : Int) ≠ 0 by decide)
      have b1 := Int.emod_lt_of_pos (n * 48271 + 30103 * (0 + (i : Int)) + 11) (show (0 : Int) < 2147483647 by decide)
      generalize (n * 48271 + 30103 * (0 + (i : Int)) + 11) % 2147483647 = y at b0 b1 ⊢
      walk_at "rd"
      have e0 := Int.emod_nonneg (y * (y / 1009 + 69621)) (show (2147483629 : Int) ≠ 0 by decide)
      have e1 := Int.emod_lt_of_pos (y * (y / 1009 + 69621)) (show (0 : Int) < 2147483629 by decide)
      have app : ∀ w : Int, 0 ≤ w → w < 1009 → (∀ x ∈ xs ++ [w], 0 ≤ x ∧ x < 1009) := fun w w0 w1 x hx => by
        rcases List.mem_append.mp hx with h | h
        · exact hb x h
        · rw [List.mem_singleton.mp h]; exact ⟨w0, w1⟩
      refine ite2 (fun _ => ?_) (fun _ => ?_)
      · walk_at "rd"
        refine ⟨.inl ⟨rfl, _, SqL.of hq⟩, ?_⟩
        walk_at "rd"
        refine ⟨_, _, _, rfl, rfl, hq, szlt (by rw [List.length_map]; omega), ?_⟩
        walk_at "rd"
        refine ⟨xs ++ [z % 1009], _, _, _, rfl, ⟨e0, by omega⟩, by rw [List.length_append, hl]; rfl, app _ (Int.emod_nonneg _ (by decide)) (Int.emod_lt_of_pos _ (by decide)), by rw [upd_same, List.map_append]; rfl, f.upd (by simp)⟩
      · walk_at "rd"
        refine ⟨.inl ⟨rfl, _, SqL.of hq⟩, ?_⟩
        walk_at "rd"
        refine ⟨_, _, _, rfl, rfl, hq, szlt (by rw [List.length_map]; omega), ?_⟩
        refine ⟨xs ++ [y * (y / 1009 + 69621) % 2147483629 / 7 % 1009], _, _, _, rfl, ⟨e0, by omega⟩, by rw [List.length_append, hl]; rfl, app _ (Int.emod_nonneg _ (by decide)) (Int.emod_lt_of_pos _ (by decide)), by rw [upd_same, List.map_append]; rfl, f.upd (by simp)⟩
    · rintro σ G ⟨xs, z, n, v, rfl, _, hl, hb, hq, f⟩
      walk_at "rd"
      refine k q (fun j => xs.getD j 0) G n0 (fun b o ho => f _ _ (by simp [ne_of_none ho n0]) (g0 _ _ ho)) (fun j => ?_) (by rw [dgL_of hl]; exact hq)
      by_cases hj : j < xs.length
      · show 0 ≤ xs.getD j 0 ∧ xs.getD j 0 < 1009
        rw [List.getD_eq_getElem?_getD, List.getElem?_eq_getElem hj]
        exact hb _ (List.getElem_mem hj)
      · show 0 ≤ xs.getD j 0 ∧ xs.getD j 0 < 1009
        rw [List.getD_eq_getElem?_getD, List.getElem?_eq_none (by omega)]
        exact ⟨by decide, by decide⟩

/-- drawn settings as a dict -/
def pdL (l : Addr) (p : Prt) : List (Key × V) := [(.inr "lengths", .ref l), (.inr "size", .int p.size), (.inr "fanout", .int p.fan), (.inr "records", .int p.rec_), (.inr "every", .int p.every), (.inr "keep", .int p.keep)]
def PdAt (H : Hp) (a : Addr) (p : Prt) : Prop := ∃ l, H a = some (.dK (pdL l p)) ∧ H l = some (.lst (p.lens.map V.int))
theorem PdAt.same {H H' : Hp} {a : Addr} {p : Prt} (h : PdAt H a p) (s : Same H H') : PdAt H' a p := let ⟨l, h1, h2⟩ := h; ⟨l, s _ _ h1, s _ _ h2⟩
theorem pg_lengths {H : Hp} {a l : Addr} {p : Prt} (h : H a = some (.dK (pdL l p))) : DGet H a (.str "lengths") (some (.ref l)) := (show valV (pdL l p) (Sum.inr "lengths") = some (.ref l) from by kernel_rfl) ▸ DGet.k (k := Sum.inr "lengths") h
theorem pg_size {H : Hp} {a l : Addr} {p : Prt} (h : H a = some (.dK (pdL l p))) : DGet H a (.str "size") (some (.int p.size)) := (show valV (pdL l p) (Sum.inr "size") = some (.int p.size) from by kernel_rfl) ▸ DGet.k (k := Sum.inr "size") h
theorem pg_fanout {H : Hp} {a l : Addr} {p : Prt} (h : H a = some (.dK (pdL l p))) : DGet H a (.str "fanout") (some (.int p.fan)) := (show valV (pdL l p) (Sum.inr "fanout") = some (.int p.fan) from by kernel_rfl) ▸ DGet.k (k := Sum.inr "fanout") h
theorem pg_records {H : Hp} {a l : Addr} {p : Prt} (h : H a = some (.dK (pdL l p))) : DGet H a (.str "records") (some (.int p.rec_)) := (show valV (pdL l p) (Sum.inr "records") = some (.int p.rec_) from by kernel_rfl) ▸ DGet.k (k := Sum.inr "records") h
theorem pg_every {H : Hp} {a l : Addr} {p : Prt} (h : H a = some (.dK (pdL l p))) : DGet H a (.str "every") (some (.int p.every)) := (show valV (pdL l p) (Sum.inr "every") = some (.int p.every) from by kernel_rfl) ▸ DGet.k (k := Sum.inr "every") h
theorem pg_keep {H : Hp} {a l : Addr} {p : Prt} (h : H a = some (.dK (pdL l p))) : DGet H a (.str "keep") (some (.int p.keep)) := (show valV (pdL l p) (Sum.inr "keep") = some (.int p.keep) from by kernel_rfl) ▸ DGet.k (k := Sum.inr "keep") h
@[irreducible] def sp_law_parts : Sp := fun vs H Q _ => ∃ (d : Addr) (f : Nat → Int), vs = [.ref d] ∧ DgOk f ∧ H d = some (.lst (dgL f)) ∧ ∀ a p H', H a = none → Same H H' → p.Ok → p.size ≤ 6 → PdAt H' a p → Q (.ref a) H'
theorem use_pd {d : Addr} {f : Nat → Int} {H : Hp} {Q : VK} {E : XK} (hf : DgOk f) (h : H d = some (.lst (dgL f))) (k : ∀ a p H', H a = none → Same H H' → p.Ok → p.size ≤ 6 → PdAt H' a p → Q (.ref a) H') : sp_law_parts [.ref d] H Q E := by
  unfold sp_law_parts; exact ⟨d, f, rfl, hf, h, k⟩
theorem put_k {H : Hp} {a : Addr} {kvs kvs2 : List (Key × V)} {x : Str} {v : V} (e : H a = some (.dK kvs)) (hl : kvs.length ≤ 100) (h2 : putK kvs (Sum.inr x) v = kvs2) : DPut H a (.str x) v (upd H a (.dK kvs2)) := by
  subst h2; exact DPut.k (k := Sum.inr x) e (szlt (by omega))
theorem pd_put1 {a b c : V} : putK ([(.inr "lengths", a), (.inr "size", b)] : List (Key × V)) (Sum.inr "fanout") c = [(.inr "lengths", a), (.inr "size", b), (.inr "fanout", c)] := by kernel_rfl
theorem pd_put2 {a b c d : V} : putK ([(.inr "lengths", a), (.inr "size", b), (.inr "fanout", c)] : List (Key × V)) (Sum.inr "records") d = [(.inr "lengths", a), (.inr "size", b), (.inr "fanout", c), (.inr "records", d)] := by kernel_rfl
theorem pd_put3 {a b c d e : V} : putK ([(.inr "lengths", a), (.inr "size", b), (.inr "fanout", c), (.inr "records", d)] : List (Key × V)) (Sum.inr "every") e = [(.inr "lengths", a), (.inr "size", b), (.inr "fanout", c), (.inr "records", d), (.inr "every", e)] := by kernel_rfl
theorem pd_put4 {a b c d e g : V} : putK ([(.inr "lengths", a), (.inr "size", b), (.inr "fanout", c), (.inr "records", d), (.inr "every", e)] : List (Key × V)) (Sum.inr "keep") g = [(.inr "lengths", a), (.inr "size", b), (.inr "fanout", c), (.inr "records", d), (.inr "every", e), (.inr "keep", g)] := by kernel_rfl
theorem pd_merge {a b : V} : mergeK [] ([(.inr "lengths", a), (.inr "size", b)] : List (Key × V)) = [(.inr "lengths", a), (.inr "size", b)] := by kernel_rfl
/-- one of two written moduli -/
theorem two_at {a b r : Int} (h0 : 0 ≤ r) (h1 : r < 2) : ∃ m, (m = a ∨ m = b) ∧ atI ([.int a, .int b] : List V) r = some (V.int m) := by
  obtain rfl | rfl : r = 0 ∨ r = 1 := by omega
  · exact ⟨a, .inl rfl, rfl⟩
  · exact ⟨b, .inr rfl, rfl⟩
theorem mod_bd {x m k : Int} (h : 0 < m) (hk : m ≤ k) : 0 ≤ x % m ∧ x % m < k := ⟨Int.emod_nonneg _ (by omega), by have := Int.emod_lt_of_pos x h; omega⟩
local macro_rules | `(tactic| walk_at "dg") => `(tactic| first
  | exact KR.pg_lengths (by walk_at "hp")
  | exact KR.pg_size (by walk_at "hp")
  | exact KR.pg_fanout (by walk_at "hp")
  | exact KR.pg_records (by walk_at "hp")
  | exact KR.pg_every (by walk_at "hp")
  | exact KR.pg_keep (by walk_at "hp"))
theorem b_law_parts {K : PySem.W.Frag} {fd : FuncData} (F : F_law_parts K fd) : Binds K fd P_law_parts [] := FunD.bindsN F fun _ _ _ _ _ _ us hl => match us, hl with | [_], _ => rfl
theorem ok_law_parts (T : Txt K mg D) : FnOk P w K mg base CX0 1 (He.fAd K ("_law_parts", none)) (D D_law_parts) P_law_parts sp_law_parts := by
  refine T.d_law_parts.ok sc_law_parts (fun vs H Q E h => ?_) (fun cdv A outer s H vs Q E hr h => ?_)
  · unfold sp_law_parts at h
    first | (obtain ⟨rfl, _⟩ := h; rfl) | (obtain ⟨_, rfl, _⟩ := h; rfl) | (obtain ⟨_, _, rfl, _⟩ := h; rfl) | (obtain ⟨_, _, _, rfl, _⟩ := h; rfl) | (obtain ⟨_, _, _, _, rfl, _⟩ := h; rfl) | (obtain ⟨_, _, _, _, _, rfl, _⟩ := h; rfl) | (obtain ⟨_, _, _, _, _, _, rfl, _⟩ := h; rfl) | (obtain ⟨_, _, _, _, _, _, _, rfl, _⟩ := h; rfl) | (obtain ⟨_, _, _, _, _, _, _, _, rfl, _⟩ := h; rfl) | (obtain ⟨_, _, _, _, _, _, _, _, _, rfl, _⟩ := h; rfl) | (obtain ⟨_, _, _, _, _, _, _, _, _, _, rfl, _⟩ := h; rfl) | (obtain ⟨_, _, _, _, _, _, _, _, _, _, _, rfl, _⟩ := h; rfl)
  · refine ⟨_, PSs.nox (pss_cons (ps_set (i := 1) sc_law_parts.nd rfl (Or.inr rfl) (pe_op op_add pe_int (pe_op op_mod (pe_callTy call_int1 (by rfl) T.n_int (by decide +kernel) (pa_cons (pe_ix (ix_listK (K := K)) (pv 0) pe_int (fun _ _ => rfl)) pa_nil)) pe_int)))
      (pss_cons (ps_setLc (i := 2) (own := [("k", 4)]) rfl sc_law_parts.nd rfl rfl (sw_true rfl rfl rfl (by decide +kernel)) (pi_range1 (by rfl) T.n_range (pa_cons (pe_op op_add pe_int (pe_op op_mod (pe_callTy call_int1 (by rfl) T.n_int (by decide +kernel) (pa_cons (pe_ix (ix_listK (K := K)) (pv 0) pe_int (fun _ _ => rfl)) pa_nil)) pe_int)) pa_nil)) (blkOk_by (N := N_law_parts) (sc := defScope s_law_parts) (by decide +kernel)) (fun _ _ _ _ _ => (pg_name (i := 4) sc_law_parts.nd rfl (Or.inl rfl))) (fun _ _ _ _ _ => pts_nil) (fun _ _ _ _ _ => (pe_op op_add pe_int (pe_op op_mod (pe_callTy call_int1 (by rfl) T.n_int (by decide +kernel) (pa_cons (pe_ix (ix_listK (K := K)) (pv 0) (pe_op op_add pe_int (pv 4)) (fun _ _ => rfl)) pa_nil)) (pv 1)))))
      (pss_cons (ps_set (i := 3) sc_law_parts.nd rfl (Or.inl rfl) (pe_disp (pps_cons pe_str (pv 2) (pps_cons pe_str (pv 1) pps_nil)) (by rfl) (by rfl) (fun z => by cases z) (by decide)))
      (pss_cons (ps_dput (hu_of hr) (pv 3) pe_str (pe_op op_add pe_int (pe_op op_mod (pe_callTy call_int1 (by rfl) T.n_int (by decide +kernel) (pa_cons (pe_ix (ix_listK (K := K)) (pv 0) pe_int (fun _ _ => rfl)) pa_nil)) (pe_ix (ix_listK (K := K)) (pe_lst (pa_cons pe_int (pa_cons pe_int pa_nil))) (pe_op op_mod (pe_callTy call_int1 (by rfl) T.n_int (by decide +kernel) (pa_cons (pe_ix (ix_listK (K := K)) (pv 0) pe_int (fun _ _ => rfl)) pa_nil)) pe_int) (fun _ _ => rfl)))) rfl)
      (pss_cons (ps_dput (hu_of hr) (pv 3) pe_str (pe_op op_add pe_int (pe_op op_mod (pe_callTy call_int1 (by rfl) T.n_int (by decide +kernel) (pa_cons (pe_ix (ix_listK (K := K)) (pv 0) pe_int (fun _ _ => rfl)) pa_nil)) (pe_ix (ix_listK (K := K)) (pe_lst (pa_cons pe_int (pa_cons pe_int pa_nil))) (pe_op op_mod (pe_callTy call_int1 (by rfl) T.n_int (by decide +kernel) (pa_cons (pe_ix (ix_listK (K := K)) (pv 0) pe_int (fun _ _ => rfl)) pa_nil)) pe_int) (fun _ _ => rfl)))) rfl)
      (pss_cons (ps_dput (hu_of hr) (pv 3) pe_str (pe_op op_add pe_int (pe_op op_mod (pe_callTy call_int1 (by rfl) T.n_int (by decide +kernel) (pa_cons (pe_ix (ix_listK (K := K)) (pv 0) pe_int (fun _ _ => rfl)) pa_nil)) (pe_ix (ix_listK (K := K)) (pe_lst (pa_cons pe_int (pa_cons pe_int pa_nil))) (pe_op op_mod (pe_callTy call_int1 (by rfl) T.n_int (by decide +kernel) (pa_cons (pe_ix (ix_listK (K := K)) (pv 0) pe_int (fun _ _ => rfl)) pa_nil)) pe_int) (fun _ _ => rfl)))) rfl)
      (pss_cons (ps_dput (hu_of hr) (pv 3) pe_str (pe_op op_add pe_int (pe_op op_mod (pe_callTy call_int1 (by rfl) T.n_int (by decide +kernel) (pa_cons (pe_ix (ix_listK (K := K)) (pv 0) pe_int (fun _ _ => rfl)) pa_nil)) (pe_ix (ix_listK (K := K)) (pe_lst (pa_cons pe_int (pa_cons pe_int pa_nil))) (pe_op op_mod (pe_callTy call_int1 (by rfl) T.n_int (by decide +kernel) (pa_cons (pe_ix (ix_listK (K := K)) (pv 0) pe_int (fun _ _ => rfl)) pa_nil)) pe_int) (fun _ _ => rfl)))) rfl)
      (pss_one (ps_ret (pv 3)))))))))), ?_⟩
    unfold sp_law_parts at h
    obtain ⟨d, f, rfl, hf, hd, k⟩ := h
    have f0 := mod_bd (x := f 0) (show (0 : Int) < 6 by decide) (Int.le_refl 6)
    have f4 := mod_bd (x := f 4) (show (0 : Int) < 3 by decide) (Int.le_refl 3)
    walk_at "rd"
    intro D n1
    have ndD : d ≠ D := ne_of_none hd n1
    refine lc_range (lo := 0) (n := Int.toNat _) (fun i G => ∃ xs : List Int, xs.length = i ∧ (∀ x ∈ xs, 1 ≤ x ∧ x ≤ 1 + f 0 % 6) ∧ G D = some (.lst (xs.map V.int)) ∧ SX [D] H G) ⟨[], rfl, fun x hx => (nomatch hx), upd_same, SX.refl.mut n1⟩ ?_ ?_
    · rintro i G hi ⟨xs, hl, hb, hD, fx⟩
      refine ⟨rfl, ?_⟩
      have hdG := fx _ _ (by simp [ndD]) hd
      have hi3 : i < 3 := by omega
      walk_at "rd"
      refine ⟨_, _, _, _, rfl, rfl, SqL.of hdG, dg_at (j := 1 + i) (by omega) (by omega), ?_⟩
      walk_at "rd"
      have b := mod_bd (x := f (1 + i)) (show 0 < 1 + f 0 % 6 by omega) (Int.le_refl _)
      refine ⟨_, hD, szlt (by rw [List.length_map]; omega), xs ++ [1 + f (1 + i) % (1 + f 0 % 6)], by rw [List.length_append, hl]; rfl, fun x hx => ?_, by rw [upd_same, List.map_append]; rfl, fx.upd (by simp)⟩
      rcases List.mem_append.mp hx with h | h
      · exact hb x h
      · rw [List.mem_singleton.mp h]; omega
    · rintro G ⟨xs, hl, hb, hD, fx⟩
      have sHG : Same H G := fun b o ho => fx _ _ (by simp [ne_of_none ho n1]) ho
      have hdG := sHG _ _ hd
      walk_at "rd"
      intro P nP
      walk_at "rd"
      refine ⟨upd_same, [(.inr "lengths", .ref D), (.inr "size", .int (1 + f 0 % 6))], rfl, Nat.le_of_ble_eq_true rfl, ?_⟩
      rw [pd_merge]
      have hPG : ∀ o2 o, upd (upd G P o2) P o = upd G P o := fun o2 o => by
        funext z
        by_cases hz : z = P
        · subst hz; rw [upd_same, upd_same]
        · rw [upd_ne hz, upd_ne hz, upd_ne hz]
      rw [hPG]
      generalize e1 : upd G P _ = G1
      obtain ⟨s1, c1⟩ := gen_new nP e1
      clear e1
      have hd1 := s1 _ _ hdG
      have hD1 := s1 _ _ hD
      walk_at "rd"
      intro q2 n2
      generalize eG2 : upd _ q2 _ = G2
      obtain ⟨s2, c2⟩ := gen_new n2 eG2
      clear eG2
      obtain ⟨m5, hm5, at5⟩ := two_at (a := 3) (b := 7) (r := f 30 % 2) (Int.emod_nonneg _ (by decide)) (Int.emod_lt_of_pos _ (by decide))
      walk_at "rd"
      refine ⟨_, _, _, _, rfl, rfl, SqL.of c2, at5, ?_⟩
      walk_at "rd"
      refine ⟨_, _, rfl, put_k (s2 _ _ c1) (Nat.le_of_ble_eq_true rfl) pd_put1, ?_⟩
      generalize e3 : upd G2 P _ = G3
      obtain ⟨s3, c3⟩ := gen_st e3
      clear e3
      have npd : d ≠ P := ne_of_none hdG nP
      have npD : D ≠ P := ne_of_none hD nP
      have hd3 := s3 _ _ npd (s2 _ _ hd1)
      walk_at "rd"
      intro q4 n4
      generalize eG4 : upd _ q4 _ = G4
      obtain ⟨s4, c4⟩ := gen_new n4 eG4
      clear eG4
      obtain ⟨m6, hm6, at6⟩ := two_at (a := 4) (b := 16) (r := f 31 % 2) (Int.emod_nonneg _ (by decide)) (Int.emod_lt_of_pos _ (by decide))
      walk_at "rd"
      refine ⟨_, _, _, _, rfl, rfl, SqL.of c4, at6, ?_⟩
      walk_at "rd"
      refine ⟨_, _, rfl, put_k (s4 _ _ c3) (Nat.le_of_ble_eq_true rfl) pd_put2, ?_⟩
      generalize e5 : upd G4 P _ = G5
      obtain ⟨s5, c5⟩ := gen_st e5
      clear e5
      have hd5 := s5 _ _ npd (s4 _ _ hd3)
      walk_at "rd"
      intro q6 n6
      generalize eG6 : upd _ q6 _ = G6
      obtain ⟨s6, c6⟩ := gen_new n6 eG6
      clear eG6
      obtain ⟨m7, hm7, at7⟩ := two_at (a := 10) (b := 40) (r := f 32 % 2) (Int.emod_nonneg _ (by decide)) (Int.emod_lt_of_pos _ (by decide))
      walk_at "rd"
      refine ⟨_, _, _, _, rfl, rfl, SqL.of c6, at7, ?_⟩
      walk_at "rd"
      refine ⟨_, _, rfl, put_k (s6 _ _ c5) (Nat.le_of_ble_eq_true rfl) pd_put3, ?_⟩
      generalize e7 : upd G6 P _ = G7
      obtain ⟨s7, c7⟩ := gen_st e7
      clear e7
      have hd7 := s7 _ _ npd (s6 _ _ hd5)
      walk_at "rd"
      intro q8 n8
      generalize eG8 : upd _ q8 _ = G8
      obtain ⟨s8, c8⟩ := gen_new n8 eG8
      clear eG8
      obtain ⟨m8, hm8, at8⟩ := two_at (a := 12) (b := 100) (r := f 33 % 2) (Int.emod_nonneg _ (by decide)) (Int.emod_lt_of_pos _ (by decide))
      walk_at "rd"
      refine ⟨_, _, _, _, rfl, rfl, SqL.of c8, at8, ?_⟩
      walk_at "rd"
      refine ⟨_, _, rfl, put_k (s8 _ _ c7) (Nat.le_of_ble_eq_true rfl) pd_put4, ?_⟩
      generalize e9 : upd G8 P _ = G9
      obtain ⟨s9, c9⟩ := gen_st e9
      clear e9
      walk_at "rd"
      have nPH : H P = none := sHG.free nP
      have hD9 := s9 _ _ npD (s8 _ _ (s7 _ _ npD (s6 _ _ (s5 _ _ npD (s4 _ _ (s3 _ _ npD (s2 _ _ hD1)))))))
      have b5 := mod_bd (x := f 5) (show 0 < m5 by omega) (show m5 ≤ 7 by omega)
      have b6 := mod_bd (x := f 6) (show 0 < m6 by omega) (show m6 ≤ 16 by omega)
      have b7 := mod_bd (x := f 7) (show 0 < m7 by omega) (show m7 ≤ 40 by omega)
      have b8 := mod_bd (x := f 8) (show 0 < m8 by omega) (show m8 ≤ 100 by omega)
      refine k P ⟨xs, 1 + f 0 % 6, 2 + f 5 % m5, 1 + f 6 % m6, 1 + f 7 % m7, 1 + f 8 % m8⟩ G9 nPH ?_ ⟨?_, ?_, hb, ?_, ?_, ⟨?_, ?_⟩, ⟨?_, ?_⟩, ⟨?_, ?_⟩, ⟨?_, ?_⟩⟩ ?_ ⟨D, c9, hD9⟩
      · intro b o ho
        have nb : b ≠ P := ne_of_none ho nPH
        exact s9 _ _ nb (s8 _ _ (s7 _ _ nb (s6 _ _ (s5 _ _ nb (s4 _ _ (s3 _ _ nb (s2 _ _ (s1 _ _ (sHG _ _ ho)))))))))
      all_goals simp only []
      all_goals omega

@[irreducible] def sp_law_settings (K : PySem.W.Frag) : Sp := fun vs H Q _ => ∃ (a : Addr) (p : Prt), vs = [.ref a] ∧ PdAt H a p ∧ p.Ok ∧ ∀ b H', H b = none → Same H H' → SetAt K H' b p → Q (.ref b) H'
theorem use_settings {K : PySem.W.Frag} {a : Addr} {p : Prt} {H : Hp} {Q : VK} {E : XK} (h : PdAt H a p) (ok : p.Ok) (k : ∀ b H', H b = none → Same H H' → SetAt K H' b p → Q (.ref b) H') : sp_law_settings K [.ref a] H Q E := by
  unfold sp_law_settings; exact ⟨a, p, rfl, h, ok, k⟩
theorem b_law_settings {K : PySem.W.Frag} {fd : FuncData} (F : F_law_settings K fd) : Binds K fd P_law_settings [] := FunD.bindsN F fun _ _ _ _ _ _ us hl => match us, hl with | [_], _ => rfl
theorem ok_law_settings (T : Txt K mg D) : FnOk P w K mg base CX0 6 (He.fAd K ("_law_settings", none)) (D D_law_settings) P_law_settings (sp_law_settings K) := by
  refine T.d_law_settings.ok sc_law_settings (fun vs H Q E h => ?_) (fun cdv A outer s H vs Q E hr h => ?_)
  · unfold sp_law_settings at h
    first | (obtain ⟨rfl, _⟩ := h; rfl) | (obtain ⟨_, rfl, _⟩ := h; rfl) | (obtain ⟨_, _, rfl, _⟩ := h; rfl) | (obtain ⟨_, _, _, rfl, _⟩ := h; rfl) | (obtain ⟨_, _, _, _, rfl, _⟩ := h; rfl) | (obtain ⟨_, _, _, _, _, rfl, _⟩ := h; rfl) | (obtain ⟨_, _, _, _, _, _, rfl, _⟩ := h; rfl) | (obtain ⟨_, _, _, _, _, _, _, rfl, _⟩ := h; rfl) | (obtain ⟨_, _, _, _, _, _, _, _, rfl, _⟩ := h; rfl) | (obtain ⟨_, _, _, _, _, _, _, _, _, rfl, _⟩ := h; rfl) | (obtain ⟨_, _, _, _, _, _, _, _, _, _, rfl, _⟩ := h; rfl) | (obtain ⟨_, _, _, _, _, _, _, _, _, _, _, rfl, _⟩ := h; rfl)
  · refine ⟨_, PSs.nox (pss_cons (ps_asg (pe_lc (own := [("word", 5)]) rfl sc_law_settings.nd (pi_list (pe_lst (pa_cons pe_str (pa_cons pe_str (pa_cons pe_str (pa_cons pe_str pa_nil)))))) (blkOk_by (N := N_law_settings) (sc := defScope s_law_settings) (by decide +kernel)) (fun _ _ _ _ _ => (pg_name (i := 5) sc_law_settings.nd rfl (Or.inl rfl))) (fun _ _ _ _ _ => pts_nil) (fun _ _ _ _ _ => (pe_dget (hu_of hr) (pv 0) (pv 5) (fun _ _ => rfl)))) (pg_unl rfl (pgs_cons (pg_name (i := 1) sc_law_settings.nd rfl (Or.inl rfl)) (pgs_cons (pg_name (i := 2) sc_law_settings.nd rfl (Or.inl rfl)) (pgs_cons (pg_name (i := 3) sc_law_settings.nd rfl (Or.inl rfl)) (pgs_cons (pg_name (i := 4) sc_law_settings.nd rfl (Or.inl rfl)) pgs_nil))))))
      (pss_one (ps_ret (pe_makeK T.mk_Settings (ok_Settings___init__ T) (hr.mono (by decide)) rfl T.g_Settings (b_Settings___init__ T.d_Settings___init__) pass0 (pa_cons (pe_dget (hu_of hr) (pv 0) pe_str (fun _ _ => rfl)) (pa_cons (pe_dget (hu_of hr) (pv 0) pe_str (fun _ _ => rfl)) pa_nil)) (pk_cons (pv 1) (pk_cons (pv 2) (pk_cons (pv 3) (pk_cons (pv 4) pk_nil)))))))), ?_⟩
    unfold sp_law_settings at h
    obtain ⟨a, p, rfl, ⟨l, ha, hl⟩, ok, k⟩ := h
    walk_at "rd"
    intro q n1
    generalize eH1 : upd _ q _ = H1
    obtain ⟨s1, c1⟩ := gen_new n1 eH1
    clear eH1
    walk_at "rd"
    have ha1 := s1 _ _ ha
    intro D n2
    have naD : a ≠ D := ne_of_none ha1 n2
    refine lc_list (K := K) (a := q) (xs := [.str "fanout", .str "records", .str "every", .str "keep"]) (fun i G => SX [D] H1 G ∧ G D = some (.lst (([.int p.fan, .int p.rec_, .int p.every, .int p.keep] : List V).take i))) ⟨SX.refl.mut n2, upd_same⟩ ?_ ?_ ?_
    · rintro i G _ ⟨f, _⟩
      exact SqL.of (f _ _ (by simp [ne_of_none c1 n2]) c1)
    · rintro i x G hx ⟨f, hD⟩
      have haG := f _ _ (by simp [naD]) ha1
      refine ⟨rfl, ?_⟩
      match i, hx with
      | 0, hx =>
        cases hx
        walk_at "rd"
        exact ⟨_, hD, szlt (Nat.le_of_ble_eq_true rfl), f.upd (by simp), upd_same⟩
      | 1, hx =>
        cases hx
        walk_at "rd"
        exact ⟨_, hD, szlt (Nat.le_of_ble_eq_true rfl), f.upd (by simp), upd_same⟩
      | 2, hx =>
        cases hx
        walk_at "rd"
        exact ⟨_, hD, szlt (Nat.le_of_ble_eq_true rfl), f.upd (by simp), upd_same⟩
      | 3, hx =>
        cases hx
        walk_at "rd"
        exact ⟨_, hD, szlt (Nat.le_of_ble_eq_true rfl), f.upd (by simp), upd_same⟩
      | i + 4, hx => simp at hx
    rintro G ⟨f, hD⟩
    have sG : Same H G := fun b o ho => f _ _ (by simp [ne_of_none (s1 _ _ ho) n2]) (s1 _ _ ho)
    have hDG : G D = some (.lst [.int p.fan, .int p.rec_, .int p.every, .int p.keep]) := hD
    have haG := sG _ _ ha
    have hlG := sG _ _ hl
    refine ⟨_, _, rfl, SqL.of hDG, rfl, ?_⟩
    walk_at "rd"
    intro b dx n ndb neb
    generalize eG2 : upd (upd _ dx _) b _ = G2
    obtain ⟨s, c⟩ := gen_mk n ndb eG2
    clear eG2
    refine use_set_init c (s _ _ hlG) ok fun H2 s2 st => ?_
    walk_at "rd"
    exact k b H2 (sG.free n) (sG.trans (same_sb_new s s2 n)) st

theorem on_ex {p : Prt} (ok : p.Ok) : ∀ r, ∃ n, On p r n
  | 0 => ⟨0, Nat.le_refl _, start_lt ok 0⟩
  | r + 1 => by
    obtain ⟨n, h1, h2⟩ := on_ex ok r
    by_cases h : r + 1 < startN p (n + 1)
    · exact ⟨n, by omega, h⟩
    · exact ⟨n + 1, by omega, by have := start_lt ok (n + 1); omega⟩
/-- the page of row r -/
noncomputable def pgN (p : Prt) (r : Nat) : Nat := open Classical in if h : ∃ n, On p r n then h.choose else 0
theorem pgN_on {p : Prt} (ok : p.Ok) (r : Nat) : On p r (pgN p r) := by
  unfold pgN
  rw [dif_pos (on_ex ok r)]
  exact (on_ex ok r).choose_spec
theorem pgN_eq {p : Prt} (ok : p.Ok) {r n : Nat} (h : On p r n) : pgN p r = n := (pgN_on ok r).uniq ok h
theorem pgN_le {p : Prt} (ok : p.Ok) (r : Nat) : pgN p r ≤ r := (pgN_on ok r).le ok
theorem pgN_mono {p : Prt} (ok : p.Ok) {r q : Nat} (h : r ≤ q) : pgN p r ≤ pgN p q := by
  by_cases c : pgN p r ≤ pgN p q
  · exact c
  · have h1 := (pgN_on ok r).1
    have h2 := (pgN_on ok q).2
    have := start_mono ok (show pgN p q + 1 ≤ pgN p r by omega)
    omega
theorem start_diff {p : Prt} (ok : p.Ok) (m : Nat) : ∀ k, startN p m + k ≤ startN p (m + k)
  | 0 => Nat.le_refl _
  | k + 1 => by have := start_diff ok m k; have := start_lt ok (m + k); rw [show m + (k + 1) = m + k + 1 by omega]; omega
theorem pgN_diff {p : Prt} (ok : p.Ok) {r q : Nat} (h : r ≤ q) : pgN p q ≤ pgN p r + (q - r) := by
  by_cases c : pgN p q ≤ pgN p r + (q - r)
  · exact c
  · have h1 := (pgN_on ok r).2
    have h2 := (pgN_on ok q).1
    have h3 := start_diff ok (pgN p r + 1) (q - r)
    have := start_mono ok (show pgN p r + 1 + (q - r) ≤ pgN p q by omega)
    omega
theorem pgN_start {p : Prt} (ok : p.Ok) (n : Nat) : pgN p (startN p n) = n := pgN_eq ok ⟨Nat.le_refl _, start_lt ok n⟩
theorem usum_hi {p : Prt} (ok : p.Ok) (r k : Nat) (h : k ≤ rowsF p r) : (k : Int) ≤ p.size := by
  have h1 := usum_ge ok r (rowsF p r)
  have h2 := (rowsF_ok ok r).1
  omega
theorem start_le_size {p : Prt} (ok : p.Ok) : ∀ n : Nat, (startN p n : Int) ≤ p.size * (n : Int)
  | 0 => by simp [startN]
  | n + 1 => by
    have h1 := start_le_size ok n
    have h2 := usum_hi ok (startN p n) _ (Nat.le_refl _)
    have e : p.size * ((n + 1 : Nat) : Int) = p.size * (n : Int) + p.size := by push_cast; rw [Int.mul_add, Int.mul_one]
    rw [e]
    simp only [startN]
    push_cast
    omega
@[irreducible] def sp_page_at (K : PySem.W.Frag) : Sp := fun vs H Q _ => ∃ (b : Addr) (p : Prt) (r : Nat), vs = [.ref b, .int r] ∧ SetAt K H b p ∧ p.Ok ∧ ∀ H', Same H H' → Q (.int (pgN p r)) H'
theorem use_page_at {K : PySem.W.Frag} {b : Addr} {p : Prt} {r : Nat} {H : Hp} {Q : VK} {E : XK} {i : Int} (hi : i = (r : Int)) (h : SetAt K H b p) (ok : p.Ok) (k : ∀ H', Same H H' → Q (.int (pgN p r)) H') : sp_page_at K [.ref b, .int i] H Q E := by
  subst hi; unfold sp_page_at; exact ⟨b, p, r, rfl, h, ok, k⟩
theorem b_page_at {K : PySem.W.Frag} {fd : FuncData} (F : F_page_at K fd) : Binds K fd P_page_at [] := FunD.bindsN F fun _ _ _ _ _ _ us hl => match us, hl with | [_, _], _ => rfl
theorem ok_page_at (T : Txt K mg D) : FnOk P w K mg base CX0 5 (He.fAd K ("page_at", none)) (D D_page_at) P_page_at (sp_page_at K) := by
  refine T.d_page_at.ok sc_page_at (fun vs H Q E h => ?_) (fun cdv A outer s H vs Q E hr h => ?_)
  · unfold sp_page_at at h
    first | (obtain ⟨rfl, _⟩ := h; rfl) | (obtain ⟨_, rfl, _⟩ := h; rfl) | (obtain ⟨_, _, rfl, _⟩ := h; rfl) | (obtain ⟨_, _, _, rfl, _⟩ := h; rfl) | (obtain ⟨_, _, _, _, rfl, _⟩ := h; rfl) | (obtain ⟨_, _, _, _, _, rfl, _⟩ := h; rfl) | (obtain ⟨_, _, _, _, _, _, rfl, _⟩ := h; rfl) | (obtain ⟨_, _, _, _, _, _, _, rfl, _⟩ := h; rfl) | (obtain ⟨_, _, _, _, _, _, _, _, rfl, _⟩ := h; rfl) | (obtain ⟨_, _, _, _, _, _, _, _, _, rfl, _⟩ := h; rfl) | (obtain ⟨_, _, _, _, _, _, _, _, _, _, rfl, _⟩ := h; rfl) | (obtain ⟨_, _, _, _, _, _, _, _, _, _, _, rfl, _⟩ := h; rfl)
  · refine ⟨_, PSs.nox (pss_one (ps_ret (pe_meth (pe_make T.mk_Packing (ok_Packing___init__ T) (hr.mono (by decide)) rfl T.g_Packing (b_Packing___init__ T.d_Packing___init__) .nil pass0 (pa_cons (pv 0) pa_nil)) T.c_Packing T.m_Packing_holder (ok_Packing_holder T) (hr.mono (by decide)) (b_Packing_holder T.d_Packing_holder) .nil pass0 (pa_cons (pv 1) pa_nil)))), ?_⟩
    unfold sp_page_at at h
    obtain ⟨b, p, r, rfl, hs, ok, k⟩ := h
    walk_at "rd"
    intro e de n6 nde nee
    generalize eH6 : upd (upd _ de _) e _ = H6
    obtain ⟨s6, c6⟩ := gen_mk n6 nde eH6
    clear eH6
    refine use_packing_init c6 (hs.same s6) ok fun H7 f1 p1 s7 cyc hpk _ => ?_
    obtain ⟨dx, t, l, h1, _, _⟩ := id hpk
    walk_at "rd"
    refine use_holder rfl hpk ok cyc fun n H8 on s8 => ?_
    rw [← pgN_eq ok on]
    exact k H8 ((same_sb_new s6 s7 n6).trans s8)

@[irreducible] def sp_first_at (K : PySem.W.Frag) : Sp := fun vs H Q _ => ∃ (b : Addr) (p : Prt) (n : Nat), vs = [.ref b, .int n] ∧ SetAt K H b p ∧ p.Ok ∧ ∀ H', Same H H' → Q (.int (startN p n)) H'
theorem use_first_at {K : PySem.W.Frag} {b : Addr} {p : Prt} {n : Nat} {H : Hp} {Q : VK} {E : XK} {i : Int} (hi : i = (n : Int)) (h : SetAt K H b p) (ok : p.Ok) (k : ∀ H', Same H H' → Q (.int (startN p n)) H') : sp_first_at K [.ref b, .int i] H Q E := by
  subst hi; unfold sp_first_at; exact ⟨b, p, n, rfl, h, ok, k⟩
theorem ip_mul {X : Cx} : PIp X .Mult (rI CMul fun i j => .int (i * j)) := iop_mul
@[irreducible] def sp_multiplied : Sp := fun vs H Q _ => ∃ (b : Int) (k : Nat), vs = [.int b, .int k] ∧ (0 ≤ b ∧ b ≤ 1000) ∧ k ≤ 1000 ∧ Q (.int (b ^ k)) H
theorem use_mult {b i : Int} {k : Nat} {H : Hp} {Q : VK} {E : XK} (hi : i = (k : Int)) (hb : 0 ≤ b ∧ b ≤ 1000) (hk : k ≤ 1000) (q : Q (.int (b ^ k)) H) : sp_multiplied [.int b, .int i] H Q E := by
  subst hi; unfold sp_multiplied; exact ⟨b, k, rfl, hb, hk, q⟩
theorem b_multiplied {K : PySem.W.Frag} {fd : FuncData} (F : F_multiplied K fd) : Binds K fd P_multiplied [] := FunD.bindsN F fun _ _ _ _ _ _ us hl => match us, hl with | [_, _], _ => rfl
theorem ok_multiplied (T : Txt K mg D) : FnOk P w K mg base CX0 1 (He.fAd K ("multiplied", none)) (D D_multiplied) P_multiplied sp_multiplied := by
  refine T.d_multiplied.ok sc_multiplied (fun vs H Q E h => ?_) (fun cdv A outer s H vs Q E hr h => ?_)
  · unfold sp_multiplied at h
    first | (obtain ⟨rfl, _⟩ := h; rfl) | (obtain ⟨_, rfl, _⟩ := h; rfl) | (obtain ⟨_, _, rfl, _⟩ := h; rfl) | (obtain ⟨_, _, _, rfl, _⟩ := h; rfl) | (obtain ⟨_, _, _, _, rfl, _⟩ := h; rfl) | (obtain ⟨_, _, _, _, _, rfl, _⟩ := h; rfl) | (obtain ⟨_, _, _, _, _, _, rfl, _⟩ := h; rfl) | (obtain ⟨_, _, _, _, _, _, _, rfl, _⟩ := h; rfl) | (obtain ⟨_, _, _, _, _, _, _, _, rfl, _⟩ := h; rfl) | (obtain ⟨_, _, _, _, _, _, _, _, _, rfl, _⟩ := h; rfl) | (obtain ⟨_, _, _, _, _, _, _, _, _, _, rfl, _⟩ := h; rfl) | (obtain ⟨_, _, _, _, _, _, _, _, _, _, _, rfl, _⟩ := h; rfl)
  · refine ⟨_, PSs.nox (pss_cons (ps_set (i := 2) sc_multiplied.nd rfl (Or.inl rfl) pe_int)
      (pss_cons (ps_for PassesOwn.never rfl (pi_range1 (by rfl) T.n_range (pa_cons (pv 1) pa_nil)) (pg_name (i := 3) sc_multiplied.nd rfl (Or.inl rfl)) (pss_one (ps_aug (i := 2) sc_multiplied.nd rfl (Or.inl rfl) (pv 0) ip_mul)))
      (pss_one (ps_ret (pv 2))))), ?_⟩
    unfold sp_multiplied at h
    obtain ⟨b, n, rfl, hb, hn, q⟩ := h
    walk_at "rd"
    refine for_range (lo := 0) (n := n) (fun i σ G => G = H ∧ ∃ v, σ = [some (.int b), some (.int n), some (.int (b ^ i)), v]) ⟨rfl, _, by rw [Int.pow_zero]; rfl⟩ ?_ ?_
    · rintro i σ G hi ⟨rfl, v, rfl⟩
      walk_at "rd"
      refine ⟨some (.int (0 + (i : Int))), ?_⟩
      rw [Int.pow_succ]
      rfl
    · rintro σ G ⟨rfl, v, rfl⟩
      walk_at "rd"
      exact q

theorem use_sl {K : PySem.W.Frag} {H : Hp} {a : Addr} {xs ys : List V} {lo hi : Option Int} {Q : VK} (h : SqL K H a xs) (e : cutV xs lo hi = ys) (k : ∀ p H', H p = none → Same H H' → H' p = some (.lst ys) → Q (.ref p) H') : rSlL K (.ref a) lo hi H Q := by
  subst e
  exact ⟨a, xs, rfl, h, fun p n => k p _ n (same_new n) upd_same⟩
theorem use_cat {K : PySem.W.Frag} {H : Hp} {a b : Addr} {xs zs : List V} {Q : VK} (h : SqL K H a xs) (h2 : SqL K H b zs) (hz : xs.length + zs.length ≤ 100000) (k : ∀ p H', H p = none → Same H H' → H' p = some (.lst (xs ++ zs)) → Q (.ref p) H') : rCatS K (.ref a) (.ref b) H Q :=
  ⟨a, b, xs, zs, rfl, rfl, h, h2, hz, k⟩
theorem dvi {i j : Int} (h : decide (V.int i = V.int j) = true) : i = j := by have := of_decide_eq_true h; injection this
theorem dvn {i j : Int} (h : ¬ decide (V.int i = V.int j) = true) : i ≠ j := fun z => h (decide_eq_true (congrArg V.int z))
theorem dct {p : Prop} [Decidable p] (h : decide p = true) : p := of_decide_eq_true h
theorem dcn {p : Prop} [Decidable p] (h : ¬ decide p = true) : ¬ p := fun z => h (decide_eq_true z)
theorem cut_to (xs : List V) (m : Nat) : cutV xs none (some (m : Int)) = xs.take m := by
  unfold cutV
  rw [HT.sIx_none, HT.sIx_nat, Nat.sub_zero, List.drop_zero]
  by_cases h : m ≤ xs.length
  · rw [Nat.min_eq_left h]
  · rw [Nat.min_eq_right (by omega), List.take_length, List.take_of_length_le (by omega)]
theorem cut_mid (xs : List V) (b e : Nat) (h : b ≤ xs.length) : cutV xs (some (b : Int)) (some (e : Int)) = (xs.take e).drop b := by
  unfold cutV
  rw [HT.sIx_nat, HT.sIx_nat, Nat.min_eq_left h, List.drop_take]
  by_cases he : e ≤ xs.length
  · rw [Nat.min_eq_left he]
  · rw [Nat.min_eq_right (by omega), List.take_of_length_le (by rw [List.length_drop]; omega), List.take_of_length_le (by rw [List.length_drop]; omega)]
theorem pt_ifE {X : Cx} {c a b : Expr} {pos : Pos} {t tA tB : TT} (hc : PT X c t) (ha : PT X a tA) (hb : PT X b tB) : PT X (.IfExp c a b pos) (fun σ H Q => t σ H fun d H1 => if d = true then tA σ H1 Q else tB σ H1 Q) := by
  refine ⟨fun pins s σ H Q I h => ?_⟩
  have e : PySem.isTrue (.IfExp c a b pos) X.env (eval (.IfExp c a b pos) X.env) = (PySem.isTrue c X.env (eval c X.env) >>= fun d => if d = true then PySem.isTrue a X.env (eval a X.env) else PySem.isTrue b X.env (eval b X.env)) := by rfl
  rw [e]
  refine wpAny_bind (thn (hc.run pins s σ H _ I h) fun d s1 ⟨H1, I1, q1⟩ => ?_)
  cases d with
  | true => exact ha.run pins s1 σ H1 Q I1 q1
  | false => exact hb.run pins s1 σ H1 Q I1 q1
/-- the first row that is kept -/
def kbN (p : Prt) (m : Nat) : Nat := m - p.keep.toNat
theorem kb_max {p : Prt} (ok : p.Ok) (m : Nat) : (if (m : Int) - p.keep > 0 then (m : Int) - p.keep else 0) = (kbN p m : Int) := by
  have := ok.k
  unfold kbN
  split <;> omega
theorem kb_le {p : Prt} (ok : p.Ok) (m : Nat) : kbN p m ≤ m ∧ m ≤ kbN p m + 100 := by
  have := ok.k
  unfold kbN
  omega
theorem kb_eq {p : Prt} (ok : p.Ok) (m : Nat) : kbN p m = m ↔ m = 0 := by
  have := ok.k
  unfold kbN
  omega
theorem least_ex {P : Nat → Prop} : ∀ n, P n → ∃ m, m ≤ n ∧ P m ∧ ∀ i, i < m → ¬ P i := by
  intro n
  induction n using Nat.strongRecOn with
  | ind n ih =>
    intro h
    by_cases c : ∃ i, i < n ∧ P i
    · obtain ⟨i, hi, hp⟩ := c
      obtain ⟨m, h1, h2, h3⟩ := ih i hi hp
      exact ⟨m, by omega, h2, h3⟩
    · exact ⟨n, Nat.le_refl n, h, fun i hi hp => c ⟨i, hi, hp⟩⟩
def IsHt (f b e L : Nat) : Prop := 1 ≤ L ∧ b / f ^ L = e / f ^ L ∧ ∀ i, 1 ≤ i → i < L → b / f ^ i ≠ e / f ^ i
theorem IsHt.uniq {f b e L M : Nat} (h : IsHt f b e L) (k : IsHt f b e M) : L = M := by
  by_cases c : L < M
  · exact absurd h.2.1 (k.2.2 L h.1 c)
  · by_cases d : M < L
    · exact absurd k.2.1 (h.2.2 M k.1 d)
    · omega
theorem pow_gt {f : Nat} (hf : 2 ≤ f) : ∀ n, n < f ^ n
  | 0 => by simp
  | n + 1 => by
    have := pow_gt hf n
    have h2 := Nat.mul_le_mul_left (f ^ n) hf
    rw [Nat.pow_succ]
    omega
theorem isht_ex {f b e : Nat} (hf : 2 ≤ f) (hb : b ≤ e) : ∃ L, IsHt f b e L ∧ L ≤ e + 1 := by
  have z : ∀ x, x ≤ e → x / f ^ (e + 1) = 0 := fun x hx => Nat.div_eq_of_lt (by have := pow_gt hf (e + 1); omega)
  obtain ⟨m, h1, h2, h3⟩ := least_ex (P := fun L => 1 ≤ L ∧ b / f ^ L = e / f ^ L) (e + 1) ⟨by omega, by rw [z b hb, z e (Nat.le_refl _)]⟩
  exact ⟨m, ⟨h2.1, h2.2, fun i hi hm he => h3 i hm ⟨hi, he⟩⟩, h1⟩
/-- the height behind so many rows -/
noncomputable def ht (p : Prt) (j : Nat) : Nat := open Classical in if j = 0 then 0 else if h : ∃ L, IsHt p.fan.toNat (pgN p (kbN p j)) (pgN p (j - 1)) L then h.choose else 0
theorem fan2 {p : Prt} (ok : p.Ok) : 2 ≤ p.fan.toNat := by have := ok.f; omega
theorem kb_pg {p : Prt} (ok : p.Ok) {j : Nat} (h : 1 ≤ j) : pgN p (kbN p j) ≤ pgN p (j - 1) := pgN_mono ok (by have := ok.k; unfold kbN; omega)
theorem ht_is {p : Prt} (ok : p.Ok) {j : Nat} (h : 1 ≤ j) : IsHt p.fan.toNat (pgN p (kbN p j)) (pgN p (j - 1)) (ht p j) := by
  obtain ⟨L, hL, _⟩ := isht_ex (fan2 ok) (kb_pg ok h)
  unfold ht
  rw [if_neg (by omega), dif_pos ⟨L, hL⟩]
  exact Exists.choose_spec (p := fun L => IsHt p.fan.toNat (pgN p (kbN p j)) (pgN p (j - 1)) L) ⟨L, hL⟩
theorem ht_zero (p : Prt) : ht p 0 = 0 := by unfold ht; rw [if_pos rfl]
theorem ht_small {p : Prt} (ok : p.Ok) {j : Nat} (h : j ≤ 1000000000000000000000000000001) : ht p j ≤ 101 := by
  by_cases h0 : j = 0
  · subst h0; rw [ht_zero]; omega
  · have hi := ht_is ok (show 1 ≤ j by omega)
    by_cases c : ht p j ≤ 101
    · exact c
    · have hne := hi.2.2 101 (by omega) (by omega)
      have hle := kb_pg ok (show 1 ≤ j by omega)
      have hb : pgN p (j - 1) < p.fan.toNat ^ 101 := by
        have h1 := pgN_le ok (j - 1)
        have h2 := Nat.pow_le_pow_left (fan2 ok) 101
        have h3 : 1000000000000000000000000000001 < 2 ^ 101 := by decide
        omega
      rw [Nat.div_eq_of_lt hb, Nat.div_eq_of_lt (Nat.lt_of_le_of_lt hle hb)] at hne
      exact absurd rfl hne
@[irreducible] def sp_check_level : Sp := fun vs H Q _ => ∃ i : Int, vs = [.int i] ∧ (0 ≤ i ∧ i ≤ 110) ∧ Q .non H
theorem use_level {i : Int} {H : Hp} {Q : VK} {E : XK} (h : 0 ≤ i ∧ i ≤ 110) (q : Q .non H) : sp_check_level [.int i] H Q E := by unfold sp_check_level; exact ⟨i, rfl, h, q⟩
theorem b_check_level {K : PySem.W.Frag} {fd : FuncData} (F : F_check_level K fd) : Binds K fd P_check_level [] := FunD.bindsN F fun _ _ _ _ _ _ us hl => match us, hl with | [_], _ => rfl
theorem ok_check_level (T : Txt K mg D) : FnOk P w K mg base CX0 3 (He.fAd K ("check_level", none)) (D D_check_level) P_check_level sp_check_level := by
  refine T.d_check_level.ok sc_check_level (fun vs H Q E h => ?_) (fun cdv A outer s H vs Q E hr h => ?_)
  · unfold sp_check_level at h
    first | (obtain ⟨rfl, _⟩ := h; rfl) | (obtain ⟨_, rfl, _⟩ := h; rfl) | (obtain ⟨_, _, rfl, _⟩ := h; rfl) | (obtain ⟨_, _, _, rfl, _⟩ := h; rfl) | (obtain ⟨_, _, _, _, rfl, _⟩ := h; rfl) | (obtain ⟨_, _, _, _, _, rfl, _⟩ := h; rfl) | (obtain ⟨_, _, _, _, _, _, rfl, _⟩ := h; rfl) | (obtain ⟨_, _, _, _, _, _, _, rfl, _⟩ := h; rfl) | (obtain ⟨_, _, _, _, _, _, _, _, rfl, _⟩ := h; rfl) | (obtain ⟨_, _, _, _, _, _, _, _, _, rfl, _⟩ := h; rfl) | (obtain ⟨_, _, _, _, _, _, _, _, _, _, rfl, _⟩ := h; rfl) | (obtain ⟨_, _, _, _, _, _, _, _, _, _, _, rfl, _⟩ := h; rfl)
  · refine ⟨_, PSs.nox (pss_one (ps_if (pt_not (pt_val (pe_call (ok_is_between T) (hr.mono (by decide)) rfl T.g_is_between T.d_is_between.kp (b_is_between T.d_is_between) .nil pass0 (pa_cons (pv 0) (pa_cons pe_int (pa_cons (pe_globi T.i_MOST_LEVEL) pa_nil)))))) (pss_one ps_never) pss_nil)), ?_⟩
    unfold sp_check_level at h
    obtain ⟨i, rfl, h, q⟩ := h
    walk_at "rd"
    refine use_between ?_
    rw [decide_eq_true h]
    walk_at "rd"
    exact q

/-- the heap pages of rows b .. e - 1: the first one, and the one behind the last one -/
noncomputable def lvF (p : Prt) (b e : Nat) : Nat := if b = e then 0 else pgN p b
noncomputable def lvA (p : Prt) (b e : Nat) : Nat := if b = e then 0 else pgN p (e - 1) + 1
@[irreducible] def sp_pages_of (K : PySem.W.Frag) : Sp := fun vs H Q _ => ∃ (s : Addr) (p : Prt) (b e : Nat), vs = [.ref s, .int b, .int e] ∧ SetAt K H s p ∧ p.Ok ∧ b ≤ e ∧ ∀ q H', H q = none → Same H H' → H' q = some (.tup [.int (lvF p b e : Nat), .int (lvA p b e : Nat)]) → Q (.ref q) H'
theorem use_pages_of {K : PySem.W.Frag} {s : Addr} {p : Prt} {b e : Nat} {i j : Int} {H : Hp} {Q : VK} {E : XK} (hi : i = (b : Int)) (hj : j = (e : Int)) (hs : SetAt K H s p) (ok : p.Ok) (hbe : b ≤ e)
  (k : ∀ q H', H q = none → Same H H' → H' q = some (.tup [.int (lvF p b e : Nat), .int (lvA p b e : Nat)]) → Q (.ref q) H') : sp_pages_of K [.ref s, .int i, .int j] H Q E := by subst hi hj; unfold sp_pages_of; exact ⟨s, p, b, e, rfl, hs, ok, hbe, k⟩
theorem b_pages_of {K : PySem.W.Frag} {fd : FuncData} (F : F_pages_of K fd) : Binds K fd P_pages_of [] := FunD.bindsN F fun _ _ _ _ _ _ us hl => match us, hl with | [_, _, _], _ => rfl
theorem ok_pages_of (T : Txt K mg D) : FnOk P w K mg base CX0 6 (He.fAd K ("pages_of", none)) (D D_pages_of) P_pages_of (sp_pages_of K) := by
  refine T.d_pages_of.ok sc_pages_of (fun vs H Q E h => ?_) (fun cdv A outer s H vs Q E hr h => ?_)
  · unfold sp_pages_of at h
    first | (obtain ⟨rfl, _⟩ := h; rfl) | (obtain ⟨_, rfl, _⟩ := h; rfl) | (obtain ⟨_, _, rfl, _⟩ := h; rfl) | (obtain ⟨_, _, _, rfl, _⟩ := h; rfl) | (obtain ⟨_, _, _, _, rfl, _⟩ := h; rfl) | (obtain ⟨_, _, _, _, _, rfl, _⟩ := h; rfl) | (obtain ⟨_, _, _, _, _, _, rfl, _⟩ := h; rfl) | (obtain ⟨_, _, _, _, _, _, _, rfl, _⟩ := h; rfl) | (obtain ⟨_, _, _, _, _, _, _, _, rfl, _⟩ := h; rfl) | (obtain ⟨_, _, _, _, _, _, _, _, _, rfl, _⟩ := h; rfl) | (obtain ⟨_, _, _, _, _, _, _, _, _, _, rfl, _⟩ := h; rfl) | (obtain ⟨_, _, _, _, _, _, _, _, _, _, _, rfl, _⟩ := h; rfl)
  · refine ⟨_, PSs.nox (pss_cons (ps_if (pt_cmpR op_eq (pv 1) (pv 2) (nomark _)) (pss_one (ps_ret (pe_tup (pa_cons pe_int (pa_cons pe_int pa_nil))))) pss_nil)
      (pss_one (ps_ret (pe_tup (pa_cons (pe_call (ok_page_at T) (hr.mono (by decide)) rfl T.g_page_at T.d_page_at.kp (b_page_at T.d_page_at) .nil pass0 (pa_cons (pv 0) (pa_cons (pv 1) pa_nil))) (pa_cons (pe_op op_add (pe_call (ok_page_at T) (hr.mono (by decide)) rfl T.g_page_at T.d_page_at.kp (b_page_at T.d_page_at) .nil pass0 (pa_cons (pv 0) (pa_cons (pe_op op_sub (pv 2) pe_int) pa_nil))) pe_int) pa_nil)))))), ?_⟩
    unfold sp_pages_of at h
    obtain ⟨s, p, b, e, rfl, hs, ok, hbe, k⟩ := h
    unfold lvF lvA at k
    walk_at "rd"
    refine ite2 (fun c => ?_) (fun c => ?_)
    · have c := dvi c
      have c : b = e := by omega
      walk_at "rd"
      intro q n
      generalize eG : upd _ q _ = G
      obtain ⟨g, hq⟩ := gen_new n eG
      clear eG
      exact k q G n g (by rw [hq, if_pos c, if_pos c]; rfl)
    · have c := dvn c
      have c : ¬ b = e := by omega
      walk_at "rd"
      refine use_page_at rfl hs ok fun G1 g1 => ?_
      walk_at "rd"
      refine use_page_at (r := e - 1) (by omega) (hs.same g1) ok fun G2 g2 => ?_
      walk_at "rd"
      intro q n3
      generalize eG3 : upd _ q _ = G3
      obtain ⟨g3, hq⟩ := gen_new n3 eG3
      clear eG3
      exact k q G3 ((g1.trans g2).free n3) ((g1.trans g2).trans g3) (by rw [hq, if_neg c, if_neg c]; rfl)

@[irreducible] def sp_live (K : PySem.W.Frag) : Sp := fun vs H Q _ => ∃ (s : Addr) (p : Prt) (m : Nat), vs = [.ref s, .int m] ∧ SetAt K H s p ∧ p.Ok ∧ ∀ q H', H q = none → Same H H' → H' q = some (.tup [.int (lvF p (kbN p m) m : Nat), .int (lvA p (kbN p m) m : Nat)]) → Q (.ref q) H'
theorem use_live {K : PySem.W.Frag} {s : Addr} {p : Prt} {m : Nat} {i : Int} {H : Hp} {Q : VK} {E : XK} (hi : i = (m : Int)) (hs : SetAt K H s p) (ok : p.Ok)
  (k : ∀ q H', H q = none → Same H H' → H' q = some (.tup [.int (lvF p (kbN p m) m : Nat), .int (lvA p (kbN p m) m : Nat)]) → Q (.ref q) H') : sp_live K [.ref s, .int i] H Q E := by subst hi; unfold sp_live; exact ⟨s, p, m, rfl, hs, ok, k⟩
theorem b_live {K : PySem.W.Frag} {fd : FuncData} (F : F_live K fd) : Binds K fd P_live [] := FunD.bindsN F fun _ _ _ _ _ _ us hl => match us, hl with | [_, _], _ => rfl
theorem ok_live (T : Txt K mg D) : FnOk P w K mg base CX0 7 (He.fAd K ("live", none)) (D D_live) P_live (sp_live K) := by
  refine T.d_live.ok sc_live (fun vs H Q E h => ?_) (fun cdv A outer s H vs Q E hr h => ?_)
  · unfold sp_live at h
    first | (obtain ⟨rfl, _⟩ := h; rfl) | (obtain ⟨_, rfl, _⟩ := h; rfl) | (obtain ⟨_, _, rfl, _⟩ := h; rfl) | (obtain ⟨_, _, _, rfl, _⟩ := h; rfl) | (obtain ⟨_, _, _, _, rfl, _⟩ := h; rfl) | (obtain ⟨_, _, _, _, _, rfl, _⟩ := h; rfl) | (obtain ⟨_, _, _, _, _, _, rfl, _⟩ := h; rfl) | (obtain ⟨_, _, _, _, _, _, _, rfl, _⟩ := h; rfl) | (obtain ⟨_, _, _, _, _, _, _, _, rfl, _⟩ := h; rfl) | (obtain ⟨_, _, _, _, _, _, _, _, _, rfl, _⟩ := h; rfl) | (obtain ⟨_, _, _, _, _, _, _, _, _, _, rfl, _⟩ := h; rfl) | (obtain ⟨_, _, _, _, _, _, _, _, _, _, _, rfl, _⟩ := h; rfl)
  · refine ⟨_, PSs.nox (pss_one (ps_ret (pe_call (ok_pages_of T) (hr.mono (by decide)) rfl T.g_pages_of T.d_pages_of.kp (b_pages_of T.d_pages_of) .nil pass0 (pa_cons (pv 0) (pa_cons (pe_callB (call_max2 rfl) (by rfl) T.n_max (by decide +kernel) (pa_cons pe_int (pa_cons (pe_op op_sub (pv 1) (pe_fldK (K := K) (pv 0) rfl)) pa_nil))) (pa_cons (pv 1) pa_nil)))))), ?_⟩
    unfold sp_live at h
    obtain ⟨s, p, m, rfl, hs, ok, k⟩ := h
    obtain ⟨dx, t, hb, _⟩ := id hs
    walk_at "rd"
    exact use_pages_of (b := kbN p m) (kb_max ok m) rfl hs ok (kb_le ok m).1 k

@[irreducible] def sp_root_level : Sp := fun vs H Q _ => ∃ (b e L : Nat) (f : Int), vs = [.int b, .int e, .int f] ∧ (2 ≤ f ∧ f ≤ 8) ∧ IsHt f.toNat b e L ∧ Q (.int ((L - 1 : Nat) : Int)) H
theorem use_root_level {b e L : Nat} {f i j : Int} {H : Hp} {Q : VK} {E : XK} (hi : i = (b : Int)) (hj : j = (e : Int)) (hf : 2 ≤ f ∧ f ≤ 8) (h : IsHt f.toNat b e L) (q : Q (.int ((L - 1 : Nat) : Int)) H) : sp_root_level [.int i, .int j, .int f] H Q E := by
  subst hi hj; unfold sp_root_level; exact ⟨b, e, L, f, rfl, hf, h, q⟩
theorem div_pow {f : Int} (hf : 2 ≤ f) (x k : Nat) : ((x / f.toNat ^ k : Nat) : Int) / f = ((x / f.toNat ^ (k + 1) : Nat) : Int) := by
  rw [Nat.pow_succ, ← Nat.div_div_eq_div_mul, Int.natCast_ediv (x / f.toNat ^ k), Int.toNat_of_nonneg (by omega)]
theorem div_one' {f : Int} (hf : 2 ≤ f) (x : Nat) : (x : Int) / f = ((x / f.toNat ^ 1 : Nat) : Int) := by
  have := div_pow hf x 0
  rw [Nat.pow_zero, Nat.div_one] at this
  exact this
theorem b_root_level {K : PySem.W.Frag} {fd : FuncData} (F : F_root_level K fd) : Binds K fd P_root_level [] := FunD.bindsN F fun _ _ _ _ _ _ us hl => match us, hl with | [_, _, _], _ => rfl
theorem ok_root_level (T : Txt K mg D) : FnOk P w K mg base CX0 1 (He.fAd K ("root_level", none)) (D D_root_level) P_root_level sp_root_level := by
  refine T.d_root_level.ok sc_root_level (fun vs H Q E h => ?_) (fun cdv A outer s H vs Q E hr h => ?_)
  · unfold sp_root_level at h
    first | (obtain ⟨rfl, _⟩ := h; rfl) | (obtain ⟨_, rfl, _⟩ := h; rfl) | (obtain ⟨_, _, rfl, _⟩ := h; rfl) | (obtain ⟨_, _, _, rfl, _⟩ := h; rfl) | (obtain ⟨_, _, _, _, rfl, _⟩ := h; rfl) | (obtain ⟨_, _, _, _, _, rfl, _⟩ := h; rfl) | (obtain ⟨_, _, _, _, _, _, rfl, _⟩ := h; rfl) | (obtain ⟨_, _, _, _, _, _, _, rfl, _⟩ := h; rfl) | (obtain ⟨_, _, _, _, _, _, _, _, rfl, _⟩ := h; rfl) | (obtain ⟨_, _, _, _, _, _, _, _, _, rfl, _⟩ := h; rfl) | (obtain ⟨_, _, _, _, _, _, _, _, _, _, rfl, _⟩ := h; rfl) | (obtain ⟨_, _, _, _, _, _, _, _, _, _, _, rfl, _⟩ := h; rfl)
  · refine ⟨_, PSs.nox (pss_cons (ps_par3 (i := 0) (j := 1) (l := 3) rfl sc_root_level.nd rfl rfl rfl (by decide) (by decide) (by decide) rfl rfl rfl (pa_cons (pe_op op_fdivW (pv 0) (pv 2)) (pa_cons (pe_op op_fdivW (pv 1) (pv 2)) (pa_cons pe_int pa_nil))) (by rfl))
      (pss_cons (ps_while PassesOwn.never (pt_cmpR op_ne (pv 0) (pv 1) (nomark _)) (pss_one (ps_par3 (i := 0) (j := 1) (l := 3) rfl sc_root_level.nd rfl rfl rfl (by decide) (by decide) (by decide) rfl rfl rfl (pa_cons (pe_op op_fdivW (pv 0) (pv 2)) (pa_cons (pe_op op_fdivW (pv 1) (pv 2)) (pa_cons (pe_op op_add (pv 3) pe_int) pa_nil))) (by rfl))))
      (pss_one (ps_ret (pv 3))))), ?_⟩
    unfold sp_root_level at h
    obtain ⟨b, e, L, f, rfl, ⟨f0, f1⟩, hL, q⟩ := h
    walk_at "rd"
    refine ⟨fun m σ H' => H' = H ∧ ∃ i : Nat, σ = [some (.int (b / f.toNat ^ (i + 1) : Nat)), some (.int (e / f.toNat ^ (i + 1) : Nat)), some (.int f), some (.int (i : Nat))] ∧ i + 1 ≤ L ∧ m = L - i, ⟨L, rfl, 0, ?_, hL.1, rfl⟩, ?_⟩
    · exact congr (congrArg (fun u v : Int => ([some (.int u), some (.int v), some (.int f), some (.int 0)] : L2.St)) (div_one' f0 b)) (div_one' f0 e)
    rintro m σ H' ⟨rfl, i, rfl, hi, rfl⟩
    walk_at "rd"
    refine iteB (fun d => ?_) (fun d => ?_)
    · have hne : b / f.toNat ^ (i + 1) ≠ e / f.toNat ^ (i + 1) := fun z => by
        rw [z, decide_eq_true rfl] at d
        cases d
      have hlt : i + 1 < L := by
        by_cases z : i + 1 = L
        · rw [z] at hne; exact absurd hL.2.1 hne
        · omega
      refine ⟨fun σ' H'' => ∃ m', m' < L - i ∧ H'' = H' ∧ ∃ i : Nat, σ' = [some (.int (b / f.toNat ^ (i + 1) : Nat)), some (.int (e / f.toNat ^ (i + 1) : Nat)), some (.int f), some (.int (i : Nat))] ∧ i + 1 ≤ L ∧ m' = L - i, fun _ _ h => h, ?_⟩
      walk_at "rd"
      refine ⟨L - (i + 1), by omega, rfl, i + 1, ?_, hlt, rfl⟩
      exact congr (congrArg (fun u v : Int => ([some (.int u), some (.int v), some (.int f), some (.int ((i + 1 : Nat) : Int))] : L2.St)) (div_pow f0 b (i + 1))) (div_pow f0 e (i + 1))
    · have heq : b / f.toNat ^ (i + 1) = e / f.toNat ^ (i + 1) := by
        have d2 := of_decide_eq_true (show decide (V.int ((b / f.toNat ^ (i + 1) : Nat) : Int) = V.int ((e / f.toNat ^ (i + 1) : Nat) : Int)) = true by revert d; cases decide (V.int ((b / f.toNat ^ (i + 1) : Nat) : Int) = V.int ((e / f.toNat ^ (i + 1) : Nat) : Int)) <;> simp)
        injection d2 with d2
        omega
      have hiL : i + 1 = L := by
        by_cases z : i + 1 = L
        · exact z
        · exact absurd heq (hL.2.2 (i + 1) (by omega) (by omega))
      walk_at "rd"
      rw [show L - 1 = i by omega] at q
      exact q

theorem ne_same {v : V} {H : Hp} {Q : VK} (h : scal v v = true) (q : Q (.bl false) H) : rNe v v H Q := by
  refine ⟨h, ?_⟩
  rw [decide_eq_true rfl]
  exact q
theorem iteNeS {v : V} {A B : Prop} (b : B) : if (!decide (v = v)) = true then A else B := by
  rw [decide_eq_true rfl]
  exact b
theorem neN_same {K : PySem.W.Frag} {H : Hp} {a b : Addr} {xs : List Int} {Q : VK} (h1 : H a = some (.tup (xs.map V.int))) (h2 : H b = some (.tup (xs.map V.int))) (q : Q (.bl false) H) : rNeN K (.ref a) (.ref b) H Q :=
  use_neN (.tup (SqT.of h1) (dp_pyi xs)) (.tup (SqT.of h2) (dp_pyi xs)) (nb_tup _) (nb_tup _) fun c hc => by
    cases c with
    | false => exact q
    | true => exact absurd rfl (hc.1 rfl)
theorem eqN_same {K : PySem.W.Frag} {H : Hp} {a b : Addr} {xs : List Int} {Q : VK} (h1 : H a = some (.tup (xs.map V.int))) (h2 : H b = some (.tup (xs.map V.int))) (q : Q (.bl true) H) : rEqN K (.ref a) (.ref b) H Q :=
  use_eqN (.tup (SqT.of h1) (dp_pyi xs)) (.tup (SqT.of h2) (dp_pyi xs)) (nb_tup _) (nb_tup _) fun c hc => by
    cases c with
    | true => exact q
    | false => exact absurd (hc.2 rfl) (by intro z; cases z)
theorem iteNe {v u : V} {A B : Prop} (h : v = u) (b : B) : if (!decide (v = u)) = true then A else B := by
  subst h
  exact iteNeS b
/-- pairs, as written tuples -/
def PrsL (H : Hp) : List V → List (Int × Int) → Prop
  | [], [] => True
  | x :: xs, p :: ps => (∃ a, x = .ref a ∧ H a = some (.tup [.int p.1, .int p.2])) ∧ PrsL H xs ps
  | _, _ => False
def KT (H H' : Hp) : Prop := ∀ a ys, H a = some (.tup ys) → H' a = some (.tup ys)
theorem PrsL.mono {H H' : Hp} (k : KT H H') : ∀ {xs : List V} {ps : List (Int × Int)}, PrsL H xs ps → PrsL H' xs ps
  | [], [], _ => True.intro
  | x :: xs, p :: ps, ⟨⟨a, e, h⟩, r⟩ => ⟨⟨a, e, k _ _ h⟩, PrsL.mono k r⟩
  | [], _ :: _, h => h.elim
  | _ :: _, [], h => h.elim
theorem PrsL.push {H : Hp} {a : Addr} {p : Int × Int} (ha : H a = some (.tup [.int p.1, .int p.2])) : ∀ {xs : List V} {ps : List (Int × Int)}, PrsL H xs ps → PrsL H (xs ++ [.ref a]) (ps ++ [p])
  | [], [], _ => ⟨⟨a, rfl, ha⟩, True.intro⟩
  | x :: xs, q :: ps, ⟨h, r⟩ => ⟨h, PrsL.push ha r⟩
  | [], _ :: _, h => h.elim
  | _ :: _, [], h => h.elim
theorem PrsL.len {H : Hp} : ∀ {xs : List V} {ps : List (Int × Int)}, PrsL H xs ps → xs.length = ps.length
  | [], [], _ => rfl
  | x :: xs, q :: ps, ⟨_, r⟩ => congrArg (· + 1) (PrsL.len r)
  | [], _ :: _, h => h.elim
  | _ :: _, [], h => h.elim
def prD (p : Int × Int) : PyData := .tuple [.int p.1, .int p.2]
theorem PrsL.dp {K : PySem.W.Frag} {H : Hp} : ∀ {xs : List V} {ps : List (Int × Int)}, PrsL H xs ps → DpAll K H xs (ps.map prD)
  | [], [], _ => .nil
  | x :: xs, q :: ps, ⟨⟨a, e, h⟩, r⟩ => by
    subst e
    exact .cons (.tup (SqT.of h) (.cons (.int _) (.cons (.int _) .nil))) (PrsL.dp r)
  | [], _ :: _, h => h.elim
  | _ :: _, [], h => h.elim
theorem nb_prs : ∀ ps : List (Int × Int), nbA (ps.map prD) = true ∧ PyData.depthAll (ps.map prD) ≤ 1
  | [] => ⟨rfl, by decide⟩
  | p :: ps => by
    obtain ⟨h1, h2⟩ := nb_prs ps
    constructor
    · show (nbD (prD p) && nbA (ps.map prD)) = true
      rw [h1]
      rfl
    · show max (PyData.depth (prD p)) (PyData.depthAll (ps.map prD)) ≤ 1
      have : PyData.depth (prD p) = 1 := rfl
      omega
theorem nb_prl (ps : List (Int × Int)) : NB (.list (ps.map prD)) := ⟨(nb_prs ps).1, by show PyData.depthAll (ps.map prD) + 1 ≤ 64; have := (nb_prs ps).2; omega⟩
theorem kt_same {H H' : Hp} (s : Same H H') : KT H H' := fun a ys h => s _ _ h
theorem kt_upd {H : Hp} {q : Addr} {xs : List V} {o : HO} (h : H q = some (.lst xs)) : KT H (upd H q o) := fun a ys e => by rw [upd_ne (ne_of e h (fun z => nomatch z))]; exact e
theorem KT.trans {H H1 H2 : Hp} (a : KT H H1) (b : KT H1 H2) : KT H H2 := fun c ys h => b _ _ (a _ _ h)
theorem neL_prs {K : PySem.W.Frag} {H : Hp} {a b : Addr} {xs ys : List V} {ps : List (Int × Int)} {Q : VK} (h1 : H a = some (.lst xs)) (h2 : H b = some (.lst ys)) (p1 : PrsL H xs ps) (p2 : PrsL H ys ps) (q : Q (.bl false) H) : rNeN K (.ref a) (.ref b) H Q :=
  use_neN (.lst (SqL.of h1) p1.dp) (.lst (SqL.of h2) p2.dp) (nb_prl _) (nb_prl _) fun c hc => by
    cases c with
    | false => exact q
    | true => exact absurd rfl (hc.1 rfl)
theorem neL_ints {K : PySem.W.Frag} {H : Hp} {a b : Addr} {xs : List Int} {Q : VK} (h1 : H a = some (.lst (xs.map V.int))) (h2 : H b = some (.lst (xs.map V.int))) (q : Q (.bl false) H) : rNeN K (.ref a) (.ref b) H Q :=
  use_neN (.lst (SqL.of h1) (dp_pyi xs)) (.lst (SqL.of h2) (dp_pyi xs)) (nb_list _) (nb_list _) fun c hc => by
    cases c with
    | false => exact q
    | true => exact absurd rfl (hc.1 rfl)
theorem srt_uniq : ∀ {xs ys : List Int}, xs.Pairwise (· < ·) → ys.Pairwise (· < ·) → (∀ k, k ∈ xs ↔ k ∈ ys) → xs = ys
  | [], [], _, _, _ => rfl
  | [], y :: ys, _, _, h => absurd ((h y).mpr (List.mem_cons_self ..)) (by simp)
  | x :: xs, [], _, _, h => absurd ((h x).mp (List.mem_cons_self ..)) (by simp)
  | x :: xs, y :: ys, h1, h2, h => by
    obtain ⟨a1, a2⟩ := List.pairwise_cons.mp h1
    obtain ⟨b1, b2⟩ := List.pairwise_cons.mp h2
    have e : x = y := by
      rcases List.mem_cons.mp ((h x).mp (List.mem_cons_self ..)) with c | c
      · exact c
      · rcases List.mem_cons.mp ((h y).mpr (List.mem_cons_self ..)) with d | d
        · exact d.symm
        · have := b1 x c; have := a1 y d; omega
    subst e
    congr 1
    refine srt_uniq a2 b2 fun k => ⟨fun hk => ?_, fun hk => ?_⟩
    · rcases List.mem_cons.mp ((h k).mp (List.mem_cons_of_mem _ hk)) with c | c
      · have := a1 k hk; omega
      · exact c
    · rcases List.mem_cons.mp ((h k).mpr (List.mem_cons_of_mem _ hk)) with c | c
      · have := b1 k hk; omega
      · exact c
theorem srt_perm {xs ys : List Int} (h : xs.Perm ys) (s : xs.Pairwise (· ≤ ·)) (t : ys.Pairwise (· < ·)) : xs = ys :=
  srt_uniq (L2.lt_of_le_nodup _ s (h.nodup_iff.mpr (t.imp fun h => by omega))) t fun k => h.mem_iff
/-- n numbers from x on -/
def ivI (x n : Nat) : List Int := (List.range n).map fun k => ((x + k : Nat) : Int)
theorem ivI_mem {x n : Nat} {k : Int} : k ∈ ivI x n ↔ (x : Int) ≤ k ∧ k < (x : Int) + n := by
  unfold ivI
  rw [List.mem_map]
  constructor
  · rintro ⟨i, hi, rfl⟩; have := List.mem_range.mp hi; omega
  · rintro ⟨h1, h2⟩; exact ⟨k.toNat - x, List.mem_range.mpr (by omega), by omega⟩
theorem ivI_srt (x n : Nat) : (ivI x n).Pairwise (· < ·) := by
  unfold ivI
  rw [List.pairwise_map]
  exact List.pairwise_lt_range.imp fun h => by omega
theorem ivI_len (x n : Nat) : (ivI x n).length = n := by unfold ivI; rw [List.length_map, List.length_range]
theorem ivI_get {x n j : Nat} (h : j < n) : (ivI x n)[j]? = some ((x + j : Nat) : Int) := by
  unfold ivI; rw [List.getElem?_map, List.getElem?_range h]; rfl
/-- the pages of a level -/
def lvW (f b e i : Nat) : Nat := e / f ^ (i + 1) + 1 - b / f ^ (i + 1)
def lvT (i x n : Nat) : List (Int × Int) := (List.range n).map fun k => ((i : Int), ((x + k : Nat) : Int))
theorem lvT_succ (i x n : Nat) : lvT i x (n + 1) = lvT i x n ++ [((i : Int), ((x + n : Nat) : Int))] := by unfold lvT; rw [List.range_succ, List.map_append]; rfl
theorem lvT_len (i x n : Nat) : (lvT i x n).length = n := by unfold lvT; rw [List.length_map, List.length_range]
theorem lvT_mem {i x n : Nat} {q : Int × Int} : q ∈ lvT i x n ↔ q.1 = i ∧ (x : Int) ≤ q.2 ∧ q.2 < (x : Int) + n := by
  unfold lvT
  rw [List.mem_map]
  constructor
  · rintro ⟨k, hk, rfl⟩; have := List.mem_range.mp hk; exact ⟨rfl, by dsimp only; omega, by dsimp only; omega⟩
  · rintro ⟨h0, h1, h2⟩
    obtain ⟨a, c⟩ := q
    dsimp only at h0 h1 h2
    exact ⟨c.toNat - x, List.mem_range.mpr (by omega), by rw [h0]; exact congrArg (Prod.mk (i : Int)) (by omega)⟩
def lvN (f b e i : Nat) : List (Int × Int) := lvT i (b / f ^ (i + 1)) (lvW f b e i)
def ndN (f b e : Nat) : Nat → List (Int × Int)
  | 0 => []
  | n + 1 => ndN f b e n ++ lvN f b e n
theorem ndN_mem {f b e : Nat} {q : Int × Int} : ∀ {n : Nat}, q ∈ ndN f b e n ↔ ∃ i, i < n ∧ q ∈ lvN f b e i
  | 0 => ⟨fun h => by simp [ndN] at h, fun ⟨i, h, _⟩ => by omega⟩
  | n + 1 => by
    simp only [ndN]
    rw [List.mem_append, ndN_mem]
    constructor
    · rintro (⟨i, h1, h2⟩ | h)
      · exact ⟨i, by omega, h2⟩
      · exact ⟨n, by omega, h⟩
    · rintro ⟨i, h1, h2⟩
      by_cases c : i = n
      · subst c; exact .inr h2
      · exact .inl ⟨i, by omega, h2⟩
theorem lvN_mem {f b e i : Nat} (hbe : b ≤ e) {q : Int × Int} : q ∈ lvN f b e i ↔ q.1 = i ∧ ((b / f ^ (i + 1) : Nat) : Int) ≤ q.2 ∧ q.2 ≤ ((e / f ^ (i + 1) : Nat) : Int) := by
  have h := Nat.div_le_div_right (c := f ^ (i + 1)) hbe
  unfold lvN lvW
  rw [lvT_mem]
  generalize b / f ^ (i + 1) = x at h ⊢
  generalize e / f ^ (i + 1) = y at h ⊢
  constructor
  · rintro ⟨h0, h1, h2⟩; exact ⟨h0, h1, by omega⟩
  · rintro ⟨h0, h1, h2⟩; exact ⟨h0, h1, by omega⟩
theorem ndN_len {f b e : Nat} (he : e ≤ 1000) : ∀ n, (ndN f b e n).length ≤ 1001 * n
  | 0 => by simp [ndN]
  | n + 1 => by
    simp only [ndN]
    have := ndN_len (f := f) (b := b) he n
    have h2 : e / f ^ (n + 1) ≤ e := Nat.div_le_self _ _
    rw [List.length_append]
    unfold lvN lvW
    rw [lvT_len]
    generalize e / f ^ (n + 1) = u at h2 ⊢
    generalize b / f ^ (n + 1) = v
    omega
theorem isht_10 {f b e L : Nat} (hf : 2 ≤ f) (h : IsHt f b e L) (hbe : b ≤ e) (he : e ≤ 1000) : L ≤ 10 := by
  by_cases z : L ≤ 10
  · exact z
  · have hne := h.2.2 10 (by omega) (by omega)
    have h2 := Nat.pow_le_pow_left hf 10
    have h3 : (1000 : Nat) < 2 ^ 10 := by decide
    rw [Nat.div_eq_of_lt (show e < f ^ 10 by omega), Nat.div_eq_of_lt (show b < f ^ 10 by omega)] at hne
    exact absurd rfl hne
/-- the last node -/
theorem ndN_top {f b e L : Nat} (h : IsHt f b e L) : ndN f b e L = ndN f b e (L - 1) ++ [(((L - 1 : Nat) : Int), ((e / f ^ L : Nat) : Int))] := by
  obtain ⟨h1, h2, _⟩ := h
  match L, h1 with
  | L + 1, _ =>
    rw [Nat.add_sub_cancel]
    show ndN f b e L ++ lvN f b e L = _
    congr 1
    unfold lvN lvW
    rw [h2, show e / f ^ (L + 1) + 1 - e / f ^ (L + 1) = 0 + 1 by omega, lvT_succ]
    rfl
theorem PrsL.app {H : Hp} : ∀ {xs ys : List V} {ps qs : List (Int × Int)}, PrsL H xs ps → PrsL H ys qs → PrsL H (xs ++ ys) (ps ++ qs)
  | [], _, [], _, _, h => h
  | x :: xs, _, q :: ps, _, ⟨h, r⟩, g => ⟨h, PrsL.app r g⟩
  | [], _, _ :: _, _, h, _ => h.elim
  | _ :: _, _, [], _, h, _ => h.elim
theorem PrsL.mem {H : Hp} : ∀ {xs : List V} {ps : List (Int × Int)}, PrsL H xs ps → ∀ v ∈ xs, ∃ a q, v = .ref a ∧ H a = some (.tup [.int q.1, .int q.2]) ∧ q ∈ ps
  | [], [], _, v, hv => (nomatch hv)
  | x :: xs, q :: ps, ⟨⟨a, e, h⟩, r⟩, v, hv => by
    rcases List.mem_cons.mp hv with c | c
    · subst c; exact ⟨a, q, e, h, List.mem_cons_self ..⟩
    · obtain ⟨a', q', e1, e2, e3⟩ := PrsL.mem r v c
      exact ⟨a', q', e1, e2, List.mem_cons_of_mem _ e3⟩
  | [], _ :: _, h, _, _ => h.elim
  | _ :: _, [], h, _, _ => h.elim
theorem PrsL.get {H : Hp} : ∀ {xs : List V} {ps : List (Int × Int)} {j : Nat} {x : V}, PrsL H xs ps → xs[j]? = some x → ∃ a q, x = .ref a ∧ H a = some (.tup [.int q.1, .int q.2]) ∧ ps[j]? = some q
  | x :: xs, q :: ps, 0, _, ⟨⟨a, e, h⟩, r⟩, rfl => ⟨a, q, e, h, rfl⟩
  | x :: xs, q :: ps, j + 1, y, ⟨_, r⟩, hy => by
    have hy : xs[j]? = some y := by simpa using hy
    obtain ⟨a, q', e1, e2, e3⟩ := PrsL.get r hy
    exact ⟨a, q', e1, e2, by simpa using e3⟩
  | [], [], _, _, _, hy => by simp at hy
  | [], _ :: _, _, _, h, _ => h.elim
  | _ :: _, [], _, _, h, _ => h.elim
theorem PrsL.split {H : Hp} : ∀ {xs : List V} {ps qs : List (Int × Int)}, PrsL H xs (ps ++ qs) → ∃ ys zs, xs = ys ++ zs ∧ PrsL H ys ps ∧ PrsL H zs qs
  | xs, [], qs, h => ⟨[], xs, rfl, True.intro, h⟩
  | x :: xs, q :: ps, qs, ⟨h, r⟩ => by
    obtain ⟨ys, zs, e, h1, h2⟩ := PrsL.split r
    exact ⟨x :: ys, zs, by rw [e]; rfl, ⟨h, h1⟩, h2⟩
  | [], _ :: _, _, h => h.elim
/-- the last item -/
theorem PrsL.last {H : Hp} {xs : List V} {ps : List (Int × Int)} {q : Int × Int} (h : PrsL H xs (ps ++ [q])) : ∃ a, atI xs (-1) = some (.ref a) ∧ H a = some (.tup [.int q.1, .int q.2]) := by
  obtain ⟨ys, zs, rfl, _, h2⟩ := h.split
  match zs, h2 with
  | [z], ⟨⟨a, e, h⟩, _⟩ => subst e; exact ⟨a, atI_last _ _, h⟩
  | _ :: _ :: _, ⟨_, h⟩ => exact h.elim
  | [], h => exact h.elim
theorem prD_inj {p q : Int × Int} (h : prD p = prD q) : p = q := by
  obtain ⟨a, b⟩ := p
  obtain ⟨c, d⟩ := q
  unfold prD at h
  injection h with h
  injection h with h1 h2
  injection h2 with h2 _
  injection h1 with h1
  injection h2 with h2
  exact Prod.ext h1 h2
@[irreducible] def sp_nodes_over (K : PySem.W.Frag) : Sp := fun vs H Q _ => ∃ (s g : Addr) (p : Prt) (b e : Nat), vs = [.ref s, .ref g] ∧ SetAt K H s p ∧ p.Ok ∧ H g = some (.tup [.int b, .int e]) ∧ (b ≤ e ∧ e ≤ 1000) ∧
  ∀ q xs H', H q = none → Same H H' → H' q = some (.lst xs) → (b = e → xs = []) → (∀ L, b < e → IsHt p.fan.toNat b (e - 1) L → PrsL H' xs (ndN p.fan.toNat b (e - 1) L)) → Q (.ref q) H'
theorem use_nodes_over {K : PySem.W.Frag} {s g : Addr} {p : Prt} {b e : Nat} {H : Hp} {Q : VK} {E : XK} (hs : SetAt K H s p) (ok : p.Ok) (hg : H g = some (.tup [.int b, .int e])) (hbe : b ≤ e ∧ e ≤ 1000)
  (k : ∀ q xs H', H q = none → Same H H' → H' q = some (.lst xs) → (b = e → xs = []) → (∀ L, b < e → IsHt p.fan.toNat b (e - 1) L → PrsL H' xs (ndN p.fan.toNat b (e - 1) L)) → Q (.ref q) H') :
  sp_nodes_over K [.ref s, .ref g] H Q E := by unfold sp_nodes_over; exact ⟨s, g, p, b, e, rfl, hs, ok, hg, hbe, k⟩
theorem b_nodes_over {K : PySem.W.Frag} {fd : FuncData} (F : F_nodes_over K fd) : Binds K fd P_nodes_over [] := FunD.bindsN F fun _ _ _ _ _ _ us hl => match us, hl with | [_, _], _ => rfl
theorem ok_nodes_over (T : Txt K mg D) : FnOk P w K mg base CX0 2 (He.fAd K ("nodes_over", none)) (D D_nodes_over) P_nodes_over (sp_nodes_over K) := by
  refine T.d_nodes_over.ok sc_nodes_over (fun vs H Q E h => ?_) (fun cdv A outer s H vs Q E hr h => ?_)
  · unfold sp_nodes_over at h
    first | (obtain ⟨rfl, _⟩ := h; rfl) | (obtain ⟨_, rfl, _⟩ := h; rfl) | (obtain ⟨_, _, rfl, _⟩ := h; rfl) | (obtain ⟨_, _, _, rfl, _⟩ := h; rfl) | (obtain ⟨_, _, _, _, rfl, _⟩ := h; rfl) | (obtain ⟨_, _, _, _, _, rfl, _⟩ := h; rfl) | (obtain ⟨_, _, _, _, _, _, rfl, _⟩ := h; rfl) | (obtain ⟨_, _, _, _, _, _, _, rfl, _⟩ := h; rfl) | (obtain ⟨_, _, _, _, _, _, _, _, rfl, _⟩ := h; rfl) | (obtain ⟨_, _, _, _, _, _, _, _, _, rfl, _⟩ := h; rfl) | (obtain ⟨_, _, _, _, _, _, _, _, _, _, rfl, _⟩ := h; rfl) | (obtain ⟨_, _, _, _, _, _, _, _, _, _, _, rfl, _⟩ := h; rfl)
  · refine ⟨_, PSs.nox (pss_cons (ps_set (i := 2) sc_nodes_over.nd rfl (Or.inl rfl) (pe_lst pa_nil))
      (pss_cons (ps_if (pt_cmpR op_eq (pe_ix (ix_tupK (K := K)) (pv 1) pe_int (fun _ _ => rfl)) (pe_ix (ix_tupK (K := K)) (pv 1) pe_int (fun _ _ => rfl)) (nomark _)) (pss_one (ps_ret (pv 2))) pss_nil)
      (pss_cons (ps_par (i := 3) (j := 4) (by rfl) sc_nodes_over.nd rfl rfl (by decide) rfl rfl (pa_cons (pe_ix (ix_tupK (K := K)) (pv 1) pe_int (fun _ _ => rfl)) (pa_cons (pe_op op_sub (pe_ix (ix_tupK (K := K)) (pv 1) pe_int (fun _ _ => rfl)) pe_int) pa_nil)) (by rfl))
      (pss_cons (ps_for PassesOwn.never rfl (pi_range1 (by rfl) T.n_range (pa_cons (pe_op op_add (pe_call (ok_root_level T) (hr.mono (by decide)) rfl T.g_root_level T.d_root_level.kp (b_root_level T.d_root_level) .nil pass0 (pa_cons (pv 3) (pa_cons (pv 4) (pa_cons (pe_fldK (K := K) (pv 0) rfl) pa_nil)))) pe_int) pa_nil)) (pg_name (i := 5) sc_nodes_over.nd rfl (Or.inr rfl)) (pss_cons (ps_par (i := 3) (j := 4) (by rfl) sc_nodes_over.nd rfl rfl (by decide) rfl rfl (pa_cons (pe_op op_fdivW (pv 3) (pe_fldK (K := K) (pv 0) rfl)) (pa_cons (pe_op op_fdivW (pv 4) (pe_fldK (K := K) (pv 0) rfl)) pa_nil)) (by rfl))
      (pss_one (ps_expr (pe_bm PySem.F.plainAttrs_list PySem.F.slot_list_extend PySem.F.type_list_extend mt_extend (pv 2) (pa_cons (pe_lc (own := [("index", 6)]) rfl sc_nodes_over.nd (pi_rangeB (by rfl) T.n_range (pa_cons (pv 3) (pa_cons (pe_op op_add (pv 4) pe_int) pa_nil))) (blkOk_by (N := N_nodes_over) (sc := defScope s_nodes_over) (by decide +kernel)) (fun _ _ _ _ _ => (pg_name (i := 6) sc_nodes_over.nd rfl (Or.inl rfl))) (fun _ _ _ _ _ => pts_nil) (fun _ _ _ _ _ => (pe_tup (pa_cons (pv 5) (pa_cons (pv 6) pa_nil))))) pa_nil))))))
      (pss_one (ps_ret (pv 2))))))), ?_⟩
    unfold sp_nodes_over at h
    obtain ⟨s, g, p, b, e, rfl, hs, ok, hg, ⟨hbe, he3⟩, k⟩ := h
    obtain ⟨dx, t, hb, _⟩ := id hs
    walk_at "rd"
    intro q n0
    generalize eG0 : upd _ q _ = G0
    obtain ⟨g0, c0⟩ := gen_new n0 eG0
    clear eG0
    have hg0 := g0 _ _ hg
    have hb0 := g0 _ _ hb
    walk_at "rd"
    refine ite2 (fun c => ?_) (fun c => ?_)
    · have c := dvi c
      have c : b = e := by omega
      walk_at "rd"
      exact k q [] G0 n0 g0 c0 (fun _ => rfl) (fun L z => by omega)
    · have c := dvn c
      have c : b < e := by omega
      have hf := ok.f
      obtain ⟨L, hL, _⟩ := isht_ex (fan2 ok) (show b ≤ e - 1 by omega)
      walk_at "rd"
      refine use_root_level rfl (show (e : Int) - 1 = ((e - 1 : Nat) : Int) by omega) hf hL ?_
      have hL1 := hL.1
      have hcap := isht_10 (fan2 ok) hL (by omega) (by omega)
      walk_at "rd"
      generalize hN : Int.toNat _ = N
      obtain rfl : N = L := by omega
      have nq : ∀ {a : Addr} {o : HO}, H a = some o → a ≠ q := fun h => ne_of_none h n0
      refine for_range (lo := 0) (n := N) (fun i σ G => ∃ (xs : List V) (v5 v6 : Option V), σ = [some (.ref s), some (.ref g), some (.ref q), some (.int (b / p.fan.toNat ^ i : Nat)), some (.int ((e - 1) / p.fan.toNat ^ i : Nat)), v5, v6] ∧ SX [q] G0 G ∧ G q = some (.lst xs) ∧ PrsL G xs (ndN p.fan.toNat b (e - 1) i)) ⟨[], none, none, ?_, SX.refl, c0, True.intro⟩ ?_ ?_
      · rw [Nat.pow_zero, Nat.div_one, Nat.div_one]
        exact congrArg (fun u : Int => ([some (.ref s), some (.ref g), some (.ref q), some (.int b), some (.int u), none, none] : L2.St)) (show (e : Int) - 1 = ((e - 1 : Nat) : Int) by omega)
      · rintro i σ G hi ⟨xs, v5, v6, rfl, fx, hq, hA⟩
        have hbG := fx _ _ (by simp [nq hb]) hb0
        have hmono := Nat.div_le_div_right (c := p.fan.toNat ^ (i + 1)) (show b ≤ e - 1 by omega)
        have hsm : (e - 1) / p.fan.toNat ^ (i + 1) ≤ e - 1 := Nat.div_le_self _ _
        have hlen := hA.len
        have hlen2 := ndN_len (f := p.fan.toNat) (b := b) (show e - 1 ≤ 1000 by omega) i
        have hnd : ndN p.fan.toNat b (e - 1) (i + 1) = ndN p.fan.toNat b (e - 1) i ++ lvT i (b / p.fan.toNat ^ (i + 1)) ((e - 1) / p.fan.toNat ^ (i + 1) + 1 - b / p.fan.toNat ^ (i + 1)) := rfl
        have ex := div_pow hf.1 b i
        have ey := div_pow hf.1 (e - 1) i
        rw [hnd]
        generalize hx : b / p.fan.toNat ^ (i + 1) = x at hmono ex ⊢
        generalize hy : (e - 1) / p.fan.toNat ^ (i + 1) = y at hmono hsm ey ⊢
        walk_at "rd"
        refine ⟨.inl ⟨rfl, _, SqL.of hq⟩, ?_⟩
        walk_at "rd"
        intro D nD
        refine lc_range (lo := ((b / p.fan.toNat ^ i : Nat) : Int) / p.fan) (n := Int.toNat _) (fun j G' => ∃ ys : List V, G' D = some (.lst ys) ∧ SX [D] G G' ∧ PrsL G' ys (lvT i x j)) ⟨[], upd_same, SX.refl.mut nD, True.intro⟩ ?_ ?_
        · rintro j G' hj ⟨ys, hD, fz, hB⟩
          refine ⟨rfl, ?_⟩
          walk_at "rd"
          intro t n2
          generalize eG2 : upd _ t _ = G2
          obtain ⟨g2, c2⟩ := gen_new n2 eG2
          clear eG2
          have hD2 := g2 _ _ hD
          have ntD : t ≠ D := (ne_of_none hD n2).symm
          have hl := hB.len
          rw [lvT_len] at hl
          refine ⟨_, hD2, szlt (by rw [ex, ey] at hj; omega), ys ++ [.ref t], upd_same, (fz.trans g2.sx).upd (by simp), ?_⟩
          rw [lvT_succ]
          refine PrsL.push ?_ ((hB.mono (kt_same g2)).mono (kt_upd hD2))
          rw [upd_ne ntD, c2]
          have e1 : (0 : Int) + (i : Int) = (i : Int) := by omega
          have e2 : ((b / p.fan.toNat ^ i : Nat) : Int) / p.fan + (j : Int) = ((x + j : Nat) : Int) := by rw [ex]; omega
          rw [e1, e2]
        · rintro G' ⟨ys, hD, fz, hB⟩
          have sG' : Same G G' := fun c o ho => fz _ _ (by simp [ne_of_none ho nD]) ho
          have hq' := sG' _ _ hq
          have hyl := hB.len
          rw [lvT_len] at hyl
          have hN2 : (((e - 1) / p.fan.toNat ^ i : Nat) : Int) / p.fan + 1 - ((b / p.fan.toNat ^ i : Nat) : Int) / p.fan = ((y + 1 - x : Nat) : Int) := by rw [ex, ey]; omega
          rw [hN2, Int.toNat_natCast] at hB hyl
          walk_at "rd"
          refine ⟨_, _, _, _, rfl, rfl, hq', hD, by rw [sizeLine_eq]; omega, ?_⟩
          walk_at "rd"
          refine ⟨xs ++ ys, some (.int (0 + (i : Int))), v6, ?_, (fx.trans sG'.sx).upd (by simp), upd_same, ?_⟩
          · exact congr (congrArg (fun u v : Int => ([some (.ref s), some (.ref g), some (.ref q), some (.int u), some (.int v), some (.int (0 + (i : Int))), v6] : L2.St)) ex) ey
          · exact PrsL.app ((hA.mono (kt_same sG')).mono (kt_upd hq')) (hB.mono (kt_upd hq'))
      · rintro σ G ⟨xs, v5, v6, rfl, fx, hq, hA⟩
        walk_at "rd"
        exact k q xs G n0 (fun c o ho => fx _ _ (by simp [ne_of_none ho n0]) (g0 _ _ ho)) hq (fun z => by omega) (fun L' _ hL' => by rw [hL'.uniq hL]; exact hA)

theorem powc {p : Prt} (ok : p.Ok) (k : Nat) : p.fan ^ k = ((p.fan.toNat ^ k : Nat) : Int) := by
  have hf := ok.f
  rw [Int.natCast_pow, Int.toNat_of_nonneg (by omega)]
theorem powp {p : Prt} (ok : p.Ok) (k : Nat) : 0 < p.fan.toNat ^ k := Nat.pow_pos (by have := fan2 ok; omega)
/-- the nodes of the tree behind so many rows -/
noncomputable def kn (p : Prt) (m : Nat) : List (Int × Int) := if m = 0 then [] else ndN p.fan.toNat (pgN p (kbN p m)) (pgN p (m - 1)) (ht p m)
noncomputable def topI (p : Prt) (m : Nat) : Int × Int := (((ht p m - 1 : Nat) : Int), ((pgN p (m - 1) / p.fan.toNat ^ ht p m : Nat) : Int))
theorem kn_zero (p : Prt) : kn p 0 = [] := by unfold kn; rw [if_pos rfl]
theorem kn_pos (p : Prt) {m : Nat} (h : 1 ≤ m) : kn p m = ndN p.fan.toNat (pgN p (kbN p m)) (pgN p (m - 1)) (ht p m) := by unfold kn; rw [if_neg (by omega)]
theorem kn_top {p : Prt} (ok : p.Ok) {m : Nat} (h : 1 ≤ m) : ∃ ps, kn p m = ps ++ [topI p m] := ⟨_, by rw [kn_pos p h, ndN_top (ht_is ok h)]; rfl⟩
theorem ht_10 {p : Prt} (ok : p.Ok) {m : Nat} (h : m ≤ 1000) : ht p m ≤ 10 := by
  by_cases z : m = 0
  · subst z; rw [ht_zero]; omega
  · exact isht_10 (fan2 ok) (ht_is ok (by omega)) (kb_pg ok (by omega)) (by have := pgN_le ok (m - 1); omega)
theorem kn_len {p : Prt} (ok : p.Ok) {m : Nat} (h : m ≤ 1000) : (kn p m).length ≤ 10010 := by
  by_cases z : m = 0
  · subst z; rw [kn_zero]; exact Nat.zero_le _
  · rw [kn_pos p (by omega)]
    have h1 := ndN_len (f := p.fan.toNat) (b := pgN p (kbN p m)) (e := pgN p (m - 1)) (by have := pgN_le ok (m - 1); omega) (ht p m)
    have h2 := ht_10 ok h
    omega
/-- what is known of a node -/
theorem kn_mem {p : Prt} (ok : p.Ok) {m : Nat} {q : Int × Int} : q ∈ kn p m ↔ 1 ≤ m ∧ ∃ i, i < ht p m ∧ q.1 = i ∧ ((pgN p (kbN p m) / p.fan.toNat ^ (i + 1) : Nat) : Int) ≤ q.2 ∧ q.2 ≤ ((pgN p (m - 1) / p.fan.toNat ^ (i + 1) : Nat) : Int) := by
  by_cases z : m = 0
  · subst z; rw [kn_zero]; exact ⟨fun h => by simp at h, fun h => by omega⟩
  · rw [kn_pos p (by omega), ndN_mem]
    constructor
    · rintro ⟨i, h1, h2⟩; exact ⟨by omega, i, h1, (lvN_mem (kb_pg ok (by omega))).mp h2⟩
    · rintro ⟨_, i, h1, h2⟩; exact ⟨i, h1, (lvN_mem (kb_pg ok (by omega))).mpr h2⟩
theorem isi_tup {K : PySem.W.Frag} {H : Hp} {a : Addr} {xs : List V} {Q : VK} (h : H a = some (.tup xs)) (q : Q (.bl true) H) : rIsiI K [.ref a, .ty "tuple"] H Q := by
  unfold rIsiI; exact ⟨_, _, _, _, true, rfl, .ty _, .base (.tup h), kit_ty (by decide +kernel), q⟩
theorem eqvp (q : Int × Int) : PyData.eqv (prD q) (prD q) = true := by simp [prD, PyData.eqv, PyData.eqvAll]
theorem shp (q : Int × Int) : SeqAt.shaped (prD q) = true := rfl
theorem shps : ∀ ps : List (Int × Int), PyData.canLayAll0 (ps.map prD) = true
  | [] => rfl
  | p :: ps => by
    show ((prD p).canLay0 && PyData.canLayAll0 (ps.map prD)) = true
    rw [shps ps]; rfl
theorem shpl (ps : List (Int × Int)) : SeqAt.shaped (.list (ps.map prD)) = true := by
  show (PyData.canLayAll0 (ps.map prD) && decide (PyData.depthAll (ps.map prD) + 1 ≤ 64)) = true
  rw [shps ps]
  have := (nb_prs ps).2
  exact decide_eq_true (by omega)
theorem notin_prs {K : PySem.W.Frag} {H : Hp} {n a : Addr} {q : Int × Int} {xs : List V} {ps : List (Int × Int)} {Q : VK} (hn : H n = some (.tup [.int q.1, .int q.2])) (ha : H a = some (.lst xs)) (hp : PrsL H xs ps) (hq : q ∈ ps) (k : Q (.bl false) H) : rNotInD K (.ref n) (.ref a) H Q := by
  refine ⟨prD q, ps.map prD, .tup (SqT.of hn) (.cons (.int _) (.cons (.int _) .nil)), .lst (SqL.of ha) hp.dp, shp q, shpl ps, ?_⟩
  have : (ps.map prD).any (fun z => PyData.eqv z (prD q)) = true := List.any_eq_true.mpr ⟨prD q, List.mem_map.mpr ⟨q, hq, rfl⟩, eqvp q⟩
  rw [this]
  exact k
theorem lv_le {p : Prt} (ok : p.Ok) {b e : Nat} (h : b ≤ e) (h2 : e ≤ 500) : lvF p b e ≤ lvA p b e ∧ lvA p b e ≤ 1000 := by
  unfold lvF lvA
  by_cases c : b = e
  · rw [if_pos c, if_pos c]; omega
  · rw [if_neg c, if_neg c]
    have a1 := pgN_mono ok (show b ≤ e - 1 by omega)
    have a3 := pgN_le ok (e - 1)
    omega
theorem lv_zero (p : Prt) {m : Nat} (ok : p.Ok) (h : m = 0) : lvF p (kbN p m) m = 0 ∧ lvA p (kbN p m) m = 0 := by
  have := (kb_eq ok m).mpr h
  unfold lvF lvA
  exact ⟨if_pos this, if_pos this⟩
theorem lv_pos (p : Prt) {m : Nat} (ok : p.Ok) (h : 1 ≤ m) : lvF p (kbN p m) m = pgN p (kbN p m) ∧ lvA p (kbN p m) m = pgN p (m - 1) + 1 := by
  have : ¬ kbN p m = m := fun z => by have := (kb_eq ok m).mp z; omega
  unfold lvF lvA
  exact ⟨if_neg this, if_neg this⟩
@[irreducible] def sp_tree_nodes (K : PySem.W.Frag) : Sp := fun vs H Q _ => ∃ (s : Addr) (p : Prt) (m : Nat), vs = [.ref s, .int m] ∧ SetAt K H s p ∧ p.Ok ∧ m ≤ 500 ∧
  ∀ q xs H', H q = none → Same H H' → H' q = some (.lst xs) → PrsL H' xs (kn p m) → Q (.ref q) H'
theorem use_tree_nodes {K : PySem.W.Frag} {s : Addr} {p : Prt} {m : Nat} {i : Int} {H : Hp} {Q : VK} {E : XK} (hi : i = (m : Int)) (hs : SetAt K H s p) (ok : p.Ok) (hm : m ≤ 500)
  (k : ∀ q xs H', H q = none → Same H H' → H' q = some (.lst xs) → PrsL H' xs (kn p m) → Q (.ref q) H') : sp_tree_nodes K [.ref s, .int i] H Q E := by subst hi; unfold sp_tree_nodes; exact ⟨s, p, m, rfl, hs, ok, hm, k⟩
theorem b_tree_nodes {K : PySem.W.Frag} {fd : FuncData} (F : F_tree_nodes K fd) : Binds K fd P_tree_nodes [] := FunD.bindsN F fun _ _ _ _ _ _ us hl => match us, hl with | [_, _], _ => rfl
theorem ok_tree_nodes (T : Txt K mg D) : FnOk P w K mg base CX0 8 (He.fAd K ("tree_nodes", none)) (D D_tree_nodes) P_tree_nodes (sp_tree_nodes K) := by
  refine T.d_tree_nodes.ok sc_tree_nodes (fun vs H Q E h => ?_) (fun cdv A outer s H vs Q E hr h => ?_)
  · unfold sp_tree_nodes at h
    first | (obtain ⟨rfl, _⟩ := h; rfl) | (obtain ⟨_, rfl, _⟩ := h; rfl) | (obtain ⟨_, _, rfl, _⟩ := h; rfl) | (obtain ⟨_, _, _, rfl, _⟩ := h; rfl) | (obtain ⟨_, _, _, _, rfl, _⟩ := h; rfl) | (obtain ⟨_, _, _, _, _, rfl, _⟩ := h; rfl) | (obtain ⟨_, _, _, _, _, _, rfl, _⟩ := h; rfl) | (obtain ⟨_, _, _, _, _, _, _, rfl, _⟩ := h; rfl) | (obtain ⟨_, _, _, _, _, _, _, _, rfl, _⟩ := h; rfl) | (obtain ⟨_, _, _, _, _, _, _, _, _, rfl, _⟩ := h; rfl) | (obtain ⟨_, _, _, _, _, _, _, _, _, _, rfl, _⟩ := h; rfl) | (obtain ⟨_, _, _, _, _, _, _, _, _, _, _, rfl, _⟩ := h; rfl)
  · refine ⟨_, PSs.nox (pss_cons (ps_expr (pe_call (ok_check_settings T) (hr.mono (by decide)) rfl T.g_check_settings T.d_check_settings.kp (b_check_settings T.d_check_settings) .nil pass0 (pa_cons (pv 0) pa_nil)))
      (pss_cons (ps_expr (pe_call (ok_check_moment T) (hr.mono (by decide)) rfl T.g_check_moment T.d_check_moment.kp (b_check_moment T.d_check_moment) .nil pass0 (pa_cons (pv 1) pa_nil)))
      (pss_one (ps_ret (pe_call (ok_nodes_over T) (hr.mono (by decide)) rfl T.g_nodes_over T.d_nodes_over.kp (b_nodes_over T.d_nodes_over) .nil pass0 (pa_cons (pv 0) (pa_cons (pe_call (ok_live T) (hr.mono (by decide)) rfl T.g_live T.d_live.kp (b_live T.d_live) .nil pass0 (pa_cons (pv 0) (pa_cons (pv 1) pa_nil))) pa_nil))))))), ?_⟩
    unfold sp_tree_nodes at h
    obtain ⟨s, p, m, rfl, hs, ok, hm, k⟩ := h
    obtain ⟨dx, t, hb, _⟩ := id hs
    walk_at "rd"
    refine use_check_settings hb ?_
    walk_at "rd"
    refine use_check_moment ⟨by omega, by omega⟩ ?_
    walk_at "rd"
    refine use_live rfl hs ok fun q1 G1 n1 g1 c1 => ?_
    have hk := kb_le ok m
    refine use_nodes_over (hs.same g1) ok c1 (lv_le ok hk.1 hm) fun q xs G2 n2 g2 c2 h1 h2 => ?_
    refine k q xs G2 (g1.free n2) (g1.trans g2) c2 ?_
    by_cases z : m = 0
    · obtain ⟨e1, e2⟩ := lv_zero p ok z
      rw [h1 (by rw [e1, e2]), z, kn_zero]
      exact True.intro
    · obtain ⟨e1, e2⟩ := lv_pos p ok (show 1 ≤ m by omega)
      rw [e1, e2, Nat.add_sub_cancel] at h2
      rw [kn_pos p (by omega)]
      exact h2 _ (by have := kb_pg ok (show 1 ≤ m by omega); omega) (ht_is ok (by omega))

@[irreducible] def sp_tree_root (K : PySem.W.Frag) : Sp := fun vs H Q _ => ∃ (s : Addr) (p : Prt) (m : Nat), vs = [.ref s, .int m] ∧ SetAt K H s p ∧ p.Ok ∧ m ≤ 500 ∧
  (m = 0 → ∀ H', Same H H' → Q .non H') ∧ (0 < m → ∀ t H', Same H H' → H' t = some (.tup [.int (topI p m).1, .int (topI p m).2]) → Q (.ref t) H')
theorem use_tree_root {K : PySem.W.Frag} {s : Addr} {p : Prt} {m : Nat} {i : Int} {H : Hp} {Q : VK} {E : XK} (hi : i = (m : Int)) (hs : SetAt K H s p) (ok : p.Ok) (hm : m ≤ 500)
  (k0 : m = 0 → ∀ H', Same H H' → Q .non H') (k1 : 0 < m → ∀ t H', Same H H' → H' t = some (.tup [.int (topI p m).1, .int (topI p m).2]) → Q (.ref t) H') : sp_tree_root K [.ref s, .int i] H Q E := by
  subst hi; unfold sp_tree_root; exact ⟨s, p, m, rfl, hs, ok, hm, k0, k1⟩
theorem kn_nil {p : Prt} (ok : p.Ok) {m : Nat} : (kn p m).map prD = [] ↔ m = 0 := by
  constructor
  · intro h
    by_cases z : m = 0
    · exact z
    · obtain ⟨ps, e⟩ := kn_top ok (show 1 ≤ m by omega)
      rw [e] at h
      simp at h
  · intro h; subst h; rw [kn_zero]; rfl
theorem b_tree_root {K : PySem.W.Frag} {fd : FuncData} (F : F_tree_root K fd) : Binds K fd P_tree_root [] := FunD.bindsN F fun _ _ _ _ _ _ us hl => match us, hl with | [_, _], _ => rfl
theorem ok_tree_root (T : Txt K mg D) : FnOk P w K mg base CX0 9 (He.fAd K ("tree_root", none)) (D D_tree_root) P_tree_root (sp_tree_root K) := by
  refine T.d_tree_root.ok sc_tree_root (fun vs H Q E h => ?_) (fun cdv A outer s H vs Q E hr h => ?_)
  · unfold sp_tree_root at h
    first | (obtain ⟨rfl, _⟩ := h; rfl) | (obtain ⟨_, rfl, _⟩ := h; rfl) | (obtain ⟨_, _, rfl, _⟩ := h; rfl) | (obtain ⟨_, _, _, rfl, _⟩ := h; rfl) | (obtain ⟨_, _, _, _, rfl, _⟩ := h; rfl) | (obtain ⟨_, _, _, _, _, rfl, _⟩ := h; rfl) | (obtain ⟨_, _, _, _, _, _, rfl, _⟩ := h; rfl) | (obtain ⟨_, _, _, _, _, _, _, rfl, _⟩ := h; rfl) | (obtain ⟨_, _, _, _, _, _, _, _, rfl, _⟩ := h; rfl) | (obtain ⟨_, _, _, _, _, _, _, _, _, rfl, _⟩ := h; rfl) | (obtain ⟨_, _, _, _, _, _, _, _, _, _, rfl, _⟩ := h; rfl) | (obtain ⟨_, _, _, _, _, _, _, _, _, _, _, rfl, _⟩ := h; rfl)
  · refine ⟨_, PSs.nox (pss_cons (ps_set (i := 2) sc_tree_root.nd rfl (Or.inl rfl) (pe_call (ok_tree_nodes T) (hr.mono (by decide)) rfl T.g_tree_nodes T.d_tree_nodes.kp (b_tree_nodes T.d_tree_nodes) .nil pass0 (pa_cons (pv 0) (pa_cons (pv 1) pa_nil))))
      (pss_one (ps_ret (pe_ifExp (pt_cmpR (op_eqNK (K := K) hr.units) (pv 2) (pe_lst pa_nil) (nomark _)) pe_non (pe_ix (ix_listK (K := K)) (pv 2) (pe_un un_neg pe_int) (fun _ _ => rfl)))))), ?_⟩
    unfold sp_tree_root at h
    obtain ⟨s, p, m, rfl, hs, ok, hm, k0, k1⟩ := h
    walk_at "rd"
    refine use_tree_nodes rfl hs ok hm fun q xs G1 n1 g1 c1 hA => ?_
    walk_at "rd"
    intro q2 n2
    generalize eG2 : upd _ q2 _ = G2
    obtain ⟨g2, c2⟩ := gen_new n2 eG2
    clear eG2
    have hA2 := hA.mono (kt_same g2)
    refine use_eqN (.lst (SqL.of (g2 _ _ c1)) hA2.dp) (.lst (SqL.of c2) .nil) (nb_prl _) (nb_prl []) fun e he => ?_
    by_cases z : m = 0
    · have he : e = true := he.mpr (by rw [(kn_nil ok).mpr z])
      subst he
      walk_at "rd"
      exact k0 z G2 (g1.trans g2)
    · have he : e = false := by
        cases e with
        | false => rfl
        | true =>
          have := he.mp rfl
          injection this with this
          exact absurd ((kn_nil ok).mp this) z
      subst he
      obtain ⟨ps, ek⟩ := kn_top ok (show 1 ≤ m by omega)
      rw [ek] at hA2
      obtain ⟨t, a1, a2⟩ := hA2.last
      walk_at "rd"
      refine ⟨_, _, _, _, rfl, rfl, SqL.of (g2 _ _ c1), a1, ?_⟩
      exact k1 (by omega) t G2 (g1.trans g2) a2

@[irreducible] def sp_tree_height (K : PySem.W.Frag) : Sp := fun vs H Q _ => ∃ (s : Addr) (p : Prt) (m : Nat), vs = [.ref s, .int m] ∧ SetAt K H s p ∧ p.Ok ∧ m ≤ 500 ∧ ∀ H', Same H H' → Q (.int (ht p m : Nat)) H'
theorem use_tree_height {K : PySem.W.Frag} {s : Addr} {p : Prt} {m : Nat} {i : Int} {H : Hp} {Q : VK} {E : XK} (hi : i = (m : Int)) (hs : SetAt K H s p) (ok : p.Ok) (hm : m ≤ 500) (k : ∀ H', Same H H' → Q (.int (ht p m : Nat)) H') :
  sp_tree_height K [.ref s, .int i] H Q E := by subst hi; unfold sp_tree_height; exact ⟨s, p, m, rfl, hs, ok, hm, k⟩
theorem topI_fst {p : Prt} (ok : p.Ok) {m : Nat} (h : 1 ≤ m) : (topI p m).1 + 1 = ((ht p m : Nat) : Int) := by
  have h1 := (ht_is ok h).1
  show ((ht p m - 1 : Nat) : Int) + 1 = _
  omega
theorem b_tree_height {K : PySem.W.Frag} {fd : FuncData} (F : F_tree_height K fd) : Binds K fd P_tree_height [] := FunD.bindsN F fun _ _ _ _ _ _ us hl => match us, hl with | [_, _], _ => rfl
theorem ok_tree_height (T : Txt K mg D) : FnOk P w K mg base CX0 10 (He.fAd K ("tree_height", none)) (D D_tree_height) P_tree_height (sp_tree_height K) := by
  refine T.d_tree_height.ok sc_tree_height (fun vs H Q E h => ?_) (fun cdv A outer s H vs Q E hr h => ?_)
  · unfold sp_tree_height at h
    first | (obtain ⟨rfl, _⟩ := h; rfl) | (obtain ⟨_, rfl, _⟩ := h; rfl) | (obtain ⟨_, _, rfl, _⟩ := h; rfl) | (obtain ⟨_, _, _, rfl, _⟩ := h; rfl) | (obtain ⟨_, _, _, _, rfl, _⟩ := h; rfl) | (obtain ⟨_, _, _, _, _, rfl, _⟩ := h; rfl) | (obtain ⟨_, _, _, _, _, _, rfl, _⟩ := h; rfl) | (obtain ⟨_, _, _, _, _, _, _, rfl, _⟩ := h; rfl) | (obtain ⟨_, _, _, _, _, _, _, _, rfl, _⟩ := h; rfl) | (obtain ⟨_, _, _, _, _, _, _, _, _, rfl, _⟩ := h; rfl) | (obtain ⟨_, _, _, _, _, _, _, _, _, _, rfl, _⟩ := h; rfl) | (obtain ⟨_, _, _, _, _, _, _, _, _, _, _, rfl, _⟩ := h; rfl)
  · refine ⟨_, PSs.nox (pss_cons (ps_set (i := 2) sc_tree_height.nd rfl (Or.inl rfl) (pe_call (ok_tree_root T) (hr.mono (by decide)) rfl T.g_tree_root T.d_tree_root.kp (b_tree_root T.d_tree_root) .nil pass0 (pa_cons (pv 0) (pa_cons (pv 1) pa_nil))))
      (pss_one (ps_ret (pe_ifExp (pt_cmpR op_isN (pv 2) pe_non (nomark _)) pe_int (pe_op op_add (pe_ix (ix_tupK (K := K)) (pv 2) pe_int (fun _ _ => rfl)) pe_int))))), ?_⟩
    unfold sp_tree_height at h
    obtain ⟨s, p, m, rfl, hs, ok, hm, k⟩ := h
    walk_at "rd"
    refine use_tree_root rfl hs ok hm (fun z G1 g1 => ?_) (fun z t G1 g1 c1 => ?_)
    · subst z
      have k := k G1 g1
      rw [ht_zero] at k
      walk_at "rd"
      exact k
    · have k := k G1 g1
      rw [← topI_fst ok (show 1 ≤ m by omega)] at k
      walk_at "rd"
      exact k

theorem pow_hi {p : Prt} (ok : p.Ok) {k : Nat} (h : k ≤ 21) : p.fan.toNat ^ k ≤ 10000000000000000000 := by
  have hf := ok.f
  have h1 := Nat.pow_le_pow_left (show p.fan.toNat ≤ 8 by omega) k
  have h2 := Nat.pow_le_pow_right (show 0 < 8 by decide) h
  have h3 : (8 : Nat) ^ 21 ≤ 10000000000000000000 := by decide
  omega
theorem le_mul {x w n : Nat} (hw : 0 < w) (h : x * w ≤ n) : x ≤ n := Nat.le_trans (Nat.le_mul_of_pos_right x hw) h
/-- an object that is a node, low enough -/
def NdOk (p : Prt) (H : Hp) (n : Addr) (i : Nat) (x : Nat) : Prop := H n = some (.tup [.int (i : Int), .int (x : Int)]) ∧ i ≤ 20 ∧ x * p.fan.toNat ^ (i + 1) ≤ 1000
theorem NdOk.same {p : Prt} {H H' : Hp} {n : Addr} {i x : Nat} (h : NdOk p H n i x) (s : Same H H') : NdOk p H' n i x := ⟨s _ _ h.1, h.2⟩
@[irreducible] def sp_is_node (K : PySem.W.Frag) : Sp := fun vs H Q _ => ∃ (s n : Addr) (p : Prt) (i x : Nat), vs = [.ref s, .ref n] ∧ SetAt K H s p ∧ p.Ok ∧ NdOk p H n i x ∧ Q (.bl true) H
theorem use_is_node {K : PySem.W.Frag} {s n : Addr} {p : Prt} {i x : Nat} {H : Hp} {Q : VK} {E : XK} (hs : SetAt K H s p) (ok : p.Ok) (hn : NdOk p H n i x) (q : Q (.bl true) H) : sp_is_node K [.ref s, .ref n] H Q E := by
  unfold sp_is_node; exact ⟨s, n, p, i, x, rfl, hs, ok, hn, q⟩
theorem b_is_node {K : PySem.W.Frag} {fd : FuncData} (F : F_is_node K fd) : Binds K fd P_is_node [] := FunD.bindsN F fun _ _ _ _ _ _ us hl => match us, hl with | [_, _], _ => rfl
theorem ok_is_node (T : Txt K mg D) : FnOk P w K mg base CX0 3 (He.fAd K ("is_node", none)) (D D_is_node) P_is_node (sp_is_node K) := by
  refine T.d_is_node.ok sc_is_node (fun vs H Q E h => ?_) (fun cdv A outer s H vs Q E hr h => ?_)
  · unfold sp_is_node at h
    first | (obtain ⟨rfl, _⟩ := h; rfl) | (obtain ⟨_, rfl, _⟩ := h; rfl) | (obtain ⟨_, _, rfl, _⟩ := h; rfl) | (obtain ⟨_, _, _, rfl, _⟩ := h; rfl) | (obtain ⟨_, _, _, _, rfl, _⟩ := h; rfl) | (obtain ⟨_, _, _, _, _, rfl, _⟩ := h; rfl) | (obtain ⟨_, _, _, _, _, _, rfl, _⟩ := h; rfl) | (obtain ⟨_, _, _, _, _, _, _, rfl, _⟩ := h; rfl) | (obtain ⟨_, _, _, _, _, _, _, _, rfl, _⟩ := h; rfl) | (obtain ⟨_, _, _, _, _, _, _, _, _, rfl, _⟩ := h; rfl) | (obtain ⟨_, _, _, _, _, _, _, _, _, _, rfl, _⟩ := h; rfl) | (obtain ⟨_, _, _, _, _, _, _, _, _, _, _, rfl, _⟩ := h; rfl)
  · refine ⟨_, PSs.nox (pss_cons (ps_if (PW.pt (pw_or (pt_not (pt_val (pe_callB (call_isiK2 (K := K)) (by rfl) T.n_isinstance (by decide +kernel) (pa_cons (pv 1) (pa_cons (pe_bltn (by rfl) T.n_tuple (by decide +kernel) (v := .ty "tuple") rfl) pa_nil))))) (pw_or (pt_cmpR op_ne (pe_callB (call_lenK (K := K)) (by rfl) T.n_len (by decide +kernel) (pa_cons (pv 1) pa_nil)) pe_int (nomark _)) (pw_or1 (pt_not (pt_val (pe_call (ok_is_between T) (hr.mono (by decide)) rfl T.g_is_between T.d_is_between.kp (b_is_between T.d_is_between) .nil pass0 (pa_cons (pe_ix (ix_tupK (K := K)) (pv 1) pe_int (fun _ _ => rfl)) (pa_cons pe_int (pa_cons (pe_globi T.i_MOST_LEVEL) pa_nil)))))))))) (pss_one (ps_ret pe_bl)) pss_nil)
      (pss_one (ps_ret (pe_call (ok_is_between T) (hr.mono (by decide)) rfl T.g_is_between T.d_is_between.kp (b_is_between T.d_is_between) .nil pass0 (pa_cons (pe_ix (ix_tupK (K := K)) (pv 1) pe_int (fun _ _ => rfl)) (pa_cons pe_int (pa_cons (pe_op op_fdivW (pe_globi T.i_MOST_ROW) (pe_call (ok_multiplied T) (hr.mono (by decide)) rfl T.g_multiplied T.d_multiplied.kp (b_multiplied T.d_multiplied) .nil pass0 (pa_cons (pe_fldK (K := K) (pv 0) rfl) (pa_cons (pe_op op_add (pe_ix (ix_tupK (K := K)) (pv 1) pe_int (fun _ _ => rfl)) pe_int) pa_nil)))) pa_nil))))))), ?_⟩
    unfold sp_is_node at h
    obtain ⟨s, n, p, i, x, rfl, hs, ok, ⟨hn, hi, hx⟩, q⟩ := h
    obtain ⟨dx, t, hb, _⟩ := id hs
    have hf := ok.f
    have hw := powp ok (i + 1)
    have hh := pow_hi ok (show i + 1 ≤ 21 by omega)
    have hwc := powc ok (i + 1)
    walk_at "rd"
    refine isi_tup hn ?_
    walk_at "rd"
    refine use_between ?_
    rw [decide_eq_true (show (0 : Int) ≤ (i : Int) ∧ (i : Int) ≤ 110 by omega)]
    walk_at "rd"
    refine use_mult (k := i + 1) (by omega) (by omega) (by omega) ?_
    rw [hwc]
    generalize p.fan.toNat ^ (i + 1) = w at hw hx hh
    have hd : (x : Int) ≤ 1000000000000000000000000000000 / (w : Int) := Int.le_ediv_of_mul_le (by omega) (by
      have : (x : Int) * (w : Int) = ((x * w : Nat) : Int) := by push_cast; rfl
      rw [this]; omega)
    walk_at "rd"
    refine use_between ?_
    rw [decide_eq_true (show (0 : Int) ≤ (x : Int) ∧ (x : Int) ≤ 1000000000000000000000000000000 / (w : Int) from ⟨by omega, hd⟩)]
    exact q

@[irreducible] def sp_check_node (K : PySem.W.Frag) : Sp := fun vs H Q _ => ∃ (s n : Addr) (p : Prt) (i x : Nat), vs = [.ref s, .ref n] ∧ SetAt K H s p ∧ p.Ok ∧ NdOk p H n i x ∧ Q .non H
theorem use_check_node {K : PySem.W.Frag} {s n : Addr} {p : Prt} {i x : Nat} {H : Hp} {Q : VK} {E : XK} (hs : SetAt K H s p) (ok : p.Ok) (hn : NdOk p H n i x) (q : Q .non H) : sp_check_node K [.ref s, .ref n] H Q E := by
  unfold sp_check_node; exact ⟨s, n, p, i, x, rfl, hs, ok, hn, q⟩
theorem b_check_node {K : PySem.W.Frag} {fd : FuncData} (F : F_check_node K fd) : Binds K fd P_check_node [] := FunD.bindsN F fun _ _ _ _ _ _ us hl => match us, hl with | [_, _], _ => rfl
theorem ok_check_node (T : Txt K mg D) : FnOk P w K mg base CX0 4 (He.fAd K ("check_node", none)) (D D_check_node) P_check_node (sp_check_node K) := by
  refine T.d_check_node.ok sc_check_node (fun vs H Q E h => ?_) (fun cdv A outer s H vs Q E hr h => ?_)
  · unfold sp_check_node at h
    first | (obtain ⟨rfl, _⟩ := h; rfl) | (obtain ⟨_, rfl, _⟩ := h; rfl) | (obtain ⟨_, _, rfl, _⟩ := h; rfl) | (obtain ⟨_, _, _, rfl, _⟩ := h; rfl) | (obtain ⟨_, _, _, _, rfl, _⟩ := h; rfl) | (obtain ⟨_, _, _, _, _, rfl, _⟩ := h; rfl) | (obtain ⟨_, _, _, _, _, _, rfl, _⟩ := h; rfl) | (obtain ⟨_, _, _, _, _, _, _, rfl, _⟩ := h; rfl) | (obtain ⟨_, _, _, _, _, _, _, _, rfl, _⟩ := h; rfl) | (obtain ⟨_, _, _, _, _, _, _, _, _, rfl, _⟩ := h; rfl) | (obtain ⟨_, _, _, _, _, _, _, _, _, _, rfl, _⟩ := h; rfl) | (obtain ⟨_, _, _, _, _, _, _, _, _, _, _, rfl, _⟩ := h; rfl)
  · refine ⟨_, PSs.nox (pss_one (ps_if (pt_not (pt_val (pe_call (ok_is_node T) (hr.mono (by decide)) rfl T.g_is_node T.d_is_node.kp (b_is_node T.d_is_node) .nil pass0 (pa_cons (pv 0) (pa_cons (pv 1) pa_nil))))) (pss_one ps_never) pss_nil)), ?_⟩
    unfold sp_check_node at h
    obtain ⟨s, n, p, i, x, rfl, hs, ok, hn, q⟩ := h
    walk_at "rd"
    refine use_is_node hs ok hn ?_
    walk_at "rd"
    exact q

@[irreducible] def sp_span_of (K : PySem.W.Frag) : Sp := fun vs H Q _ => ∃ (s n : Addr) (p : Prt) (i x : Nat), vs = [.ref s, .ref n] ∧ SetAt K H s p ∧ p.Ok ∧ NdOk p H n i x ∧ ∀ t H', H t = none → Same H H' → H' t = some (.tup [.int (x * p.fan.toNat ^ (i + 1) : Nat), .int ((x + 1) * p.fan.toNat ^ (i + 1) : Nat)]) → Q (.ref t) H'
theorem use_span_of {K : PySem.W.Frag} {s n : Addr} {p : Prt} {i x : Nat} {H : Hp} {Q : VK} {E : XK} (hs : SetAt K H s p) (ok : p.Ok) (hn : NdOk p H n i x) (q : ∀ t H', H t = none → Same H H' → H' t = some (.tup [.int (x * p.fan.toNat ^ (i + 1) : Nat), .int ((x + 1) * p.fan.toNat ^ (i + 1) : Nat)]) → Q (.ref t) H') : sp_span_of K [.ref s, .ref n] H Q E := by
  unfold sp_span_of; exact ⟨s, n, p, i, x, rfl, hs, ok, hn, q⟩
theorem b_span_of {K : PySem.W.Frag} {fd : FuncData} (F : F_span_of K fd) : Binds K fd P_span_of [] := FunD.bindsN F fun _ _ _ _ _ _ us hl => match us, hl with | [_, _], _ => rfl
theorem ok_span_of (T : Txt K mg D) : FnOk P w K mg base CX0 2 (He.fAd K ("span_of", none)) (D D_span_of) P_span_of (sp_span_of K) := by
  refine T.d_span_of.ok sc_span_of (fun vs H Q E h => ?_) (fun cdv A outer s H vs Q E hr h => ?_)
  · unfold sp_span_of at h
    first | (obtain ⟨rfl, _⟩ := h; rfl) | (obtain ⟨_, rfl, _⟩ := h; rfl) | (obtain ⟨_, _, rfl, _⟩ := h; rfl) | (obtain ⟨_, _, _, rfl, _⟩ := h; rfl) | (obtain ⟨_, _, _, _, rfl, _⟩ := h; rfl) | (obtain ⟨_, _, _, _, _, rfl, _⟩ := h; rfl) | (obtain ⟨_, _, _, _, _, _, rfl, _⟩ := h; rfl) | (obtain ⟨_, _, _, _, _, _, _, rfl, _⟩ := h; rfl) | (obtain ⟨_, _, _, _, _, _, _, _, rfl, _⟩ := h; rfl) | (obtain ⟨_, _, _, _, _, _, _, _, _, rfl, _⟩ := h; rfl) | (obtain ⟨_, _, _, _, _, _, _, _, _, _, rfl, _⟩ := h; rfl) | (obtain ⟨_, _, _, _, _, _, _, _, _, _, _, rfl, _⟩ := h; rfl)
  · refine ⟨_, PSs.nox (pss_cons (ps_set (i := 2) sc_span_of.nd rfl (Or.inl rfl) (pe_call (ok_multiplied T) (hr.mono (by decide)) rfl T.g_multiplied T.d_multiplied.kp (b_multiplied T.d_multiplied) .nil pass0 (pa_cons (pe_fldK (K := K) (pv 0) rfl) (pa_cons (pe_op op_add (pe_ix (ix_tupK (K := K)) (pv 1) pe_int (fun _ _ => rfl)) pe_int) pa_nil))))
      (pss_one (ps_ret (pe_tup (pa_cons (pe_op op_mul (pe_ix (ix_tupK (K := K)) (pv 1) pe_int (fun _ _ => rfl)) (pv 2)) (pa_cons (pe_op op_mul (pe_op op_add (pe_ix (ix_tupK (K := K)) (pv 1) pe_int (fun _ _ => rfl)) pe_int) (pv 2)) pa_nil)))))), ?_⟩
    unfold sp_span_of at h
    obtain ⟨s, n, p, i, x, rfl, hs, ok, ⟨hn, hi, hx⟩, q⟩ := h
    obtain ⟨dx, t, hb, _⟩ := id hs
    have hf := ok.f
    have hwc := powc ok (i + 1)
    have hw := powp ok (i + 1)
    have hh := pow_hi ok (show i + 1 ≤ 21 by omega)
    have hx2 := le_mul hw hx
    walk_at "rd"
    refine use_mult (k := i + 1) (by omega) (by omega) (by omega) ?_
    rw [hwc]
    generalize p.fan.toNat ^ (i + 1) = w at hx q hw hh
    walk_at "rd"
    intro t2 n2
    generalize eH2 : upd _ t2 _ = H2
    obtain ⟨s2, c2⟩ := gen_new n2 eH2
    clear eH2
    refine q t2 H2 n2 s2 ?_
    rw [c2]
    push_cast
    rfl

@[irreducible] def sp_covered (K : PySem.W.Frag) : Sp := fun vs H Q _ => ∃ (s n : Addr) (p : Prt) (i x : Nat), vs = [.ref s, .ref n] ∧ SetAt K H s p ∧ p.Ok ∧ NdOk p H n i x ∧ ∀ t H', H t = none → Same H H' → H' t = some (.tup [.int (x * p.fan.toNat ^ (i + 1) : Nat), .int ((x + 1) * p.fan.toNat ^ (i + 1) : Nat)]) → Q (.ref t) H'
theorem use_covered {K : PySem.W.Frag} {s n : Addr} {p : Prt} {i x : Nat} {H : Hp} {Q : VK} {E : XK} (hs : SetAt K H s p) (ok : p.Ok) (hn : NdOk p H n i x) (q : ∀ t H', H t = none → Same H H' → H' t = some (.tup [.int (x * p.fan.toNat ^ (i + 1) : Nat), .int ((x + 1) * p.fan.toNat ^ (i + 1) : Nat)]) → Q (.ref t) H') : sp_covered K [.ref s, .ref n] H Q E := by
  unfold sp_covered; exact ⟨s, n, p, i, x, rfl, hs, ok, hn, q⟩
theorem b_covered {K : PySem.W.Frag} {fd : FuncData} (F : F_covered K fd) : Binds K fd P_covered [] := FunD.bindsN F fun _ _ _ _ _ _ us hl => match us, hl with | [_, _], _ => rfl
theorem ok_covered (T : Txt K mg D) : FnOk P w K mg base CX0 5 (He.fAd K ("covered", none)) (D D_covered) P_covered (sp_covered K) := by
  refine T.d_covered.ok sc_covered (fun vs H Q E h => ?_) (fun cdv A outer s H vs Q E hr h => ?_)
  · unfold sp_covered at h
    first | (obtain ⟨rfl, _⟩ := h; rfl) | (obtain ⟨_, rfl, _⟩ := h; rfl) | (obtain ⟨_, _, rfl, _⟩ := h; rfl) | (obtain ⟨_, _, _, rfl, _⟩ := h; rfl) | (obtain ⟨_, _, _, _, rfl, _⟩ := h; rfl) | (obtain ⟨_, _, _, _, _, rfl, _⟩ := h; rfl) | (obtain ⟨_, _, _, _, _, _, rfl, _⟩ := h; rfl) | (obtain ⟨_, _, _, _, _, _, _, rfl, _⟩ := h; rfl) | (obtain ⟨_, _, _, _, _, _, _, _, rfl, _⟩ := h; rfl) | (obtain ⟨_, _, _, _, _, _, _, _, _, rfl, _⟩ := h; rfl) | (obtain ⟨_, _, _, _, _, _, _, _, _, _, rfl, _⟩ := h; rfl) | (obtain ⟨_, _, _, _, _, _, _, _, _, _, _, rfl, _⟩ := h; rfl)
  · refine ⟨_, PSs.nox (pss_cons (ps_expr (pe_call (ok_check_settings T) (hr.mono (by decide)) rfl T.g_check_settings T.d_check_settings.kp (b_check_settings T.d_check_settings) .nil pass0 (pa_cons (pv 0) pa_nil)))
      (pss_cons (ps_expr (pe_call (ok_check_node T) (hr.mono (by decide)) rfl T.g_check_node T.d_check_node.kp (b_check_node T.d_check_node) .nil pass0 (pa_cons (pv 0) (pa_cons (pv 1) pa_nil))))
      (pss_one (ps_ret (pe_call (ok_span_of T) (hr.mono (by decide)) rfl T.g_span_of T.d_span_of.kp (b_span_of T.d_span_of) .nil pass0 (pa_cons (pv 0) (pa_cons (pv 1) pa_nil))))))), ?_⟩
    unfold sp_covered at h
    obtain ⟨s, n, p, i, x, rfl, hs, ok, hn, q⟩ := h
    obtain ⟨dx, t, hb, _⟩ := id hs
    walk_at "rd"
    refine use_check_settings hb ?_
    walk_at "rd"
    refine use_check_node hs ok hn ?_
    walk_at "rd"
    exact use_span_of hs ok hn q

@[irreducible] def sp_node_over (K : PySem.W.Frag) : Sp := fun vs H Q _ => ∃ (s : Addr) (p : Prt) (i x : Nat), vs = [.ref s, .int x, .int i] ∧ SetAt K H s p ∧ p.Ok ∧ x ≤ 100000 ∧ i ≤ 20 ∧ ∀ t H', H t = none → Same H H' → H' t = some (.tup [.int i, .int (x / p.fan.toNat ^ (i + 1) : Nat)]) → Q (.ref t) H'
theorem use_node_over {K : PySem.W.Frag} {s : Addr} {p : Prt} {i x : Nat} {u v : Int} {H : Hp} {Q : VK} {E : XK} (hs : SetAt K H s p) (ok : p.Ok) (hu : u = (x : Int)) (hv : v = (i : Int)) (hx : x ≤ 100000) (hi : i ≤ 20) (q : ∀ t H', H t = none → Same H H' → H' t = some (.tup [.int i, .int (x / p.fan.toNat ^ (i + 1) : Nat)]) → Q (.ref t) H') :
  sp_node_over K [.ref s, .int u, .int v] H Q E := by subst hu hv; unfold sp_node_over; exact ⟨s, p, i, x, rfl, hs, ok, hx, hi, q⟩
theorem b_node_over {K : PySem.W.Frag} {fd : FuncData} (F : F_node_over K fd) : Binds K fd P_node_over [] := FunD.bindsN F fun _ _ _ _ _ _ us hl => match us, hl with | [_, _, _], _ => rfl
theorem ok_node_over (T : Txt K mg D) : FnOk P w K mg base CX0 4 (He.fAd K ("node_over", none)) (D D_node_over) P_node_over (sp_node_over K) := by
  refine T.d_node_over.ok sc_node_over (fun vs H Q E h => ?_) (fun cdv A outer s H vs Q E hr h => ?_)
  · unfold sp_node_over at h
    first | (obtain ⟨rfl, _⟩ := h; rfl) | (obtain ⟨_, rfl, _⟩ := h; rfl) | (obtain ⟨_, _, rfl, _⟩ := h; rfl) | (obtain ⟨_, _, _, rfl, _⟩ := h; rfl) | (obtain ⟨_, _, _, _, rfl, _⟩ := h; rfl) | (obtain ⟨_, _, _, _, _, rfl, _⟩ := h; rfl) | (obtain ⟨_, _, _, _, _, _, rfl, _⟩ := h; rfl) | (obtain ⟨_, _, _, _, _, _, _, rfl, _⟩ := h; rfl) | (obtain ⟨_, _, _, _, _, _, _, _, rfl, _⟩ := h; rfl) | (obtain ⟨_, _, _, _, _, _, _, _, _, rfl, _⟩ := h; rfl) | (obtain ⟨_, _, _, _, _, _, _, _, _, _, rfl, _⟩ := h; rfl) | (obtain ⟨_, _, _, _, _, _, _, _, _, _, _, rfl, _⟩ := h; rfl)
  · refine ⟨_, PSs.nox (pss_cons (ps_expr (pe_call (ok_check_settings T) (hr.mono (by decide)) rfl T.g_check_settings T.d_check_settings.kp (b_check_settings T.d_check_settings) .nil pass0 (pa_cons (pv 0) pa_nil)))
      (pss_cons (ps_if (pt_not (pt_val (pe_call (ok_is_between T) (hr.mono (by decide)) rfl T.g_is_between T.d_is_between.kp (b_is_between T.d_is_between) .nil pass0 (pa_cons (pv 1) (pa_cons pe_int (pa_cons (pe_globi T.i_MOST_ROW) pa_nil)))))) (pss_one ps_never) pss_nil)
      (pss_cons (ps_expr (pe_call (ok_check_level T) (hr.mono (by decide)) rfl T.g_check_level T.d_check_level.kp (b_check_level T.d_check_level) .nil pass0 (pa_cons (pv 2) pa_nil)))
      (pss_one (ps_ret (pe_tup (pa_cons (pv 2) (pa_cons (pe_op op_fdivW (pv 1) (pe_call (ok_multiplied T) (hr.mono (by decide)) rfl T.g_multiplied T.d_multiplied.kp (b_multiplied T.d_multiplied) .nil pass0 (pa_cons (pe_fldK (K := K) (pv 0) rfl) (pa_cons (pe_op op_add (pv 2) pe_int) pa_nil)))) pa_nil)))))))), ?_⟩
    unfold sp_node_over at h
    obtain ⟨s, p, i, x, rfl, hs, ok, hx, hi, q⟩ := h
    obtain ⟨dx, t, hb, _⟩ := id hs
    have hf := ok.f
    have hw := powp ok (i + 1)
    have hh := pow_hi ok (show i + 1 ≤ 21 by omega)
    have hwc := powc ok (i + 1)
    walk_at "rd"
    refine use_check_settings hb ?_
    walk_at "rd"
    refine use_between ?_
    rw [decide_eq_true (show (0 : Int) ≤ (x : Int) ∧ (x : Int) ≤ 1000000000000000000000000000000 by omega)]
    walk_at "rd"
    refine use_level (by omega) ?_
    walk_at "rd"
    refine use_mult (k := i + 1) (by omega) (by omega) (by omega) ?_
    rw [hwc]
    generalize p.fan.toNat ^ (i + 1) = w at hw hh q
    walk_at "rd"
    intro t2 n2
    generalize eH2 : upd _ t2 _ = H2
    obtain ⟨s2, c2⟩ := gen_new n2 eH2
    clear eH2
    refine q t2 H2 n2 s2 ?_
    rw [c2]
    push_cast
    rfl

theorem take_flt {α : Type} (f : α → Bool) (xs : List α) (i : Nat) (x : α) (h : xs[i]? = some x) : (xs.take (i + 1)).filter f = (xs.take i).filter f ++ (if f x then [x] else []) := by
  rw [List.take_add_one, h, List.filter_append]
  congr 1
  cases hf : f x <;> simp [hf]
theorem nd_of {p : Prt} (ok : p.Ok) {m : Nat} (hm : m ≤ 500) {q : Int × Int} (h : q ∈ kn p m) :
    ∃ i x : Nat, q = ((i : Int), (x : Int)) ∧ i < ht p m ∧ i ≤ 10 ∧ x * p.fan.toNat ^ (i + 1) ≤ 500 ∧ pgN p (kbN p m) / p.fan.toNat ^ (i + 1) ≤ x ∧ x ≤ pgN p (m - 1) / p.fan.toNat ^ (i + 1) := by
  obtain ⟨h1, i, h2, h3, h4, h5⟩ := (kn_mem ok).mp h
  have h6 := ht_10 ok (show m ≤ 1000 by omega)
  have h7 := pgN_le ok (m - 1)
  have h9 := Nat.div_mul_le_self (pgN p (m - 1)) (p.fan.toNat ^ (i + 1))
  refine ⟨i, q.2.toNat, ?_⟩
  generalize pgN p (kbN p m) / p.fan.toNat ^ (i + 1) = lo at h4 ⊢
  generalize pgN p (m - 1) / p.fan.toNat ^ (i + 1) = hi at h5 h9 ⊢
  refine ⟨Prod.ext h3 (by show q.2 = ((q.2.toNat : Nat) : Int); omega), h2, by omega, ?_, by omega, by omega⟩
  have h8 := Nat.mul_le_mul_right (p.fan.toNat ^ (i + 1)) (show q.2.toNat ≤ hi by omega)
  omega
/-- the node (i, x) of the tree stands at n -/
def NdIn (p : Prt) (m : Nat) (H : Hp) (n : Addr) (i x : Nat) : Prop := NdOk p H n i x ∧ ((i : Int), (x : Int)) ∈ kn p m
theorem NdIn.same {p : Prt} {m : Nat} {H H' : Hp} {n : Addr} {i x : Nat} (h : NdIn p m H n i x) (s : Same H H') : NdIn p m H' n i x := ⟨h.1.same s, h.2⟩
@[irreducible] def sp_checked (K : PySem.W.Frag) : Sp := fun vs H Q _ => ∃ (s n : Addr) (p : Prt) (m i x : Nat), vs = [.ref s, .int m, .ref n] ∧ SetAt K H s p ∧ p.Ok ∧ m ≤ 500 ∧ NdIn p m H n i x ∧
  ∀ q xs H', H q = none → Same H H' → H' q = some (.lst xs) → PrsL H' xs (kn p m) → Q (.ref q) H'
theorem use_checked {K : PySem.W.Frag} {s n : Addr} {p : Prt} {m i x : Nat} {u : Int} {H : Hp} {Q : VK} {E : XK} (hu : u = (m : Int)) (hs : SetAt K H s p) (ok : p.Ok) (hm : m ≤ 500) (hn : NdIn p m H n i x)
  (k : ∀ q xs H', H q = none → Same H H' → H' q = some (.lst xs) → PrsL H' xs (kn p m) → Q (.ref q) H') : sp_checked K [.ref s, .int u, .ref n] H Q E := by subst hu; unfold sp_checked; exact ⟨s, n, p, m, i, x, rfl, hs, ok, hm, hn, k⟩
theorem b_checked_tree {K : PySem.W.Frag} {fd : FuncData} (F : F_checked_tree K fd) : Binds K fd P_checked_tree [] := FunD.bindsN F fun _ _ _ _ _ _ us hl => match us, hl with | [_, _, _], _ => rfl
theorem ok_checked_tree (T : Txt K mg D) : FnOk P w K mg base CX0 9 (He.fAd K ("checked_tree", none)) (D D_checked_tree) P_checked_tree (sp_checked K) := by
  refine T.d_checked_tree.ok sc_checked_tree (fun vs H Q E h => ?_) (fun cdv A outer s H vs Q E hr h => ?_)
  · unfold sp_checked at h
    first | (obtain ⟨rfl, _⟩ := h; rfl) | (obtain ⟨_, rfl, _⟩ := h; rfl) | (obtain ⟨_, _, rfl, _⟩ := h; rfl) | (obtain ⟨_, _, _, rfl, _⟩ := h; rfl) | (obtain ⟨_, _, _, _, rfl, _⟩ := h; rfl) | (obtain ⟨_, _, _, _, _, rfl, _⟩ := h; rfl) | (obtain ⟨_, _, _, _, _, _, rfl, _⟩ := h; rfl) | (obtain ⟨_, _, _, _, _, _, _, rfl, _⟩ := h; rfl) | (obtain ⟨_, _, _, _, _, _, _, _, rfl, _⟩ := h; rfl) | (obtain ⟨_, _, _, _, _, _, _, _, _, rfl, _⟩ := h; rfl) | (obtain ⟨_, _, _, _, _, _, _, _, _, _, rfl, _⟩ := h; rfl) | (obtain ⟨_, _, _, _, _, _, _, _, _, _, _, rfl, _⟩ := h; rfl)
  · refine ⟨_, PSs.nox (pss_cons (ps_set (i := 3) sc_checked_tree.nd rfl (Or.inl rfl) (pe_call (ok_tree_nodes T) (hr.mono (by decide)) rfl T.g_tree_nodes T.d_tree_nodes.kp (b_tree_nodes T.d_tree_nodes) .nil pass0 (pa_cons (pv 0) (pa_cons (pv 1) pa_nil))))
      (pss_cons (ps_if (PW.pt (pw_or (pt_not (pt_val (pe_call (ok_is_node T) (hr.mono (by decide)) rfl T.g_is_node T.d_is_node.kp (b_is_node T.d_is_node) .nil pass0 (pa_cons (pv 0) (pa_cons (pv 2) pa_nil))))) (pw_or1 (pt_cmpR (op_notInDK (K := K) (units65 hr)) (pv 2) (pv 3) rfl)))) (pss_one ps_never) pss_nil)
      (pss_one (ps_ret (pv 3))))), ?_⟩
    unfold sp_checked at h
    obtain ⟨s, n, p, m, i, x, rfl, hs, ok, hm, hn, k⟩ := h
    walk_at "rd"
    refine use_tree_nodes rfl hs ok hm fun q xs G1 n1 g1 c1 hA => ?_
    walk_at "rd"
    refine use_is_node (hs.same g1) ok (hn.1.same g1) ?_
    walk_at "rd"
    refine notin_prs (q := ((i : Int), (x : Int))) (hn.1.same g1).1 c1 hA hn.2 ?_
    walk_at "rd"
    exact k q xs G1 n1 g1 c1 hA

theorem rgV_eq {A B : Int} {xs : List Int} (hs : xs.Pairwise (· < ·)) (hm : ∀ k, k ∈ xs ↔ A ≤ k ∧ k < B) : rgV A B = xs.map V.int := by
  have e : rgV A B = ((List.range (B - A).toNat).map fun i => A + ((i : Nat) : Int)).map V.int := by unfold rgV; rw [List.map_map]; rfl
  rw [e]
  congr 1
  refine srt_uniq ?_ hs fun k => ?_
  · rw [List.pairwise_map]
    exact List.pairwise_lt_range.imp fun h => by omega
  · rw [hm, List.mem_map]
    constructor
    · rintro ⟨i, hi, rfl⟩; have := List.mem_range.mp hi; omega
    · rintro ⟨h1, h2⟩; exact ⟨(k - A).toNat, List.mem_range.mpr (by omega), by omega⟩
/-- the pages below a node of level 0 -/
noncomputable def chI (p : Prt) (m x : Nat) : List Int := (ivI (pgN p (kbN p m)) (pgN p (m - 1) + 1 - pgN p (kbN p m))).filter fun k => decide (k / p.fan = (x : Int))
def chF (p : Prt) (i x : Nat) (q : Int × Int) : Bool := decide (q.1 = (i : Int) - 1 ∧ q.2 / p.fan = (x : Int))
/-- the nodes below a node -/
noncomputable def chP (p : Prt) (m i x : Nat) : List (Int × Int) := (kn p m).filter (chF p i x)
theorem chI_srt (p : Prt) (m x : Nat) : (chI p m x).Pairwise (· < ·) := (ivI_srt _ _).filter _
theorem div_iff {f k x : Int} (hf : 0 < f) : k / f = x ↔ x * f ≤ k ∧ k < (x + 1) * f := by
  constructor
  · rintro rfl; exact ⟨Int.ediv_mul_le k (by omega), Int.lt_ediv_add_one_mul_self k hf⟩
  · rintro ⟨h1, h2⟩
    have a := Int.le_ediv_of_mul_le hf h1
    have b := Int.ediv_lt_of_lt_mul hf h2
    omega
theorem chI_mem {p : Prt} (ok : p.Ok) {m x : Nat} (h : 1 ≤ m) {k : Int} : k ∈ chI p m x ↔ ((pgN p (kbN p m) : Nat) : Int) ≤ k ∧ k < ((pgN p (m - 1) + 1 : Nat) : Int) ∧ ((x * p.fan.toNat ^ (0 + 1) : Nat) : Int) ≤ k ∧ k < (((x + 1) * p.fan.toNat ^ (0 + 1) : Nat) : Int) := by
  have hf := ok.f
  have hb := kb_pg ok h
  have e1 : ((x * p.fan.toNat ^ (0 + 1) : Nat) : Int) = (x : Int) * p.fan := by rw [Nat.zero_add, Nat.pow_one]; push_cast; rw [Int.toNat_of_nonneg (by omega)]
  have e2 : (((x + 1) * p.fan.toNat ^ (0 + 1) : Nat) : Int) = ((x : Int) + 1) * p.fan := by rw [Nat.zero_add, Nat.pow_one]; push_cast; rw [Int.toNat_of_nonneg (by omega)]
  unfold chI
  rw [List.mem_filter, ivI_mem, e1, e2]
  constructor
  · rintro ⟨⟨h1, h2⟩, h3⟩
    have := (div_iff (show 0 < p.fan by omega)).mp (of_decide_eq_true h3)
    exact ⟨h1, by omega, this.1, this.2⟩
  · rintro ⟨h1, h2, h3, h4⟩
    exact ⟨⟨h1, by omega⟩, decide_eq_true ((div_iff (show 0 < p.fan by omega)).mpr ⟨h3, h4⟩)⟩
@[irreducible] def sp_children (K : PySem.W.Frag) : Sp := fun vs H Q _ => ∃ (s n : Addr) (p : Prt) (m i x : Nat), vs = [.ref s, .int m, .ref n] ∧ SetAt K H s p ∧ p.Ok ∧ m ≤ 500 ∧ NdIn p m H n i x ∧
  (i = 0 → ∀ q H', H q = none → Same H H' → H' q = some (.lst ((chI p m x).map V.int)) → Q (.ref q) H') ∧
  (i ≠ 0 → ∀ q xs H', H q = none → Same H H' → H' q = some (.lst xs) → PrsL H' xs (chP p m i x) → Q (.ref q) H')
theorem use_children {K : PySem.W.Frag} {s n : Addr} {p : Prt} {m i x : Nat} {u : Int} {H : Hp} {Q : VK} {E : XK} (hu : u = (m : Int)) (hs : SetAt K H s p) (ok : p.Ok) (hm : m ≤ 500) (hn : NdIn p m H n i x)
  (k0 : i = 0 → ∀ q H', H q = none → Same H H' → H' q = some (.lst ((chI p m x).map V.int)) → Q (.ref q) H')
  (k1 : i ≠ 0 → ∀ q xs H', H q = none → Same H H' → H' q = some (.lst xs) → PrsL H' xs (chP p m i x) → Q (.ref q) H') : sp_children K [.ref s, .int u, .ref n] H Q E := by subst hu; unfold sp_children; exact ⟨s, n, p, m, i, x, rfl, hs, ok, hm, hn, k0, k1⟩
theorem b_children {K : PySem.W.Frag} {fd : FuncData} (F : F_children K fd) : Binds K fd P_children [] := FunD.bindsN F fun _ _ _ _ _ _ us hl => match us, hl with | [_, _, _], _ => rfl
theorem ok_children (T : Txt K mg D) : FnOk P w K mg base CX0 10 (He.fAd K ("children", none)) (D D_children) P_children (sp_children K) := by
  refine T.d_children.ok sc_children (fun vs H Q E h => ?_) (fun cdv A outer s H vs Q E hr h => ?_)
  · unfold sp_children at h
    first | (obtain ⟨rfl, _⟩ := h; rfl) | (obtain ⟨_, rfl, _⟩ := h; rfl) | (obtain ⟨_, _, rfl, _⟩ := h; rfl) | (obtain ⟨_, _, _, rfl, _⟩ := h; rfl) | (obtain ⟨_, _, _, _, rfl, _⟩ := h; rfl) | (obtain ⟨_, _, _, _, _, rfl, _⟩ := h; rfl) | (obtain ⟨_, _, _, _, _, _, rfl, _⟩ := h; rfl) | (obtain ⟨_, _, _, _, _, _, _, rfl, _⟩ := h; rfl) | (obtain ⟨_, _, _, _, _, _, _, _, rfl, _⟩ := h; rfl) | (obtain ⟨_, _, _, _, _, _, _, _, _, rfl, _⟩ := h; rfl) | (obtain ⟨_, _, _, _, _, _, _, _, _, _, rfl, _⟩ := h; rfl) | (obtain ⟨_, _, _, _, _, _, _, _, _, _, _, rfl, _⟩ := h; rfl)
  · refine ⟨_, PSs.nox (pss_cons (ps_set (i := 3) sc_children.nd rfl (Or.inl rfl) (pe_call (ok_checked_tree T) (hr.mono (by decide)) rfl T.g_checked_tree T.d_checked_tree.kp (b_checked_tree T.d_checked_tree) .nil pass0 (pa_cons (pv 0) (pa_cons (pv 1) (pa_cons (pv 2) pa_nil)))))
      (pss_cons (ps_if (pt_cmpR op_eq (pe_ix (ix_tupK (K := K)) (pv 2) pe_int (fun _ _ => rfl)) pe_int (nomark _)) (pss_cons (ps_asg (pe_call (ok_live T) (hr.mono (by decide)) rfl T.g_live T.d_live.kp (b_live T.d_live) .nil pass0 (pa_cons (pv 0) (pa_cons (pv 1) pa_nil))) (pg_tup rfl (pgs_cons (pg_name (i := 4) sc_children.nd rfl (Or.inl rfl)) (pgs_cons (pg_name (i := 5) sc_children.nd rfl (Or.inl rfl)) pgs_nil))))
      (pss_cons (ps_asg (pe_call (ok_span_of T) (hr.mono (by decide)) rfl T.g_span_of T.d_span_of.kp (b_span_of T.d_span_of) .nil pass0 (pa_cons (pv 0) (pa_cons (pv 2) pa_nil))) (pg_tup rfl (pgs_cons (pg_name (i := 6) sc_children.nd rfl (Or.inl rfl)) (pgs_cons (pg_name (i := 7) sc_children.nd rfl (Or.inl rfl)) pgs_nil))))
      (pss_one (ps_ret (pe_listRgB rfl (by rfl) T.n_list (prg_2 (by rfl) T.n_range (pe_callB (call_max2 rfl) (by rfl) T.n_max (by decide +kernel) (pa_cons (pv 4) (pa_cons (pv 6) pa_nil))) (pe_callB (call_min2 rfl) (by rfl) T.n_min (by decide +kernel) (pa_cons (pv 5) (pa_cons (pv 7) pa_nil))))))))) pss_nil)
      (pss_one (ps_ret (pe_lc (own := [("one", 8)]) rfl sc_children.nd (pi_list (pv 3)) (blkOk_by (N := N_children) (sc := defScope s_children) (by decide +kernel)) (fun _ _ _ _ _ => (pg_name (i := 8) sc_children.nd rfl (Or.inl rfl))) (fun _ _ _ _ _ => (pts_one (PW.pt (pw_and (pt_cmpR op_eq (pe_ix (ix_tupK (K := K)) (pv 8) pe_int (fun _ _ => rfl)) (pe_op op_sub (pe_ix (ix_tupK (K := K)) (pv 2) pe_int (fun _ _ => rfl)) pe_int) (nomark _)) (pw_and1 (pt_cmpR op_eq (pe_op op_fdivW (pe_ix (ix_tupK (K := K)) (pv 8) pe_int (fun _ _ => rfl)) (pe_fldK (K := K) (pv 0) rfl)) (pe_ix (ix_tupK (K := K)) (pv 2) pe_int (fun _ _ => rfl)) (nomark _))))))) (fun _ _ _ _ _ => (pv 8))))))), ?_⟩
    unfold sp_children at h
    obtain ⟨s, n, p, m, i, x, rfl, hs, ok, hm, hn, k0, k1⟩ := h
    obtain ⟨dx, t, hb, _⟩ := id hs
    have hf := ok.f
    walk_at "rd"
    refine use_checked rfl hs ok hm hn fun q xs G1 n1 g1 c1 hA => ?_
    have hb1 := g1 _ _ hb
    have hn1 := (hn.same g1).1.1
    obtain ⟨hm1, _⟩ := (kn_mem ok).mp hn.2
    walk_at "rd"
    refine ite2 (fun c => ?_) (fun c => ?_)
    · have c := dvi c
      obtain rfl : i = 0 := by omega
      walk_at "rd"
      refine use_live rfl (hs.same g1) ok fun q2 G2 n2 g2 c2 => ?_
      obtain ⟨e1, e2⟩ := lv_pos p ok hm1
      rw [e1, e2] at c2
      walk_at "rd"
      refine use_span_of ((hs.same g1).same g2) ok ((hn.same g1).same g2).1 fun q3 G3 n3 g3 c3 => ?_
      walk_at "rd"
      have hpe := pgN_le ok (m - 1)
      refine use_lstB ?_ fun q4 G4 n4 g4 c4 => ?_
      · repeat' split
        all_goals omega
      refine k0 rfl q4 G4 (((g1.trans g2).trans g3).free n4) (((g1.trans g2).trans g3).trans g4) ?_
      rw [c4, rgV_eq (chI_srt p m x) fun k => ?_]
      rw [chI_mem ok hm1]
      generalize ((x * p.fan.toNat ^ (0 + 1) : Nat) : Int) = A0
      generalize (((x + 1) * p.fan.toNat ^ (0 + 1) : Nat) : Int) = B0
      split <;> split <;> omega
    · have c := dvn c
      walk_at "rd"
      intro D nD
      have w1 : ∀ {a : Addr} {o : HO}, G1 a = some o → a ≠ D := fun h => ne_of_none h nD
      refine lc_list (K := K) (a := q) (xs := xs) (fun j G => SX [D] G1 G ∧ ∃ ys, G D = some (.lst ys) ∧ PrsL G ys (((kn p m).take j).filter (chF p i x))) ⟨SX.refl.mut nD, [], upd_same, True.intro⟩ ?_ ?_ ?_
      · rintro j G _ ⟨f, _⟩
        exact SqL.of (f _ _ (by simp [w1 c1]) c1)
      · rintro j v G hv ⟨f, ys, hD, hP⟩
        obtain ⟨a, r, rfl, ha, hr⟩ := hA.get hv
        have haG := f _ _ (by simp [w1 ha]) ha
        have hnG := f _ _ (by simp [w1 hn1]) hn1
        have hbG := f _ _ (by simp [w1 hb1]) hb1
        have hl := hP.len
        have hl2 := List.length_filter_le (chF p i x) ((kn p m).take j)
        have hl3 : ((kn p m).take j).length ≤ (kn p m).length := by rw [List.length_take]; exact Nat.min_le_right _ _
        have hl4 := kn_len ok (show m ≤ 1000 by omega)
        refine ⟨rfl, ?_⟩
        walk_at "rd"
        rw [take_flt _ _ _ _ hr]
        refine iteB (fun d => ?_) (fun d => ?_)
        · have d := dvi d
          walk_at "rd"
          refine iteB (fun d2 => ?_) (fun d2 => ?_)
          · have d2 := dvi d2
            rw [if_pos (show chF p i x r = true from decide_eq_true ⟨d, d2⟩)]
            walk_at "rd"
            refine ⟨_, hD, szlt (by omega), f.upd (by simp), ys ++ [.ref a], upd_same, ?_⟩
            refine PrsL.push ?_ (hP.mono (kt_upd hD))
            exact kt_upd hD _ _ haG
          · rw [if_neg (show ¬ chF p i x r = true from fun z => of_decide_eq_false d2 (congrArg V.int (of_decide_eq_true z).2)), List.append_nil]
            exact ⟨f, ys, hD, hP⟩
        · rw [if_neg (show ¬ chF p i x r = true from fun z => of_decide_eq_false d (congrArg V.int (of_decide_eq_true z).1)), List.append_nil]
          exact ⟨f, ys, hD, hP⟩
      · rintro G ⟨f, ys, hD, hP⟩
        rw [hA.len, List.take_length] at hP
        exact k1 (by omega) D ys G (g1.free nD) (g1.trans fun c o ho => f _ _ (by simp [w1 ho]) ho) hD hP

@[irreducible] def sp_parent (K : PySem.W.Frag) : Sp := fun vs H Q _ => ∃ (s n : Addr) (p : Prt) (m i x : Nat), vs = [.ref s, .int m, .ref n] ∧ SetAt K H s p ∧ p.Ok ∧ m ≤ 500 ∧ NdIn p m H n i x ∧
  (((i : Int), (x : Int)) = topI p m → ∀ H', Same H H' → Q .non H') ∧
  (((i : Int), (x : Int)) ≠ topI p m → ∀ q H', H q = none → Same H H' → H' q = some (.tup [.int ((i : Int) + 1), .int ((x : Int) / p.fan)]) → Q (.ref q) H')
theorem use_parent {K : PySem.W.Frag} {s n : Addr} {p : Prt} {m i x : Nat} {u : Int} {H : Hp} {Q : VK} {E : XK} (hu : u = (m : Int)) (hs : SetAt K H s p) (ok : p.Ok) (hm : m ≤ 500) (hn : NdIn p m H n i x)
  (k0 : ((i : Int), (x : Int)) = topI p m → ∀ H', Same H H' → Q .non H')
  (k1 : ((i : Int), (x : Int)) ≠ topI p m → ∀ q H', H q = none → Same H H' → H' q = some (.tup [.int ((i : Int) + 1), .int ((x : Int) / p.fan)]) → Q (.ref q) H') : sp_parent K [.ref s, .int u, .ref n] H Q E := by subst hu; unfold sp_parent; exact ⟨s, n, p, m, i, x, rfl, hs, ok, hm, hn, k0, k1⟩
theorem prs_dp {K : PySem.W.Frag} {H : Hp} {n : Addr} {q : Int × Int} (hn : H n = some (.tup [.int q.1, .int q.2])) : Dp K H (.ref n) (prD q) := .tup (SqT.of hn) (.cons (.int _) (.cons (.int _) .nil))
theorem nb_pr (q : Int × Int) : NB (prD q) := ⟨rfl, by show PyData.depth (prD q) ≤ 64; have : PyData.depth (prD q) = 1 := rfl; omega⟩
theorem b_parent {K : PySem.W.Frag} {fd : FuncData} (F : F_parent K fd) : Binds K fd P_parent [] := FunD.bindsN F fun _ _ _ _ _ _ us hl => match us, hl with | [_, _, _], _ => rfl
theorem ok_parent (T : Txt K mg D) : FnOk P w K mg base CX0 10 (He.fAd K ("parent", none)) (D D_parent) P_parent (sp_parent K) := by
  refine T.d_parent.ok sc_parent (fun vs H Q E h => ?_) (fun cdv A outer s H vs Q E hr h => ?_)
  · unfold sp_parent at h
    first | (obtain ⟨rfl, _⟩ := h; rfl) | (obtain ⟨_, rfl, _⟩ := h; rfl) | (obtain ⟨_, _, rfl, _⟩ := h; rfl) | (obtain ⟨_, _, _, rfl, _⟩ := h; rfl) | (obtain ⟨_, _, _, _, rfl, _⟩ := h; rfl) | (obtain ⟨_, _, _, _, _, rfl, _⟩ := h; rfl) | (obtain ⟨_, _, _, _, _, _, rfl, _⟩ := h; rfl) | (obtain ⟨_, _, _, _, _, _, _, rfl, _⟩ := h; rfl) | (obtain ⟨_, _, _, _, _, _, _, _, rfl, _⟩ := h; rfl) | (obtain ⟨_, _, _, _, _, _, _, _, _, rfl, _⟩ := h; rfl) | (obtain ⟨_, _, _, _, _, _, _, _, _, _, rfl, _⟩ := h; rfl) | (obtain ⟨_, _, _, _, _, _, _, _, _, _, _, rfl, _⟩ := h; rfl)
  · refine ⟨_, PSs.nox (pss_cons (ps_set (i := 3) sc_parent.nd rfl (Or.inl rfl) (pe_call (ok_checked_tree T) (hr.mono (by decide)) rfl T.g_checked_tree T.d_checked_tree.kp (b_checked_tree T.d_checked_tree) .nil pass0 (pa_cons (pv 0) (pa_cons (pv 1) (pa_cons (pv 2) pa_nil)))))
      (pss_one (ps_ret (pe_ifExp (pt_cmpR (op_eqNK (K := K) hr.units) (pv 2) (pe_ix (ix_listK (K := K)) (pv 3) (pe_un un_neg pe_int) (fun _ _ => rfl)) (nomark _)) pe_non (pe_tup (pa_cons (pe_op op_add (pe_ix (ix_tupK (K := K)) (pv 2) pe_int (fun _ _ => rfl)) pe_int) (pa_cons (pe_op op_fdivW (pe_ix (ix_tupK (K := K)) (pv 2) pe_int (fun _ _ => rfl)) (pe_fldK (K := K) (pv 0) rfl)) pa_nil))))))), ?_⟩
    unfold sp_parent at h
    obtain ⟨s, n, p, m, i, x, rfl, hs, ok, hm, hn, k0, k1⟩ := h
    obtain ⟨dx, t, hb, _⟩ := id hs
    have hf := ok.f
    walk_at "rd"
    refine use_checked rfl hs ok hm hn fun q xs G1 n1 g1 c1 hA => ?_
    have hb1 := g1 _ _ hb
    have hn1 := (hn.same g1).1.1
    obtain ⟨hm1, _⟩ := (kn_mem ok).mp hn.2
    obtain ⟨ps, ek⟩ := kn_top ok hm1
    rw [ek] at hA
    obtain ⟨t, a1, a2⟩ := hA.last
    walk_at "rd"
    refine ⟨_, _, _, _, rfl, rfl, SqL.of c1, a1, ?_⟩
    refine use_eqN (prs_dp (q := ((i : Int), (x : Int))) hn1) (prs_dp a2) (nb_pr _) (nb_pr _) fun e he => ?_
    by_cases z : ((i : Int), (x : Int)) = topI p m
    · have he : e = true := he.mpr (by rw [z])
      subst he
      walk_at "rd"
      exact k0 z G1 g1
    · have he : e = false := by
        cases e with
        | false => rfl
        | true => exact absurd (prD_inj (he.mp rfl)) z
      subst he
      walk_at "rd"
      intro q2 n2
      generalize eG2 : upd _ q2 _ = G2
      obtain ⟨g2, c2⟩ := gen_new n2 eG2
      clear eG2
      exact k1 z q2 G2 (g1.free n2) (g1.trans g2) c2

theorem q_nat {Q : VK} {i : Int} {H : Hp} (h : 0 ≤ i) (q : Q (.int (i.toNat : Nat)) H) : Q (.int i) H := by rw [Int.toNat_of_nonneg h] at q; exact q
@[irreducible] def sp_law_rows : Sp := fun vs H Q _ => ∃ (d : Addr) (f : Nat → Int), vs = [.ref d] ∧ DgOk f ∧ H d = some (.lst (dgL f)) ∧ ∀ m : Nat, 40 ≤ m → m ≤ 103 → Q (.int m) H
theorem use_rows {d : Addr} {f : Nat → Int} {H : Hp} {Q : VK} {E : XK} (hf : DgOk f) (hd : H d = some (.lst (dgL f))) (k : ∀ m : Nat, 40 ≤ m → m ≤ 103 → Q (.int m) H) : sp_law_rows [.ref d] H Q E := by unfold sp_law_rows; exact ⟨d, f, rfl, hf, hd, k⟩
theorem b_law_rows {K : PySem.W.Frag} {fd : FuncData} (F : F_law_rows K fd) : Binds K fd P_law_rows [] := FunD.bindsN F fun _ _ _ _ _ _ us hl => match us, hl with | [_], _ => rfl
theorem ok_law_rows (T : Txt K mg D) : FnOk P w K mg base CX0 1 (He.fAd K ("_law_rows", none)) (D D_law_rows) P_law_rows sp_law_rows := by
  refine T.d_law_rows.ok sc_law_rows (fun vs H Q E h => ?_) (fun cdv A outer s H vs Q E hr h => ?_)
  · unfold sp_law_rows at h
    first | (obtain ⟨rfl, _⟩ := h; rfl) | (obtain ⟨_, rfl, _⟩ := h; rfl) | (obtain ⟨_, _, rfl, _⟩ := h; rfl) | (obtain ⟨_, _, _, rfl, _⟩ := h; rfl) | (obtain ⟨_, _, _, _, rfl, _⟩ := h; rfl) | (obtain ⟨_, _, _, _, _, rfl, _⟩ := h; rfl) | (obtain ⟨_, _, _, _, _, _, rfl, _⟩ := h; rfl) | (obtain ⟨_, _, _, _, _, _, _, rfl, _⟩ := h; rfl) | (obtain ⟨_, _, _, _, _, _, _, _, rfl, _⟩ := h; rfl) | (obtain ⟨_, _, _, _, _, _, _, _, _, rfl, _⟩ := h; rfl) | (obtain ⟨_, _, _, _, _, _, _, _, _, _, rfl, _⟩ := h; rfl) | (obtain ⟨_, _, _, _, _, _, _, _, _, _, _, rfl, _⟩ := h; rfl)
  · refine ⟨_, PSs.nox (pss_one (ps_ret (pe_op op_add pe_int (pe_op op_mod (pe_callTy call_int1 (by rfl) T.n_int (by decide +kernel) (pa_cons (pe_ix (ix_listK (K := K)) (pv 0) pe_int (fun _ _ => rfl)) pa_nil)) pe_int)))), ?_⟩
    unfold sp_law_rows at h
    obtain ⟨d, f, rfl, hf, hd, k⟩ := h
    have b := mod_bd (x := f 9) (show (0 : Int) < 64 by decide) (Int.le_refl 64)
    walk_at "rd"
    exact q_nat (by omega) (k _ (by omega) (by omega))

noncomputable def pgI (p : Prt) (n : Nat) : List Int := (List.range n).map fun r => ((pgN p r : Nat) : Int)
noncomputable def pgL (p : Prt) (n : Nat) : List V := (pgI p n).map V.int
theorem pgL_succ (p : Prt) (n : Nat) : pgL p (n + 1) = pgL p n ++ [.int (pgN p n : Nat)] := by unfold pgL pgI; rw [List.range_succ, List.map_append, List.map_append]; rfl
theorem pgL_len (p : Prt) (n : Nat) : (pgL p n).length = n := by unfold pgL pgI; rw [List.length_map, List.length_map, List.length_range]
@[irreducible] def sp_law_pages : Sp := fun vs H Q _ => ∃ (a : Addr) (p : Prt) (n : Nat), vs = [.ref a, .int n] ∧ PdAt H a p ∧ p.Ok ∧ n ≤ 1000 ∧ ∀ q H', H q = none → Same H H' → H' q = some (.lst (pgL p n)) → Q (.ref q) H'
theorem use_pages {a : Addr} {p : Prt} {n : Nat} {H : Hp} {Q : VK} {E : XK} {i : Int} (hi : i = (n : Int)) (h : PdAt H a p) (ok : p.Ok) (hn : n ≤ 1000) (k : ∀ q H', H q = none → Same H H' → H' q = some (.lst (pgL p n)) → Q (.ref q) H') :
  sp_law_pages [.ref a, .int i] H Q E := by subst hi; unfold sp_law_pages; exact ⟨a, p, n, rfl, h, ok, hn, k⟩
theorem b_law_pages {K : PySem.W.Frag} {fd : FuncData} (F : F_law_pages K fd) : Binds K fd P_law_pages [] := FunD.bindsN F fun _ _ _ _ _ _ us hl => match us, hl with | [_, _], _ => rfl
theorem ok_law_pages (T : Txt K mg D) : FnOk P w K mg base CX0 1 (He.fAd K ("_law_pages", none)) (D D_law_pages) P_law_pages sp_law_pages := by
  refine T.d_law_pages.ok sc_law_pages (fun vs H Q E h => ?_) (fun cdv A outer s H vs Q E hr h => ?_)
  · unfold sp_law_pages at h
    first | (obtain ⟨rfl, _⟩ := h; rfl) | (obtain ⟨_, rfl, _⟩ := h; rfl) | (obtain ⟨_, _, rfl, _⟩ := h; rfl) | (obtain ⟨_, _, _, rfl, _⟩ := h; rfl) | (obtain ⟨_, _, _, _, rfl, _⟩ := h; rfl) | (obtain ⟨_, _, _, _, _, rfl, _⟩ := h; rfl) | (obtain ⟨_, _, _, _, _, _, rfl, _⟩ := h; rfl) | (obtain ⟨_, _, _, _, _, _, _, rfl, _⟩ := h; rfl) | (obtain ⟨_, _, _, _, _, _, _, _, rfl, _⟩ := h; rfl) | (obtain ⟨_, _, _, _, _, _, _, _, _, rfl, _⟩ := h; rfl) | (obtain ⟨_, _, _, _, _, _, _, _, _, _, rfl, _⟩ := h; rfl) | (obtain ⟨_, _, _, _, _, _, _, _, _, _, _, rfl, _⟩ := h; rfl)
  · refine ⟨_, PSs.nox (pss_cons (ps_par3 (i := 2) (j := 3) (l := 4) rfl sc_law_pages.nd rfl rfl rfl (by decide) (by decide) (by decide) rfl rfl rfl (pa_cons (pe_lst pa_nil) (pa_cons (pe_un un_neg pe_int) (pa_cons pe_int pa_nil))) (by rfl))
      (pss_cons (ps_for PassesOwn.never rfl (pi_range1 (by rfl) T.n_range (pa_cons (pv 1) pa_nil)) (pg_name (i := 5) sc_law_pages.nd rfl (Or.inl rfl)) (pss_cons (ps_set (i := 6) sc_law_pages.nd rfl (Or.inl rfl) (pe_ix (ix_listK (K := K)) (pe_dget (hu_of hr) (pv 0) pe_str (fun _ _ => rfl)) (pe_op op_mod (pe_callTy call_int1 (by rfl) T.n_int (by decide +kernel) (pa_cons (pv 5) pa_nil)) (pe_callB (call_lenK (K := K)) (by rfl) T.n_len (by decide +kernel) (pa_cons (pe_dget (hu_of hr) (pv 0) pe_str (fun _ _ => rfl)) pa_nil))) (fun _ _ => rfl)))
      (pss_cons (ps_if (pt_cmpR op_gt (pv 6) (pv 4) (nomark _)) (pss_one (ps_par (i := 3) (j := 4) (by rfl) sc_law_pages.nd rfl rfl (by decide) rfl rfl (pa_cons (pe_op op_add (pv 3) pe_int) (pa_cons (pe_dget (hu_of hr) (pv 0) pe_str (fun _ _ => rfl)) pa_nil)) (by rfl))) pss_nil)
      (pss_cons (ps_set (i := 4) sc_law_pages.nd rfl (Or.inl rfl) (pe_op op_sub (pv 4) (pv 6)))
      (pss_one (ps_expr (pe_bm PySem.F.plainAttrs_list PySem.F.slot_list_append PySem.F.type_list_append mt_append (pv 2) (pa_cons (pv 3) pa_nil))))))))
      (pss_one (ps_ret (pv 2))))), ?_⟩
    unfold sp_law_pages at h
    obtain ⟨a, p, n, rfl, ⟨la, ha, hla⟩, ok, hn, k⟩ := h
    walk_at "rd"
    intro q n0
    generalize eG0 : upd _ q _ = G0
    obtain ⟨g0, c0⟩ := gen_new n0 eG0
    clear eG0
    have ha0 := g0 _ _ ha
    have hla0 := g0 _ _ hla
    have naq : a ≠ q := ne_of_none ha n0
    have nlq : la ≠ q := ne_of_none hla n0
    walk_at "rd"
    refine for_range (lo := 0) (n := n) (fun i σ G => ∃ (x y : Int) (v1 v2 : Option V), σ = [some (.ref a), some (.int n), some (.ref q), some (.int x), some (.int y), v1, v2] ∧ SX [q] G0 G ∧ G q = some (.lst (pgL p i)) ∧
      ((i = 0 ∧ x = -1 ∧ y = 0) ∨ ∃ m j : Nat, 1 ≤ j ∧ i = startN p m + j ∧ x = (m : Int) ∧ y = p.size - usum p (startN p m) j ∧ usum p (startN p m) j ≤ p.size)) ⟨_, _, _, _, rfl, SX.refl, c0, .inl ⟨rfl, rfl, rfl⟩⟩ ?_ ?_
    · rintro i σ G hi ⟨x, y, v1, v2, rfl, f, hq, hc⟩
      have ha' := f _ _ (by simp [naq]) ha0
      have hla' := f _ _ (by simp [nlq]) hla0
      have e0 := mlen0 ok
      have hlen := lenAt_ok ok i
      walk_at "rd"
      refine ⟨_, _, _, .int (lenAt p i), rfl, rfl, SqL.of hla', (by rw [Int.zero_add]; exact at_len ok i), ?_⟩
      walk_at "rd"
      have app : ∀ (m j : Nat), 1 ≤ j → i + 1 = startN p m + j → usum p (startN p m) j ≤ p.size → pgN p i = m := fun m j h1 h2 h3 => by
        refine pgN_eq ok ⟨by omega, ?_⟩
        simp only [startN]
        have hf := rowsF_ok ok (startN p m)
        by_cases c : j ≤ rowsF p (startN p m)
        · omega
        · have := usum_mono ok (startN p m) (show rowsF p (startN p m) + 1 ≤ j by omega)
          have := hf.2
          omega
      refine ite2 (fun c => ?_) (fun c => ?_)
      · have c := of_decide_eq_true c
        have c : lenAt p i > y := c
        obtain ⟨m, hm, hx⟩ : ∃ m : Nat, i = startN p m ∧ x + 1 = (m : Int) := by
          rcases hc with ⟨rfl, rfl, rfl⟩ | ⟨m, j, h1, h2, rfl, rfl, h5⟩
          · exact ⟨0, rfl, rfl⟩
          · have hf : Fits p (startN p m) j := ⟨h5, by simp only [usum]; rw [← h2]; omega⟩
            exact ⟨m + 1, by simp only [startN]; rw [rowsF_eq ok hf]; exact h2, by omega⟩
        walk_at "rd"
        refine ⟨.inl ⟨rfl, _, SqL.of hq⟩, ?_⟩
        walk_at "rd"
        refine ⟨_, _, _, rfl, rfl, hq, szlt (by rw [pgL_len]; omega), ?_⟩
        have hu : usum p (startN p m) 1 = lenAt p i := by simp only [usum]; rw [Nat.add_zero, ← hm]; omega
        refine ⟨_, _, _, _, rfl, f.upd (by simp), ?_, .inr ⟨m, 1, Nat.le_refl 1, by omega, hx, by rw [hu], by rw [hu]; exact hlen.2⟩⟩
        rw [upd_same, pgL_succ, app m 1 (Nat.le_refl 1) (by omega) (by rw [hu]; exact hlen.2)]
        exact congrArg (fun z : Int => some (HO.lst (pgL p i ++ [V.int z]))) hx
      · have c := dcn c
        have c : ¬ lenAt p i > y := c
        rcases hc with ⟨rfl, rfl, rfl⟩ | ⟨m, j, h1, h2, rfl, rfl, h5⟩
        · omega
        · walk_at "rd"
          refine ⟨.inl ⟨rfl, _, SqL.of hq⟩, ?_⟩
          walk_at "rd"
          refine ⟨_, _, _, rfl, rfl, hq, szlt (by rw [pgL_len]; omega), ?_⟩
          have hu : usum p (startN p m) (j + 1) = usum p (startN p m) j + lenAt p i := by simp only [usum]; rw [← h2]
          refine ⟨_, _, _, _, rfl, f.upd (by simp), ?_, .inr ⟨m, j + 1, by omega, by omega, rfl, by rw [hu]; omega, by rw [hu]; omega⟩⟩
          rw [upd_same, pgL_succ, app m (j + 1) (by omega) (by omega) (by rw [hu]; omega)]
    · rintro σ G ⟨x, y, v1, v2, rfl, f, hq, hc⟩
      walk_at "rd"
      exact k q G n0 (fun b o ho => f _ _ (by simp [ne_of_none ho n0]) (g0 _ _ ho)) hq

theorem div_ivl {f : Int} (hf : 2 ≤ f) {x c : Nat} (hc : 1 ≤ c) {k : Int} : k ∈ (ivI x c).map (· / f) ↔ k ∈ ivI (x / f.toNat) ((x + c - 1) / f.toNat + 1 - x / f.toNat) := by
  have ef : (f.toNat : Int) = f := Int.toNat_of_nonneg (by omega)
  have e1 : ((x / f.toNat : Nat) : Int) = (x : Int) / f := by rw [Int.natCast_ediv, ef]
  have e2 : (((x + c - 1) / f.toNat : Nat) : Int) = ((x + c - 1 : Nat) : Int) / f := by rw [Int.natCast_ediv, ef]
  have h0 := Nat.div_le_div_right (c := f.toNat) (show x ≤ x + c - 1 by omega)
  rw [ivI_mem, List.mem_map]
  generalize x / f.toNat = u at *
  generalize (x + c - 1) / f.toNat = v at *
  constructor
  · rintro ⟨j, hj, rfl⟩
    obtain ⟨h1, h2⟩ := ivI_mem.mp hj
    have a := Int.ediv_le_ediv (show 0 < f by omega) h1
    have b := Int.ediv_le_ediv (show 0 < f by omega) (show j ≤ ((x + c - 1 : Nat) : Int) by omega)
    omega
  · rintro ⟨h1, h2⟩
    by_cases z : k = (u : Int)
    · exact ⟨x, ivI_mem.mpr ⟨by omega, by omega⟩, by rw [z, e1]⟩
    · refine ⟨k * f, ivI_mem.mpr ⟨?_, ?_⟩, Int.mul_ediv_cancel k (by omega)⟩
      · have a := Int.lt_ediv_add_one_mul_self (x : Int) (show 0 < f by omega)
        have b := Int.mul_le_mul_of_nonneg_right (show (x : Int) / f + 1 ≤ k by omega) (show 0 ≤ f by omega)
        omega
      · have a := Int.ediv_mul_le ((x + c - 1 : Nat) : Int) (show f ≠ 0 by omega)
        have b := Int.mul_le_mul_of_nonneg_right (show k ≤ ((x + c - 1 : Nat) : Int) / f by omega) (show 0 ≤ f by omega)
        omega
@[irreducible] def sp_law_tree : Sp := fun vs H Q _ => ∃ (g : Addr) (b n : Nat) (f : Int), vs = [.ref g, .int f] ∧ H g = some (.lst ((ivI b n).map V.int)) ∧ (2 ≤ f ∧ f ≤ 8) ∧ b + n ≤ 900 ∧
  ∀ q xs H', H q = none → Same H H' → H' q = some (.lst xs) → (n = 0 → xs = []) → (∀ L, 1 ≤ n → IsHt f.toNat b (b + n - 1) L → PrsL H' xs (ndN f.toNat b (b + n - 1) L)) → Q (.ref q) H'
theorem use_law_tree {g : Addr} {b n : Nat} {f : Int} {H : Hp} {Q : VK} {E : XK} (hg : H g = some (.lst ((ivI b n).map V.int))) (hf : 2 ≤ f ∧ f ≤ 8) (hn : b + n ≤ 900)
  (k : ∀ q xs H', H q = none → Same H H' → H' q = some (.lst xs) → (n = 0 → xs = []) → (∀ L, 1 ≤ n → IsHt f.toNat b (b + n - 1) L → PrsL H' xs (ndN f.toNat b (b + n - 1) L)) → Q (.ref q) H') : sp_law_tree [.ref g, .int f] H Q E := by
  unfold sp_law_tree; exact ⟨g, b, n, f, rfl, hg, hf, hn, k⟩
theorem b_law_tree {K : PySem.W.Frag} {fd : FuncData} (F : F_law_tree K fd) : Binds K fd P_law_tree [] := FunD.bindsN F fun _ _ _ _ _ _ us hl => match us, hl with | [_, _], _ => rfl
theorem ok_law_tree (T : Txt K mg D) : FnOk P w K mg base CX0 1 (He.fAd K ("_law_tree", none)) (D D_law_tree) P_law_tree sp_law_tree := by
  refine T.d_law_tree.ok sc_law_tree (fun vs H Q E h => ?_) (fun cdv A outer s H vs Q E hr h => ?_)
  · unfold sp_law_tree at h
    first | (obtain ⟨rfl, _⟩ := h; rfl) | (obtain ⟨_, rfl, _⟩ := h; rfl) | (obtain ⟨_, _, rfl, _⟩ := h; rfl) | (obtain ⟨_, _, _, rfl, _⟩ := h; rfl) | (obtain ⟨_, _, _, _, rfl, _⟩ := h; rfl) | (obtain ⟨_, _, _, _, _, rfl, _⟩ := h; rfl) | (obtain ⟨_, _, _, _, _, _, rfl, _⟩ := h; rfl) | (obtain ⟨_, _, _, _, _, _, _, rfl, _⟩ := h; rfl) | (obtain ⟨_, _, _, _, _, _, _, _, rfl, _⟩ := h; rfl) | (obtain ⟨_, _, _, _, _, _, _, _, _, rfl, _⟩ := h; rfl) | (obtain ⟨_, _, _, _, _, _, _, _, _, _, rfl, _⟩ := h; rfl) | (obtain ⟨_, _, _, _, _, _, _, _, _, _, _, rfl, _⟩ := h; rfl)
  · refine ⟨_, PSs.nox (pss_cons (ps_asg (pe_tup (pa_cons (pe_lst pa_nil) (pa_cons (pe_callB (cr_sortLI (K := K)) (by rfl) T.n_sorted (by decide +kernel) (pa_cons (pv 0) pa_nil)) (pa_cons pe_int pa_nil)))) (pg_tup rfl (pgs_cons (pg_name (i := 2) sc_law_tree.nd rfl (Or.inl rfl)) (pgs_cons (pg_name (i := 3) sc_law_tree.nd rfl (Or.inl rfl)) (pgs_cons (pg_name (i := 4) sc_law_tree.nd rfl (Or.inr rfl)) pgs_nil)))))
      (pss_cons (ps_while PassesOwn.never (pt_cmpR (op_neNK (K := K) hr.units) (pv 3) (pe_lst pa_nil) (nomark _)) (pss_cons (ps_set (i := 5) sc_law_tree.nd rfl (Or.inl rfl) (pe_callB (cr_sortSB rfl) (by rfl) T.n_sorted (by decide +kernel) (pa_cons (pe_callTy (cr_setL (K := K) rfl) (by rfl) T.n_set (by decide +kernel) (pa_cons (pe_lc (own := [("number", 6)]) rfl sc_law_tree.nd (pi_list (pv 3)) (blkOk_by (N := N_law_tree) (sc := defScope s_law_tree) (by decide +kernel)) (fun _ _ _ _ _ => (pg_name (i := 6) sc_law_tree.nd rfl (Or.inl rfl))) (fun _ _ _ _ _ => pts_nil) (fun _ _ _ _ _ => (pe_op op_fdivW (pv 6) (pv 1)))) pa_nil)) pa_nil)))
      (pss_cons (ps_set (i := 2) sc_law_tree.nd rfl (Or.inl rfl) (pe_op (op_catSK (K := K)) (pv 2) (pe_lc (own := [("number", 6)]) rfl sc_law_tree.nd (pi_list (pv 5)) (blkOk_by (N := N_law_tree) (sc := defScope s_law_tree) (by decide +kernel)) (fun _ _ _ _ _ => (pg_name (i := 6) sc_law_tree.nd rfl (Or.inl rfl))) (fun _ _ _ _ _ => pts_nil) (fun _ _ _ _ _ => (pe_tup (pa_cons (pv 4) (pa_cons (pv 6) pa_nil)))))))
      (pss_one (ps_asg (hw := by kernel_rfl) (pe_tup (pa_cons (pe_ifExp (pt_cmpR op_eq (pe_callB (call_lenK (K := K)) (by rfl) T.n_len (by decide +kernel) (pa_cons (pv 5) pa_nil)) pe_int (nomark _)) (pe_lst pa_nil) (pv 5)) (pa_cons (pe_op op_add (pv 4) pe_int) pa_nil))) (pg_tup rfl (pgs_cons (pg_name (i := 3) sc_law_tree.nd rfl (Or.inl rfl)) (pgs_cons (pg_name (i := 4) sc_law_tree.nd rfl (Or.inr rfl)) pgs_nil))))))))
      (pss_one (ps_ret (pv 2))))), ?_⟩
    unfold sp_law_tree at h
    obtain ⟨g, b, n, f, rfl, hg, ⟨f0, f1⟩, hn, k⟩ := h
    obtain ⟨L, hL0, hL⟩ : ∃ L, (n = 0 → L = 0) ∧ (1 ≤ n → IsHt f.toNat b (b + n - 1) L) := by
      by_cases z : n = 0
      · exact ⟨0, fun _ => rfl, fun h => by omega⟩
      · obtain ⟨L, hL, _⟩ := isht_ex (show 2 ≤ f.toNat by omega) (show b ≤ b + n - 1 by omega)
        exact ⟨L, fun h => absurd h z, fun _ => hL⟩
    walk_at "rd"
    intro q1 n1
    generalize eH1 : upd _ q1 _ = H1
    obtain ⟨g1, c1⟩ := gen_new n1 eH1
    clear eH1
    walk_at "rd"
    refine ⟨_, _, rfl, SqL.of (g1 _ _ hg), fun ns' q2 H2 hp hs n2 g2 c2 => ?_⟩
    obtain rfl := srt_perm hp hs (ivI_srt b n)
    walk_at "rd"
    intro q3 n3
    generalize eH3 : upd _ q3 _ = H3
    obtain ⟨g3, c3⟩ := gen_new n3 eH3
    clear eH3
    walk_at "rd"
    have hpw : ∀ i, 0 < f.toNat ^ i := fun i => Nat.pow_pos (by omega)
    have hdd : ∀ i, (b + n - 1) / f.toNat ^ i ≤ 999 := fun i => Nat.le_trans (Nat.div_le_self _ _) (by omega)
    have hbd : ∀ i, b / f.toNat ^ i ≤ 999 := fun i => Nat.le_trans (Nat.div_le_self _ _) (by omega)
    have hL10 : 1 ≤ n → L ≤ 10 := fun h => isht_10 (show 2 ≤ f.toNat by omega) (hL h) (by omega) (by omega)
    refine ⟨fun m σ H' => ∃ (i : Nat) (qf qr : Addr) (xs : List V) (v5 v6 : Option V), σ = [some (.ref g), some (.int f), some (.ref qf), some (.ref qr), some (.int (i : Nat)), v5, v6] ∧ Same H H' ∧ H qf = none ∧ H' qf = some (.lst xs) ∧ PrsL H' xs (ndN f.toNat b (b + n - 1) i) ∧
        H' qr = some (.lst ((ivI (b / f.toNat ^ i) (if i = L then 0 else (b + n - 1) / f.toNat ^ i + 1 - b / f.toNat ^ i)).map V.int)) ∧ i ≤ L ∧ m = L - i, ⟨L, ?_⟩, ?_⟩
    · refine ⟨0, q1, q2, [], none, none, rfl, (g1.trans g2).trans g3, n1, g3 _ _ (g2 _ _ c1), True.intro, ?_, Nat.zero_le _, (Nat.sub_zero L).symm⟩
      rw [g3 _ _ c2, Nat.pow_zero, Nat.div_one, Nat.div_one]
      by_cases z : n = 0
      · rw [if_pos (hL0 z).symm, z]
      · have := (hL (by omega)).1
        rw [if_neg (by omega), show b + n - 1 + 1 - b = n by omega]
    rintro m σ H' ⟨i, qf, qr, xs, v5, v6, rfl, gs, nf, cf, hP, cr, hi, rfl⟩
    walk_at "rd"
    intro q4 n4
    generalize eH4 : upd _ q4 _ = H4
    obtain ⟨g4, c4⟩ := gen_new n4 eH4
    clear eH4
    refine use_neN (.lst (SqL.of (g4 _ _ cr)) (dp_pyi _)) (.lst (SqL.of c4) .nil) (nb_list _) (nb_list []) fun e0 he => ?_
    walk_at "rd"
    refine iteB (fun d => ?_) (fun d => ?_)
    · have hne := he.mp d
      have hiL : i ≠ L := fun z => by
        rw [if_pos z] at hne
        exact hne rfl
      have hn1 : 1 ≤ n := by
        by_cases z : n = 0
        · have := hL0 z; omega
        · omega
      have hI := hL hn1
      have hl10 := hL10 hn1
      rw [if_neg hiL] at cr
      have hmono := Nat.div_le_div_right (c := f.toNat ^ i) (show b ≤ b + n - 1 by omega)
      have hmono' := Nat.div_le_div_right (c := f.toNat ^ (i + 1)) (show b ≤ b + n - 1 by omega)
      have hd1 := hdd i
      have hd2 := hdd (i + 1)
      have en : b / f.toNat ^ i / f.toNat = b / f.toNat ^ (i + 1) := by rw [Nat.pow_succ, Nat.div_div_eq_div_mul]
      have em : (b + n - 1) / f.toNat ^ i / f.toNat = (b + n - 1) / f.toNat ^ (i + 1) := by rw [Nat.pow_succ, Nat.div_div_eq_div_mul]
      have hst : ndN f.toNat b (b + n - 1) (i + 1) = ndN f.toNat b (b + n - 1) i ++ lvT i (b / f.toNat ^ (i + 1)) ((b + n - 1) / f.toNat ^ (i + 1) + 1 - b / f.toNat ^ (i + 1)) := rfl
      have heq : b / f.toNat ^ (i + 1) = (b + n - 1) / f.toNat ^ (i + 1) ↔ i + 1 = L := by
        constructor
        · intro z
          by_cases y : i + 1 = L
          · exact y
          · exact absurd z (hI.2.2 (i + 1) (by omega) (by omega))
        · intro z; rw [z]; exact hI.2.1
      have hnl := ndN_len (f := f.toNat) (b := b) (show b + n - 1 ≤ 1000 by omega) i
      have hpl := hP.len
      refine ⟨fun σ' H'' => ∃ m', m' < L - i ∧ ∃ (i : Nat) (qf qr : Addr) (xs : List V) (v5 v6 : Option V), σ' = [some (.ref g), some (.int f), some (.ref qf), some (.ref qr), some (.int (i : Nat)), v5, v6] ∧ Same H H'' ∧ H qf = none ∧ H'' qf = some (.lst xs) ∧ PrsL H'' xs (ndN f.toNat b (b + n - 1) i) ∧
        H'' qr = some (.lst ((ivI (b / f.toNat ^ i) (if i = L then 0 else (b + n - 1) / f.toNat ^ i + 1 - b / f.toNat ^ i)).map V.int)) ∧ i ≤ L ∧ m' = L - i, fun _ _ h => h, ?_⟩
      have cr4 := g4 _ _ cr
      have cf4 := g4 _ _ cf
      have gs4 := gs.trans g4
      have hP4 := hP.mono (kt_same g4)
      generalize hx : b / f.toNat ^ i = x at *
      generalize hy : (b + n - 1) / f.toNat ^ i = y at *
      generalize hx' : b / f.toNat ^ (i + 1) = x' at *
      generalize hy' : (b + n - 1) / f.toNat ^ (i + 1) = y' at *
      walk_at "rd"
      intro D nD
      have w4 : ∀ {a : Addr} {o : HO}, H4 a = some o → a ≠ D := fun h => ne_of_none h nD
      refine lc_list (K := K) (a := qr) (xs := (ivI x (y + 1 - x)).map V.int) (fun j G => SX [D] H4 G ∧ G D = some (.lst ((((ivI x (y + 1 - x)).take j).map (· / f)).map V.int))) ⟨SX.refl.mut nD, upd_same⟩ ?_ ?_ ?_
      · rintro j G _ ⟨fx, _⟩
        exact SqL.of (fx _ _ (by simp [w4 cr4]) cr4)
      · rintro j v G hv ⟨fx, hD⟩
        obtain ⟨z, hz, rfl⟩ := map_some hv
        refine ⟨rfl, ?_⟩
        walk_at "rd"
        refine ⟨_, hD, szlt (by rw [List.length_map, List.length_map, List.length_take, ivI_len]; omega), fx.upd (by simp), ?_⟩
        rw [upd_same, List.take_add_one, hz, List.map_append, List.map_append]
        rfl
      rintro G ⟨fx, hD⟩
      rw [List.length_map, List.take_length] at hD
      have sG : Same H4 G := fun c o ho => fx _ _ (by simp [w4 ho]) ho
      walk_at "rd"
      refine ⟨_, _, rfl, SqL.of hD, by rw [List.length_map, ivI_len]; omega, fun q5 m5 H5 n5 g5 hm5 c5 => ?_⟩
      rw [List.length_map, ivI_len] at hm5
      refine ⟨_, _, _, rfl, c5, by omega, fun ns q6 H6 h1 h2 h3 n6 g6 c6 => ?_⟩
      obtain rfl : ns = ivI x' (y' + 1 - x') := by
        refine srt_uniq h1 (ivI_srt _ _) fun k => ?_
        rw [h2 k]
        have := div_ivl f0 (x := x) (c := y + 1 - x) (by omega) (k := k)
        rw [en, show x + (y + 1 - x) - 1 = y by omega, em] at this
        rw [← this]
        exact ⟨fun z => of_decide_eq_true z, fun z => decide_eq_true z⟩
      walk_at "rd"
      intro D2 nD2
      have w6 : ∀ {a : Addr} {o : HO}, H6 a = some o → a ≠ D2 := fun h => ne_of_none h nD2
      refine lc_list (K := K) (a := q6) (xs := (ivI x' (y' + 1 - x')).map V.int) (fun j G2 => SX [D2] H6 G2 ∧ ∃ ys, G2 D2 = some (.lst ys) ∧ PrsL G2 ys (lvT i x' j)) ⟨SX.refl.mut nD2, [], upd_same, True.intro⟩ ?_ ?_ ?_
      · rintro j G2 _ ⟨fz, _⟩
        exact SqL.of (fz _ _ (by simp [w6 c6]) c6)
      · rintro j v G2 hv ⟨fz, ys, hD2, hB⟩
        obtain ⟨z, hz, rfl⟩ := map_some hv
        have hj : j < y' + 1 - x' := by
          by_cases w : j < y' + 1 - x'
          · exact w
          · rw [List.getElem?_eq_none (by rw [ivI_len]; omega)] at hz
            cases hz
        rw [ivI_get hj] at hz
        obtain rfl := Option.some.inj hz
        refine ⟨rfl, ?_⟩
        walk_at "rd"
        intro t n8
        generalize eG3 : upd _ t _ = G3
        obtain ⟨g8, c8⟩ := gen_new n8 eG3
        clear eG3
        have hD3 := g8 _ _ hD2
        have ntD : t ≠ D2 := (ne_of_none hD2 n8).symm
        have hl := hB.len
        rw [lvT_len] at hl
        refine ⟨_, hD3, szlt (by omega), (fz.trans g8.sx).upd (by simp), ys ++ [.ref t], upd_same, ?_⟩
        rw [lvT_succ]
        refine PrsL.push ?_ ((hB.mono (kt_same g8)).mono (kt_upd hD3))
        rw [upd_ne ntD, c8]
      rintro G2 ⟨fz, ys, hD2, hB⟩
      rw [List.length_map, ivI_len] at hB
      have sG2 : Same H6 G2 := fun c o ho => fz _ _ (by simp [w6 ho]) ho
      have s46 : Same H4 G2 := ((sG.trans g5).trans g6).trans sG2
      have hbl := hB.len
      rw [lvT_len] at hbl
      refine use_cat (SqL.of (s46 _ _ cf4)) (SqL.of hD2) (by omega) fun q8 H8 n8 g8 c8 => ?_
      have hP8 := PrsL.app (hP4.mono (kt_same (s46.trans g8))) (hB.mono (kt_same g8))
      have c68 := g8 _ _ (sG2 _ _ c6)
      walk_at "rd"
      have ns8 : H q8 = none := (gs4.trans s46).free n8
      refine ite2 (fun c => ?_) (fun c => ?_)
      · have c := dvi c
        rw [List.length_map, ivI_len] at c
        have hL1 := heq.mp (by omega)
        walk_at "rd"
        intro q9 n9
        generalize eH9 : upd _ q9 _ = H9
        obtain ⟨g9, c9⟩ := gen_new n9 eH9
        clear eH9
        walk_at "rd"
        intro qa na
        generalize eHa : upd _ qa _ = Ha
        obtain ⟨ga, ca⟩ := gen_new na eHa
        clear eHa
        walk_at "rd"
        refine ⟨L - (i + 1), by omega, i + 1, q8, q9, xs ++ ys, _, _, rfl, (((gs4.trans s46).trans g8).trans g9).trans ga, ns8, ga _ _ (g9 _ _ c8), ?_, ?_, by omega, rfl⟩
        · rw [hst]; exact hP8.mono (kt_same (g9.trans ga))
        · rw [if_pos hL1, ga _ _ c9]; rfl
      · have c := dvn c
        rw [List.length_map, ivI_len] at c
        have hL1 : ¬ i + 1 = L := fun z => by have := heq.mpr z; omega
        walk_at "rd"
        intro qa na
        generalize eHa : upd _ qa _ = Ha
        obtain ⟨ga, ca⟩ := gen_new na eHa
        clear eHa
        walk_at "rd"
        refine ⟨L - (i + 1), by omega, i + 1, q8, q6, xs ++ ys, _, _, rfl, ((gs4.trans s46).trans g8).trans ga, ns8, ga _ _ c8, ?_, ?_, by omega, rfl⟩
        · rw [hst]; exact hP8.mono (kt_same ga)
        · rw [if_neg hL1, ga _ _ c68, hx', hy']
    · have d2 : ¬ e0 = true := by rw [d]; exact Bool.false_ne_true
      have hiL : i = L := by
        by_cases z : i = L
        · exact z
        · refine absurd (he.mpr fun y => ?_) d2
          rw [if_neg z] at y
          injection y with y
          have y := congrArg List.length y
          unfold pyi at y
          rw [List.length_map, ivI_len] at y
          have := Nat.div_le_div_right (c := f.toNat ^ i) (show b ≤ b + n - 1 by
            by_cases w : n = 0
            · have := hL0 w; omega
            · omega)
          have y : (b + n - 1) / f.toNat ^ i + 1 - b / f.toNat ^ i = 0 := y
          omega
      subst hiL
      walk_at "rd"
      refine k qf xs H4 nf (gs.trans g4) (g4 _ _ cf) (fun z => ?_) (fun L' h1 hL' => ?_)
      · rw [hL0 z] at hP
        match xs, hP with
        | [], _ => rfl
      · rw [hL'.uniq (hL h1)]
        exact hP.mono (kt_same g4)

/-- the pages behind so many rows -/
noncomputable def pgs (p : Prt) (m : Nat) : List Int := if m = 0 then [] else ivI (pgN p (kbN p m)) (pgN p (m - 1) + 1 - pgN p (kbN p m))
theorem pgs_len {p : Prt} (ok : p.Ok) {m : Nat} (hm : m ≤ 500) : (pgs p m).length ≤ 501 := by
  unfold pgs
  split
  · exact Nat.zero_le _
  · rw [ivI_len]; have := pgN_le ok (m - 1); omega
/-- the children of a node, as data -/
noncomputable def chD (p : Prt) (m i x : Nat) : List PyData := if i = 0 then pyi (chI p m x) else (chP p m i x).map prD
theorem chD_nb (p : Prt) (m i x : Nat) : NB (.list (chD p m i x)) := by
  unfold chD
  split
  · exact nb_list _
  · exact nb_prl _
theorem chI_len {p : Prt} (ok : p.Ok) {m x : Nat} (hm : m ≤ 500) : (chI p m x).length ≤ 501 := by
  unfold chI
  refine Nat.le_trans (List.length_filter_le _ _) ?_
  rw [ivI_len]
  have := pgN_le ok (m - 1); omega
theorem chP_len {p : Prt} (ok : p.Ok) {m i x : Nat} (hm : m ≤ 500) : (chP p m i x).length ≤ 10010 := Nat.le_trans (List.length_filter_le _ _) (kn_len ok (by omega))
theorem use_childrenD {K : PySem.W.Frag} {s n : Addr} {p : Prt} {m i x : Nat} {u : Int} {H : Hp} {Q : VK} {E : XK} (hu : u = (m : Int)) (hs : SetAt K H s p) (ok : p.Ok) (hm : m ≤ 500) (hn : NdIn p m H n i x)
  (k : ∀ q xs H', H q = none → Same H H' → H' q = some (.lst xs) → DpAll K H' xs (chD p m i x) → xs.length ≤ 10010 → Q (.ref q) H') : sp_children K [.ref s, .int u, .ref n] H Q E :=
  use_children hu hs ok hm hn
    (fun z q H' a b c => k q _ H' a b c (by unfold chD; rw [if_pos z]; exact dp_pyi _) (by rw [List.length_map]; have := chI_len (x := x) ok hm; omega))
    (fun z q xs H' a b c d => k q xs H' a b c (by unfold chD; rw [if_neg z]; exact d.dp) (by rw [d.len]; exact chP_len ok hm))
@[irreducible] def sp_law_below (K : PySem.W.Frag) : Sp := fun vs H Q _ => ∃ (kq pq n : Addr) (p : Prt) (m i x : Nat) (ks : List V), vs = [.ref kq, .ref pq, .int p.fan, .ref n] ∧ p.Ok ∧ m ≤ 500 ∧ H kq = some (.lst ks) ∧ PrsL H ks (kn p m) ∧ H pq = some (.lst ((pgs p m).map V.int)) ∧ NdIn p m H n i x ∧
  ∀ q xs H', H q = none → Same H H' → H' q = some (.lst xs) → DpAll K H' xs (chD p m i x) → Q (.ref q) H'
theorem use_law_below {K : PySem.W.Frag} {kq pq n : Addr} {p : Prt} {m i x : Nat} {ks : List V} {H : Hp} {Q : VK} {E : XK} (ok : p.Ok) (hm : m ≤ 500) (hk : H kq = some (.lst ks)) (hP : PrsL H ks (kn p m)) (hp : H pq = some (.lst ((pgs p m).map V.int))) (hn : NdIn p m H n i x)
  (k : ∀ q xs H', H q = none → Same H H' → H' q = some (.lst xs) → DpAll K H' xs (chD p m i x) → Q (.ref q) H') : sp_law_below K [.ref kq, .ref pq, .int p.fan, .ref n] H Q E := by
  unfold sp_law_below; exact ⟨kq, pq, n, p, m, i, x, ks, rfl, ok, hm, hk, hP, hp, hn, k⟩
theorem b_law_below {K : PySem.W.Frag} {fd : FuncData} (F : F_law_below K fd) : Binds K fd P_law_below [] := FunD.bindsN F fun _ _ _ _ _ _ us hl => match us, hl with | [_, _, _, _], _ => rfl
theorem ok_law_below (T : Txt K mg D) : FnOk P w K mg base CX0 1 (He.fAd K ("_law_below", none)) (D D_law_below) P_law_below (sp_law_below K) := by
  refine T.d_law_below.ok sc_law_below (fun vs H Q E h => ?_) (fun cdv A outer s H vs Q E hr h => ?_)
  · unfold sp_law_below at h
    first | (obtain ⟨rfl, _⟩ := h; rfl) | (obtain ⟨_, rfl, _⟩ := h; rfl) | (obtain ⟨_, _, rfl, _⟩ := h; rfl) | (obtain ⟨_, _, _, rfl, _⟩ := h; rfl) | (obtain ⟨_, _, _, _, rfl, _⟩ := h; rfl) | (obtain ⟨_, _, _, _, _, rfl, _⟩ := h; rfl) | (obtain ⟨_, _, _, _, _, _, rfl, _⟩ := h; rfl) | (obtain ⟨_, _, _, _, _, _, _, rfl, _⟩ := h; rfl) | (obtain ⟨_, _, _, _, _, _, _, _, rfl, _⟩ := h; rfl) | (obtain ⟨_, _, _, _, _, _, _, _, _, rfl, _⟩ := h; rfl) | (obtain ⟨_, _, _, _, _, _, _, _, _, _, rfl, _⟩ := h; rfl) | (obtain ⟨_, _, _, _, _, _, _, _, _, _, _, rfl, _⟩ := h; rfl)
  · refine ⟨_, PSs.nox (pss_cons (ps_if (pt_cmpR op_eq (pe_ix (ix_tupK (K := K)) (pv 3) pe_int (fun _ _ => rfl)) pe_int (nomark _)) (pss_one (ps_ret (pe_lc (own := [("page", 5)]) rfl sc_law_below.nd (pi_list (pv 1)) (blkOk_by (N := N_law_below) (sc := defScope s_law_below) (by decide +kernel)) (fun _ _ _ _ _ => (pg_name (i := 5) sc_law_below.nd rfl (Or.inl rfl))) (fun _ _ _ _ _ => (pts_one (pt_cmpR op_eq (pe_op op_fdivW (pv 5) (pv 2)) (pe_ix (ix_tupK (K := K)) (pv 3) pe_int (fun _ _ => rfl)) (nomark _)))) (fun _ _ _ _ _ => (pv 5))))) pss_nil)
      (pss_one (ps_ret (pe_lc (own := [("one", 4)]) rfl sc_law_below.nd (pi_list (pv 0)) (blkOk_by (N := N_law_below) (sc := defScope s_law_below) (by decide +kernel)) (fun _ _ _ _ _ => (pg_name (i := 4) sc_law_below.nd rfl (Or.inl rfl))) (fun _ _ _ _ _ => (pts_one (PW.pt (pw_and (pt_cmpR op_eq (pe_ix (ix_tupK (K := K)) (pv 4) pe_int (fun _ _ => rfl)) (pe_op op_sub (pe_ix (ix_tupK (K := K)) (pv 3) pe_int (fun _ _ => rfl)) pe_int) (nomark _)) (pw_and1 (pt_cmpR op_eq (pe_op op_fdivW (pe_ix (ix_tupK (K := K)) (pv 4) pe_int (fun _ _ => rfl)) (pv 2)) (pe_ix (ix_tupK (K := K)) (pv 3) pe_int (fun _ _ => rfl)) (nomark _))))))) (fun _ _ _ _ _ => (pv 4)))))), ?_⟩
    unfold sp_law_below at h
    obtain ⟨kq, pq, n, p, m, i, x, ks, rfl, ok, hm, hk, hP, hp, hn, k⟩ := h
    have hf := ok.f
    have hnn := hn.1.1
    obtain ⟨hm1, _⟩ := (kn_mem ok).mp hn.2
    walk_at "rd"
    refine ite2 (fun c => ?_) (fun c => ?_)
    · have c := dvi c
      obtain rfl : i = 0 := by omega
      walk_at "rd"
      intro D nD
      have w1 : ∀ {a : Addr} {o : HO}, H a = some o → a ≠ D := fun h => ne_of_none h nD
      have hpl := pgs_len ok hm
      refine lc_list (K := K) (a := pq) (xs := (pgs p m).map V.int) (fun j G => SX [D] H G ∧ G D = some (.lst ((((pgs p m).take j).filter fun k => decide (k / p.fan = (x : Int))).map V.int))) ⟨SX.refl.mut nD, upd_same⟩ ?_ ?_ ?_
      · rintro j G _ ⟨f, _⟩
        exact SqL.of (f _ _ (by simp [w1 hp]) hp)
      · rintro j v G hv ⟨f, hD⟩
        obtain ⟨z, hz, rfl⟩ := map_some hv
        have hnG := f _ _ (by simp [w1 hnn]) hnn
        have hl2 := List.length_filter_le (fun k => decide (k / p.fan = (x : Int))) ((pgs p m).take j)
        have hl3 : ((pgs p m).take j).length ≤ (pgs p m).length := by rw [List.length_take]; exact Nat.min_le_right _ _
        refine ⟨rfl, ?_⟩
        walk_at "rd"
        rw [take_flt _ _ _ _ hz]
        refine iteB (fun d => ?_) (fun d => ?_)
        · have d := dvi d
          rw [if_pos (decide_eq_true d)]
          walk_at "rd"
          refine ⟨_, hD, szlt (by rw [List.length_map]; omega), f.upd (by simp), ?_⟩
          rw [upd_same, List.map_append]
          rfl
        · rw [if_neg (fun z => of_decide_eq_false d (congrArg V.int (of_decide_eq_true z))), List.append_nil]
          exact ⟨f, hD⟩
      · rintro G ⟨f, hD⟩
        rw [List.length_map, List.take_length] at hD
        refine k D _ G nD (fun c o ho => f _ _ (by simp [w1 ho]) ho) hD ?_
        have e : (pgs p m).filter (fun k => decide (k / p.fan = (x : Int))) = chI p m x := by unfold pgs chI; rw [if_neg (by omega)]
        rw [e]
        exact dp_pyi _
    · have c := dvn c
      walk_at "rd"
      intro D nD
      have w1 : ∀ {a : Addr} {o : HO}, H a = some o → a ≠ D := fun h => ne_of_none h nD
      refine lc_list (K := K) (a := kq) (xs := ks) (fun j G => SX [D] H G ∧ ∃ ys, G D = some (.lst ys) ∧ PrsL G ys (((kn p m).take j).filter (chF p i x))) ⟨SX.refl.mut nD, [], upd_same, True.intro⟩ ?_ ?_ ?_
      · rintro j G _ ⟨f, _⟩
        exact SqL.of (f _ _ (by simp [w1 hk]) hk)
      · rintro j v G hv ⟨f, ys, hD, hY⟩
        obtain ⟨a, r, rfl, ha, hr⟩ := hP.get hv
        have haG := f _ _ (by simp [w1 ha]) ha
        have hnG := f _ _ (by simp [w1 hnn]) hnn
        have hl := hY.len
        have hl2 := List.length_filter_le (chF p i x) ((kn p m).take j)
        have hl3 : ((kn p m).take j).length ≤ (kn p m).length := by rw [List.length_take]; exact Nat.min_le_right _ _
        have hl4 := kn_len ok (show m ≤ 1000 by omega)
        refine ⟨rfl, ?_⟩
        walk_at "rd"
        rw [take_flt _ _ _ _ hr]
        refine iteB (fun d => ?_) (fun d => ?_)
        · have d := dvi d
          walk_at "rd"
          refine iteB (fun d2 => ?_) (fun d2 => ?_)
          · have d2 := dvi d2
            rw [if_pos (show chF p i x r = true from decide_eq_true ⟨d, d2⟩)]
            walk_at "rd"
            refine ⟨_, hD, szlt (by omega), f.upd (by simp), ys ++ [.ref a], upd_same, ?_⟩
            refine PrsL.push ?_ (hY.mono (kt_upd hD))
            exact kt_upd hD _ _ haG
          · rw [if_neg (show ¬ chF p i x r = true from fun z => of_decide_eq_false d2 (congrArg V.int (of_decide_eq_true z).2)), List.append_nil]
            exact ⟨f, ys, hD, hY⟩
        · rw [if_neg (show ¬ chF p i x r = true from fun z => of_decide_eq_false d (congrArg V.int (of_decide_eq_true z).1)), List.append_nil]
          exact ⟨f, ys, hD, hY⟩
      · rintro G ⟨f, ys, hD, hY⟩
        rw [hP.len, List.take_length] at hY
        refine k D ys G nD (fun c o ho => f _ _ (by simp [w1 ho]) ho) hD ?_
        unfold chD
        rw [if_neg (show i ≠ 0 by omega)]
        exact hY.dp

theorem up_mem {p : Prt} (ok : p.Ok) {m i x : Nat} (h : ((i : Int), (x : Int)) ∈ kn p m) (ht' : ((i : Int), (x : Int)) ≠ topI p m) : ((i : Int) + 1, (x : Int) / p.fan) ∈ kn p m := by
  have hf := ok.f
  obtain ⟨h1, j, h2, h3, h4, h5⟩ := (kn_mem ok).mp h
  dsimp only at h3 h4 h5
  obtain rfl : i = j := by omega
  have hI := ht_is ok h1
  by_cases z : i + 1 = ht p m
  · refine absurd ?_ ht'
    unfold topI
    have e := hI.2.1
    rw [← z] at e ⊢
    rw [e] at h4
    exact Prod.ext (by show (i : Int) = ((i + 1 - 1 : Nat) : Int); omega) (Int.le_antisymm h5 h4)
  · refine (kn_mem ok).mpr ⟨h1, i + 1, by omega, by push_cast; rfl, ?_, ?_⟩
    · rw [← div_pow hf.1]; exact Int.ediv_le_ediv (by omega) h4
    · rw [← div_pow hf.1]; exact Int.ediv_le_ediv (by omega) h5
theorem top_no {p : Prt} (ok : p.Ok) {m i x : Nat} (h1 : 1 ≤ m) (h : ((i : Int), (x : Int)) = topI p m) (q : Int × Int) (hq : q ∈ kn p m) (y : Int) : q ≠ ((i : Int) + 1, y) := by
  rintro rfl
  obtain ⟨_, j, h2, h3, _⟩ := (kn_mem ok).mp hq
  have e := congrArg Prod.fst h
  have hI := (ht_is ok h1).1
  dsimp only [topI] at e h3
  omega
theorem nd_w {p : Prt} (ok : p.Ok) {m i : Nat} (hm : m ≤ 500) (h1 : 1 ≤ m) (hi : i < ht p m) : p.fan.toNat ^ (i + 1) ≤ 4000 := by
  have hf := ok.f
  have hI := ht_is ok h1
  have he := pgN_le ok (m - 1)
  by_cases z : i = 0
  · subst z; rw [Nat.zero_add, Nat.pow_one]; omega
  · have hne := hI.2.2 i (by omega) hi
    have hle : p.fan.toNat ^ i ≤ pgN p (m - 1) := by
      by_cases c : p.fan.toNat ^ i ≤ pgN p (m - 1)
      · exact c
      · have hb := kb_pg ok h1
        rw [Nat.div_eq_of_lt (show pgN p (m - 1) < p.fan.toNat ^ i by omega), Nat.div_eq_of_lt (show pgN p (kbN p m) < p.fan.toNat ^ i by omega)] at hne
        exact absurd rfl hne
    rw [Nat.pow_succ]
    have := Nat.mul_le_mul (show p.fan.toNat ^ i ≤ 500 by omega) (show p.fan.toNat ≤ 8 by omega)
    omega
theorem cut_sub {xs : List V} {lo hi : Option Int} : ∀ v ∈ cutV xs lo hi, v ∈ xs := fun v hv => by
  unfold cutV at hv
  exact List.mem_of_mem_drop (List.mem_of_mem_take hv)
theorem use_slm {K : PySem.W.Frag} {H : Hp} {a : Addr} {xs : List V} {lo hi : Option Int} {Q : VK} (h : SqL K H a xs) (k : ∀ p ys H', (∀ v ∈ ys, v ∈ xs) → ys.length ≤ xs.length → H p = none → Same H H' → H' p = some (.lst ys) → Q (.ref p) H') : rSlL K (.ref a) lo hi H Q :=
  ⟨a, xs, rfl, h, fun p n => k p _ _ cut_sub (cutV_length _ _ _) n (same_new n) upd_same⟩
theorem use_slN {K : PySem.W.Frag} {σ : L2.St} {H : Hp} {a : Addr} {xs : List V} {lo : Option Int} {Q : VK} (h : SqL K H a xs) (k : ∀ p ys H', (∀ v ∈ ys, v ∈ xs) → ys.length ≤ xs.length → H p = none → Same H H' → H' p = some (.lst ys) → Q (.ref p) H') : tNoPart σ H (fun u H3 => rSlL K (.ref a) lo u H3 Q) := use_slm h k
theorem sql_same {K : PySem.W.Frag} {H H' : Hp} {a : Addr} {xs : List V} (s : Same H H') (h : SqL K H a xs) : SqL K H' a xs := by
  rcases h with (h | h) | h
  · exact .inl (.inl (s _ _ h))
  · obtain ⟨o, h⟩ := h
    exact .inl (.inr ⟨o, s _ _ h⟩)
  · exact .inr h
theorem sqt_same {K : PySem.W.Frag} {H H' : Hp} {a : Addr} {xs : List V} (s : Same H H') (h : SqT K H a xs) : SqT K H' a xs := by
  rcases h with (h | h) | h
  · exact .inl (.inl (s _ _ h))
  · obtain ⟨o, h⟩ := h
    exact .inl (.inr ⟨o, s _ _ h⟩)
  · exact .inr h
theorem nb_non : NB .none := ⟨rfl, by show 0 ≤ 64; decide⟩
mutual
theorem dp_same {K : PySem.W.Frag} {H H' : Hp} (s : Same H H') : ∀ {v : V} {d : PyData}, Dp K H v d → Dp K H' v d
  | _, _, .non => .non
  | _, _, .bl b => .bl b
  | _, _, .int i => .int i
  | _, _, .str x => .str x
  | _, _, .lst hs h => .lst (sql_same s hs) (dpall_same s h)
  | _, _, .tup hs h => .tup (sqt_same s hs) (dpall_same s h)
theorem dpall_same {K : PySem.W.Frag} {H H' : Hp} (s : Same H H') : ∀ {vs : List V} {ds : List PyData}, DpAll K H vs ds → DpAll K H' vs ds
  | _, _, .nil => .nil
  | _, _, .cons h r => .cons (dp_same s h) (dpall_same s r)
end
theorem use_parentD {K : PySem.W.Frag} {s n : Addr} {p : Prt} {m i x : Nat} {u : Int} {H : Hp} {Q : VK} {E : XK} (hu : u = (m : Int)) (hs : SetAt K H s p) (ok : p.Ok) (hm : m ≤ 500) (hn : NdIn p m H n i x)
  (k : ∀ v pd H', Same H H' → Dp K H' v pd → NB pd → (((i : Int), (x : Int)) = topI p m → pd = .none) → (((i : Int), (x : Int)) ≠ topI p m → pd = prD ((i : Int) + 1, (x : Int) / p.fan)) → Q v H') : sp_parent K [.ref s, .int u, .ref n] H Q E :=
  use_parent hu hs ok hm hn (fun z H' a => k _ .none H' a .non nb_non (fun _ => rfl) (fun y => absurd z y)) (fun z q H' _ a c => k _ _ H' a (prs_dp (q := ((i : Int) + 1, (x : Int) / p.fan)) c) (nb_pr _) (fun y => absurd y z) (fun _ => rfl))
def upF (p : Prt) (i x : Nat) (q : Int × Int) : Bool := decide (q = ((i : Int) + 1, (x : Int) / p.fan))
@[irreducible] def sp_nodes_right (K : PySem.W.Frag) : Sp := fun vs H Q _ => ∃ (s a kq pq : Addr) (p : Prt) (m : Nat) (ks : List V), vs = [.ref s, .ref a, .int m, .ref kq, .ref pq] ∧ SetAt K H s p ∧ PdAt H a p ∧ p.Ok ∧ m ≤ 500 ∧ H kq = some (.lst ks) ∧ PrsL H ks (kn p m) ∧ H pq = some (.lst ((pgs p m).map V.int)) ∧ ∀ H', Same H H' → Q (.bl true) H'
theorem use_nodes_right {K : PySem.W.Frag} {s a kq pq : Addr} {p : Prt} {m : Nat} {u : Int} {ks : List V} {H : Hp} {Q : VK} {E : XK} (hu : u = (m : Int)) (hs : SetAt K H s p) (hp : PdAt H a p) (ok : p.Ok) (hm : m ≤ 500) (hk : H kq = some (.lst ks)) (hP : PrsL H ks (kn p m)) (hq : H pq = some (.lst ((pgs p m).map V.int)))
  (k : ∀ H', Same H H' → Q (.bl true) H') : sp_nodes_right K [.ref s, .ref a, .int u, .ref kq, .ref pq] H Q E := by subst hu; unfold sp_nodes_right; exact ⟨s, a, kq, pq, p, m, ks, rfl, hs, hp, ok, hm, hk, hP, hq, k⟩
theorem b_law_nodes_right {K : PySem.W.Frag} {fd : FuncData} (F : F_law_nodes_right K fd) : Binds K fd P_law_nodes_right [] := FunD.bindsN F fun _ _ _ _ _ _ us hl => match us, hl with | [_, _, _, _, _], _ => rfl
theorem ok_law_nodes_right (T : Txt K mg D) : FnOk P w K mg base CX0 11 (He.fAd K ("_law_nodes_right", none)) (D D_law_nodes_right) P_law_nodes_right (sp_nodes_right K) := by
  refine T.d_law_nodes_right.ok sc_law_nodes_right (fun vs H Q E h => ?_) (fun cdv A outer s H vs Q E hr h => ?_)
  · unfold sp_nodes_right at h
    first | (obtain ⟨rfl, _⟩ := h; rfl) | (obtain ⟨_, rfl, _⟩ := h; rfl) | (obtain ⟨_, _, rfl, _⟩ := h; rfl) | (obtain ⟨_, _, _, rfl, _⟩ := h; rfl) | (obtain ⟨_, _, _, _, rfl, _⟩ := h; rfl) | (obtain ⟨_, _, _, _, _, rfl, _⟩ := h; rfl) | (obtain ⟨_, _, _, _, _, _, rfl, _⟩ := h; rfl) | (obtain ⟨_, _, _, _, _, _, _, rfl, _⟩ := h; rfl) | (obtain ⟨_, _, _, _, _, _, _, _, rfl, _⟩ := h; rfl) | (obtain ⟨_, _, _, _, _, _, _, _, _, rfl, _⟩ := h; rfl) | (obtain ⟨_, _, _, _, _, _, _, _, _, _, rfl, _⟩ := h; rfl) | (obtain ⟨_, _, _, _, _, _, _, _, _, _, _, rfl, _⟩ := h; rfl)
  · refine ⟨_, PSs.nox (pss_cons (ps_for PassesOwn.never rfl (pi_list (pe_op (op_catSK (K := K)) (pe_op (op_catSK (K := K)) (pe_slice (sl_listK (K := K)) (pv 3) po_none (po_some pe_int)) (pe_sliceS (K := K) (pe_slice (sl_listK (K := K)) (pv 3) (po_some pe_int) (po_some (pe_un un_neg pe_int))) (pe_op op_add pe_int (pe_op op_fdivW (pe_callB (call_lenK (K := K)) (by rfl) T.n_len (by decide +kernel) (pa_cons (pv 3) pa_nil)) pe_int)))) (pe_slice (sl_listK (K := K)) (pe_slice (sl_listK (K := K)) (pv 3) (po_some pe_int) po_none) (po_some (pe_un un_neg pe_int)) po_none))) (pg_name (i := 5) sc_law_nodes_right.nd rfl (Or.inr rfl)) (pss_cons (ps_for PassesOwn.never rfl (pi_range1 (by rfl) T.n_range (pa_cons pe_int pa_nil)) (pg_name (i := 6) sc_law_nodes_right.nd rfl (Or.inl rfl)) (pss_cons (ps_set (i := 7) sc_law_nodes_right.nd rfl (Or.inl rfl) (pe_call (ok_children T) (hr.mono (by decide)) rfl T.g_children T.d_children.kp (b_children T.d_children) .nil pass0 (pa_cons (pv 0) (pa_cons (pv 2) (pa_cons (pv 5) pa_nil)))))
      (pss_cons (ps_if (pt_cmpR (op_neNK (K := K) hr.units) (pv 7) (pe_call (ok_law_below T) (hr.mono (by decide)) rfl T.g_law_below T.d_law_below.kp (b_law_below T.d_law_below) .nil pass0 (pa_cons (pv 3) (pa_cons (pv 4) (pa_cons (pe_dget (hu_of hr) (pv 1) pe_str (fun _ _ => rfl)) (pa_cons (pv 5) pa_nil))))) (nomark _)) (pss_one (ps_ret pe_bl)) pss_nil)
      (pss_one (ps_expr (pe_bm PySem.F.plainAttrs_list PySem.F.slot_list_append PySem.F.type_list_append mt_append (pv 7) (pa_cons pe_non pa_nil)))))))
      (pss_cons (ps_setLc (i := 8) (own := [("one", 12)]) rfl sc_law_nodes_right.nd rfl rfl (sw_true rfl rfl rfl (by decide +kernel)) (pi_list (pv 3)) (blkOk_by (N := N_law_nodes_right) (sc := defScope s_law_nodes_right) (by decide +kernel)) (fun _ _ _ _ _ => (pg_name (i := 12) sc_law_nodes_right.nd rfl (Or.inl rfl))) (fun _ _ _ _ _ => (pts_one (pt_cmpR (op_eqNK (K := K) hr.units) (pv 12) (pe_tup (pa_cons (pe_op op_add (pe_ix (ix_tupK (K := K)) (pv 5) pe_int (fun _ _ => rfl)) pe_int) (pa_cons (pe_op op_fdivW (pe_ix (ix_tupK (K := K)) (pv 5) pe_int (fun _ _ => rfl)) (pe_dget (hu_of hr) (pv 1) pe_str (fun _ _ => rfl))) pa_nil))) (nomark _)))) (fun _ _ _ _ _ => (pv 12)))
      (pss_cons (ps_if (pt_cmpR (op_neNK (K := K) hr.units) (pe_call (ok_parent T) (hr.mono (by decide)) rfl T.g_parent T.d_parent.kp (b_parent T.d_parent) .nil pass0 (pa_cons (pv 0) (pa_cons (pv 2) (pa_cons (pv 5) pa_nil)))) (pe_ix (ix_listK (K := K)) (pe_op (op_catSK (K := K)) (pv 8) (pe_lst (pa_cons pe_non pa_nil))) pe_int (fun _ _ => rfl)) (nomark _)) (pss_one (ps_ret pe_bl)) pss_nil)
      (pss_cons (ps_asg (pe_call (ok_covered T) (hr.mono (by decide)) rfl T.g_covered T.d_covered.kp (b_covered T.d_covered) .nil pass0 (pa_cons (pv 0) (pa_cons (pv 5) pa_nil))) (pg_tup rfl (pgs_cons (pg_name (i := 9) sc_law_nodes_right.nd rfl (Or.inl rfl)) (pgs_cons (pg_name (i := 10) sc_law_nodes_right.nd rfl (Or.inl rfl)) pgs_nil))))
      (pss_cons (ps_set (i := 11) sc_law_nodes_right.nd rfl (Or.inl rfl) (pe_dget (hu_of hr) (pv 1) pe_str (fun _ _ => rfl)))
      (pss_cons (ps_for PassesOwn.never rfl (pi_range1 (by rfl) T.n_range (pa_cons (pe_ix (ix_tupK (K := K)) (pv 5) pe_int (fun _ _ => rfl)) pa_nil)) (pg_name (i := 6) sc_law_nodes_right.nd rfl (Or.inl rfl)) (pss_one (ps_set (i := 11) sc_law_nodes_right.nd rfl (Or.inl rfl) (pe_op op_mul (pv 11) (pe_dget (hu_of hr) (pv 1) pe_str (fun _ _ => rfl))))))
      (pss_cons (ps_if (pt_cmpR (op_neNK (K := K) hr.units) (pe_tup (pa_cons (pv 9) (pa_cons (pv 10) pa_nil))) (pe_tup (pa_cons (pe_op op_mul (pe_ix (ix_tupK (K := K)) (pv 5) pe_int (fun _ _ => rfl)) (pv 11)) (pa_cons (pe_op op_add (pe_op op_mul (pe_ix (ix_tupK (K := K)) (pv 5) pe_int (fun _ _ => rfl)) (pv 11)) (pv 11)) pa_nil))) (nomark _)) (pss_one (ps_ret pe_bl)) pss_nil)
      (pss_cons (ps_if (PW.pt (pw_or (pt_cmpR (op_neNK (K := K) hr.units) (pe_call (ok_node_over T) (hr.mono (by decide)) rfl T.g_node_over T.d_node_over.kp (b_node_over T.d_node_over) .nil pass0 (pa_cons (pv 0) (pa_cons (pv 9) (pa_cons (pe_ix (ix_tupK (K := K)) (pv 5) pe_int (fun _ _ => rfl)) pa_nil)))) (pv 5) (nomark _)) (pw_or1 (pt_cmpR (op_neNK (K := K) hr.units) (pe_call (ok_node_over T) (hr.mono (by decide)) rfl T.g_node_over T.d_node_over.kp (b_node_over T.d_node_over) .nil pass0 (pa_cons (pv 0) (pa_cons (pe_op op_sub (pv 10) pe_int) (pa_cons (pe_ix (ix_tupK (K := K)) (pv 5) pe_int (fun _ _ => rfl)) pa_nil)))) (pv 5) (nomark _))))) (pss_one (ps_ret pe_bl)) pss_nil)
      (pss_one (ps_if (pt_cmpR (op_neNK (K := K) hr.units) (pe_call (ok_node_over T) (hr.mono (by decide)) rfl T.g_node_over T.d_node_over.kp (b_node_over T.d_node_over) .nil pass0 (pa_cons (pv 0) (pa_cons (pv 10) (pa_cons (pe_ix (ix_tupK (K := K)) (pv 5) pe_int (fun _ _ => rfl)) pa_nil)))) (pe_tup (pa_cons (pe_ix (ix_tupK (K := K)) (pv 5) pe_int (fun _ _ => rfl)) (pa_cons (pe_op op_add (pe_ix (ix_tupK (K := K)) (pv 5) pe_int (fun _ _ => rfl)) pe_int) pa_nil))) (nomark _)) (pss_one (ps_ret pe_bl)) pss_nil)))))))))))
      (pss_one (ps_ret pe_bl))), ?_⟩
    unfold sp_nodes_right at h
    obtain ⟨s, a, kq, pq, p, m, ks, rfl, hs, hp, ok, hm, hk, hP, hpq, k⟩ := h
    have hf := ok.f
    have hkl := hP.len
    have hkn := kn_len ok (show m ≤ 1000 by omega)
    walk_at "rd"
    unfold tNoPart
    refine use_slm (SqL.of hk) fun q1 x1 H1 hx1 l1 n1 g1 c1 => ?_
    walk_at "rd"
    refine use_slm (SqL.of (g1 _ _ hk)) fun q2 x2 H2 hx2 l2 n2 g2 c2 => ?_
    have hk2 := g2 _ _ (g1 _ _ hk)
    walk_at "rd"
    refine ⟨_, _, _, rfl, rfl, SqL.of c2, by omega, fun x3 q3 H3 hx3 l3 n3 g3 c3 => ?_⟩
    refine use_cat (SqL.of (g3 _ _ (g2 _ _ c1))) (SqL.of c3) (by omega) fun q4 H4 n4 g4 c4 => ?_
    walk_at "rd"
    have g14 := (g2.trans g3).trans g4
    refine use_slm (SqL.of (g14 _ _ (g1 _ _ hk))) fun q5 x5 H5 hx5 l5 n5 g5 c5 => ?_
    walk_at "rd"
    refine use_slm (SqL.of c5) fun q6 x6 H6 hx6 l6 n6 g6 c6 => ?_
    refine use_cat (SqL.of (g6 _ _ (g5 _ _ c4))) (SqL.of c6) (by rw [List.length_append]; omega) fun q7 H7 n7 g7 c7 => ?_
    have g07 : Same H H7 := ((((g1.trans g14).trans g5).trans g6).trans g7)
    have hxs : ∀ v ∈ x1 ++ x3 ++ x6, v ∈ ks := fun v hv => by
      rcases List.mem_append.mp hv with h | h
      · rcases List.mem_append.mp h with h | h
        · exact hx1 v h
        · exact hx2 v (hx3 v h)
      · exact hx5 v (hx6 v h)
    generalize x1 ++ x3 ++ x6 = xs at c7 hxs
    refine ⟨_, rfl, ⟨_, SqL.of c7⟩, for_list (xs := xs) (fun j σ G => ∃ v5 v6 v7 v8 v9 v10 v11 v12, σ = [some (.ref s), some (.ref a), some (.int m), some (.ref kq), some (.ref pq), v5, v6, v7, v8, v9, v10, v11, v12] ∧ Same H7 G) ⟨_, _, _, _, _, _, _, _, rfl, Same.refl _⟩ ?_ ?_ ?_⟩
    · rintro j σ G _ ⟨v5, v6, v7, v8, v9, v10, v11, v12, rfl, f⟩
      exact SqL.of (f _ _ c7)
    · rintro j v σ G hv ⟨v5, v6, v7, v8, v9, v10, v11, v12, rfl, f⟩
      have gG := g07.trans f
      obtain ⟨n, r, rfl, hn, hr⟩ := hP.mem v (hxs v (List.mem_of_getElem? hv))
      obtain ⟨i, x, rfl, hi, hi10, hx, hlo, hhi⟩ := nd_of ok hm hr
      have hN : NdIn p m G n i x := ⟨⟨gG _ _ hn, by omega, by omega⟩, hr⟩
      have hsG := hs.same gG
      have hpG := hp.same gG
      have hkG := gG _ _ hk
      have hqG := gG _ _ hpq
      have hPG := hP.mono (kt_same gG)
      clear hn c1 c2 c3 c4 c5 c6 c7 hk hpq hP hs hp
      obtain ⟨hm1, _⟩ := (kn_mem ok).mp hr
      walk_at "rd"
      refine for_range (lo := 0) (n := 2) (fun j σ G' => ∃ v6 v7, σ = [some (.ref s), some (.ref a), some (.int m), some (.ref kq), some (.ref pq), some (.ref n), v6, v7, v8, v9, v10, v11, v12] ∧ Same G G') ⟨_, _, rfl, Same.refl _⟩ ?_ ?_
      · rintro j σ G1 hj ⟨v6', v7', rfl, f1⟩
        obtain ⟨la, ha1, hla1⟩ := hpG.same f1
        have hk1 := f1 _ _ hkG
        walk_at "rd"
        refine use_childrenD rfl (hsG.same f1) ok hm (hN.same f1) fun t1 y1 G2 n2 s2 d2 e2 z2 => ?_
        have ha2 := s2 _ _ ha1
        walk_at "rd"
        refine use_law_below ok hm (s2 _ _ hk1) ((hPG.mono (kt_same f1)).mono (kt_same s2)) (s2 _ _ (f1 _ _ hqG)) ((hN.same f1).same s2) fun t2 y2 G3 n3 s3 d3 e3 => ?_
        refine use_neN (.lst (SqL.of (s3 _ _ d2)) (dpall_same s3 e2)) (.lst (SqL.of d3) e3) (chD_nb _ _ _ _) (chD_nb _ _ _ _) fun c hc => ?_
        have hc : c = false := by
          cases c with
          | false => rfl
          | true => exact absurd rfl (hc.mp rfl)
        subst hc
        walk_at "rd"
        refine ⟨.inl ⟨rfl, _, SqL.of (s3 _ _ d2)⟩, ?_⟩
        walk_at "rd"
        refine ⟨_, _, _, rfl, rfl, s3 _ _ d2, szlt (by omega), ?_⟩
        refine ⟨_, _, rfl, f1.trans fun b o ho => ?_⟩
        rw [upd_ne (ne_of_none ho n2)]
        exact s3 _ _ (s2 _ _ ho)
      · rintro σ G1 ⟨v6', v7', rfl, f1⟩
        obtain ⟨la, ha1, hla1⟩ := hpG.same f1
        have hk1 := f1 _ _ hkG
        have hN1 := hN.same f1
        have hP1 := hPG.mono (kt_same f1)
        have hs1 := hsG.same f1
        have hn1 := hN1.1.1
        walk_at "rd"
        intro D nD
        have w1 : ∀ {a : Addr} {o : HO}, G1 a = some o → a ≠ D := fun h => ne_of_none h nD
        refine lc_list (K := K) (a := kq) (xs := ks) (fun j G2 => SX [D] G1 G2 ∧ ∃ ys, G2 D = some (.lst ys) ∧ PrsL G2 ys (((kn p m).take j).filter (upF p i x))) ⟨SX.refl.mut nD, [], upd_same, True.intro⟩ ?_ ?_ ?_
        · rintro j G2 _ ⟨f2, _⟩
          exact SqL.of (f2 _ _ (by simp [w1 hk1]) hk1)
        · rintro j v G2 hv ⟨f2, ys, hD, hY⟩
          obtain ⟨b, r2, rfl, hb, hr2⟩ := hP1.get hv
          have hbG := f2 _ _ (by simp [w1 hb]) hb
          have hnG := f2 _ _ (by simp [w1 hn1]) hn1
          have haG := f2 _ _ (by simp [w1 ha1]) ha1
          have hl := hY.len
          have hl2 := List.length_filter_le (upF p i x) ((kn p m).take j)
          have hl3 : ((kn p m).take j).length ≤ (kn p m).length := by rw [List.length_take]; exact Nat.min_le_right _ _
          refine ⟨rfl, ?_⟩
          walk_at "rd"
          intro t n3
          generalize eG3 : upd _ t _ = G3
          obtain ⟨g3, c3⟩ := gen_new n3 eG3
          clear eG3
          refine use_eqN (prs_dp (g3 _ _ hbG)) (prs_dp (q := ((i : Int) + 1, (x : Int) / p.fan)) c3) (nb_pr _) (nb_pr _) fun c hc => ?_
          have hD3 := g3 _ _ hD
          rw [take_flt _ _ _ _ hr2]
          walk_at "rd"
          refine iteB (fun d => ?_) (fun d => ?_)
          · rw [if_pos (show upF p i x r2 = true from decide_eq_true (prD_inj (hc.mp d)))]
            walk_at "rd"
            refine ⟨_, hD3, szlt (by omega), (f2.trans g3.sx).upd (by simp), ys ++ [.ref b], upd_same, ?_⟩
            refine PrsL.push ?_ ((hY.mono (kt_same g3)).mono (kt_upd hD3))
            exact kt_upd hD3 _ _ (g3 _ _ hbG)
          · rw [if_neg (show ¬ upF p i x r2 = true from fun z => by rw [hc.mpr (congrArg prD (of_decide_eq_true z))] at d; cases d), List.append_nil]
            exact ⟨f2.trans g3.sx, ys, hD3, hY.mono (kt_same g3)⟩
        rintro G2 ⟨f2, ys, hD, hY⟩
        rw [hPG.len, List.take_length] at hY
        have s12 : Same G1 G2 := fun c o ho => f2 _ _ (by simp [w1 ho]) ho
        have hs2 := hs1.same s12
        have hN2 := hN1.same s12
        have key : ∀ {G3 : Hp}, Same G2 G3 → ∀ {pv : V} {pd : PyData}, Dp K G3 pv pd → NB pd → (((i : Int), (x : Int)) = topI p m → pd = .none) → (((i : Int), (x : Int)) ≠ topI p m → pd = prD ((i : Int) + 1, (x : Int) / p.fan)) →
            ∀ {G4 : Hp}, Same G3 G4 → ∃ w : V, atI (ys ++ [.non]) 0 = some w ∧ ∃ wd, Dp K G4 w wd ∧ NB wd ∧ pd = wd := by
          intro G3 s23 pv pd hd hb e0 e1 G4 s34
          by_cases z : ((i : Int), (x : Int)) = topI p m
          · have hn : (kn p m).filter (upF p i x) = [] := List.filter_eq_nil_iff.mpr fun q hq h => top_no ok hm1 z q hq _ (of_decide_eq_true h)
            rw [hn] at hY
            match ys, hY with
            | [], _ => exact ⟨.non, rfl, .none, .non, nb_non, e0 z⟩
          · have hmm : ((i : Int) + 1, (x : Int) / p.fan) ∈ (kn p m).filter (upF p i x) := List.mem_filter.mpr ⟨up_mem ok hr z, decide_eq_true rfl⟩
            match ys, (kn p m).filter (upF p i x), hY, hmm, (fun q hq => of_decide_eq_true (List.mem_filter.mp hq).2 : ∀ q ∈ (kn p m).filter (upF p i x), q = ((i : Int) + 1, (x : Int) / p.fan)) with
            | y :: ys, q :: qs, ⟨⟨b, e, hb⟩, _⟩, _, hall =>
              subst e
              exact ⟨.ref b, atI_int (j := 0) rfl rfl, prD q, prs_dp (s34 _ _ (s23 _ _ hb)), nb_pr _, by rw [e1 z, hall q (List.mem_cons_self ..)]⟩
            | [], [], _, h, _ => exact absurd h (by simp)
        have hyl : ys.length ≤ 10010 := by have h1 := hY.len; have h2 := List.length_filter_le (upF p i x) (kn p m); omega
        walk_at "rd"
        refine use_parentD rfl hs2 ok hm hN2 fun v pd G3 s3 p1 p2 p3 p4 => ?_
        walk_at "rd"
        intro q4 n4
        generalize eG4 : upd _ q4 _ = G4
        obtain ⟨s4, c4⟩ := gen_new n4 eG4
        clear eG4
        refine use_cat (SqL.of (s4 _ _ (s3 _ _ hD))) (SqL.of c4) (by show ys.length + 1 ≤ 100000; omega) fun q5 G5 n5 s5 c5 => ?_
        obtain ⟨w, e1, wd, e2, e3, e4⟩ := key s3 p1 p2 p3 p4 (s4.trans s5)
        walk_at "rd"
        refine ⟨_, _, _, _, rfl, rfl, SqL.of c5, e1, ?_⟩
        refine use_neN (dp_same (s4.trans s5) p1) e2 p2 e3 fun c hc => ?_
        have hc : c = false := by
          cases c with
          | false => rfl
          | true => exact absurd e4 (hc.mp rfl)
        subst hc
        have s25 := (s3.trans s4).trans s5
        have hs5 := hs2.same s25
        have hN5 := hN2.same s25
        have ha5 := s25 _ _ (s12 _ _ ha1)
        have hn5 := hN5.1.1
        clear key c4 c5 e1 e2 e4 p1 p3 p4
        walk_at "rd"
        refine use_covered hs5 ok hN5.1 fun t6 G6 n6 s6 c6 => ?_
        have ha6 := s6 _ _ ha5
        have hs6 := hs5.same s6
        have hN6 := hN5.same s6
        have hn6 := hN6.1.1
        walk_at "rd"
        rw [Int.toNat_natCast i]
        refine for_range (lo := 0) (n := i) (fun j σ G' => G' = G6 ∧ ∃ v6, σ = [some (.ref s), some (.ref a), some (.int m), some (.ref kq), some (.ref pq), some (.ref n), v6, v7', some (.ref D), some (.int (x * p.fan.toNat ^ (i + 1) : Nat)), some (.int ((x + 1) * p.fan.toNat ^ (i + 1) : Nat)), some (.int (p.fan ^ (j + 1))), v12]) ⟨rfl, v6', ?_⟩ ?_ ?_
        · rw [Nat.zero_add, Int.pow_succ, Int.pow_zero, Int.one_mul]
          rfl
        · rintro j σ G' hj ⟨rfl, v6'', rfl⟩
          walk_at "rd"
          refine ⟨some (.int (0 + (j : Int))), ?_⟩
          rw [Int.pow_succ p.fan (j + 1)]
          rfl
        rintro σ G' ⟨rfl, v6'', rfl⟩
        rw [powc ok]
        have hw := powp ok (i + 1)
        have hh := nd_w ok hm hm1 hi
        have hx2 := le_mul hw hx
        have eF1 : ((x * p.fan.toNat ^ (i + 1) : Nat) : Int) = (x : Int) * ((p.fan.toNat ^ (i + 1) : Nat) : Int) := by push_cast; rfl
        have eF2 : (((x + 1) * p.fan.toNat ^ (i + 1) : Nat) : Int) = (x : Int) * ((p.fan.toNat ^ (i + 1) : Nat) : Int) + ((p.fan.toNat ^ (i + 1) : Nat) : Int) := by push_cast; rw [Int.add_mul, Int.one_mul]
        have eF3 : (x + 1) * p.fan.toNat ^ (i + 1) = x * p.fan.toNat ^ (i + 1) + p.fan.toNat ^ (i + 1) := by rw [Nat.add_mul, Nat.one_mul]
        walk_at "rd"
        intro t7 n7
        generalize eG7 : upd _ t7 _ = G7
        obtain ⟨s7, c7⟩ := gen_new n7 eG7
        clear eG7
        have hn7 := s7 _ _ hn6
        walk_at "rd"
        intro t8 n8
        generalize eG8 : upd _ t8 _ = G8
        obtain ⟨s8, c8⟩ := gen_new n8 eG8
        clear eG8
        rw [eF1, eF2] at c7
        refine neN_same (xs := [(x : Int) * ((p.fan.toNat ^ (i + 1) : Nat) : Int), (x : Int) * ((p.fan.toNat ^ (i + 1) : Nat) : Int) + ((p.fan.toNat ^ (i + 1) : Nat) : Int)]) (s8 _ _ c7) c8 ?_
        have s68 := s7.trans s8
        have hn8 := s8 _ _ hn7
        walk_at "rd"
        refine use_node_over (x := x * p.fan.toNat ^ (i + 1)) (hs6.same s68) ok rfl rfl (by omega) (by omega) fun t9 G9 n9 s9 c9 => ?_
        rw [Nat.mul_div_cancel _ hw] at c9
        have hn9 := s9 _ _ hn8
        walk_at "rd"
        refine neN_same (xs := [(i : Int), (x : Int)]) c9 hn9 ?_
        walk_at "rd"
        refine use_node_over (x := (x + 1) * p.fan.toNat ^ (i + 1) - 1) ((hs6.same s68).same s9) ok (by omega) rfl (by omega) (by omega) fun ta Ga na sa ca => ?_
        rw [Nat.div_eq_of_lt_le (k := x) (show x * p.fan.toNat ^ (i + 1) ≤ (x + 1) * p.fan.toNat ^ (i + 1) - 1 by omega) (show (x + 1) * p.fan.toNat ^ (i + 1) - 1 < (x + 1) * p.fan.toNat ^ (i + 1) by omega)] at ca
        have hna := sa _ _ hn9
        walk_at "rd"
        refine neN_same (xs := [(i : Int), (x : Int)]) ca hna ?_
        walk_at "rd"
        refine use_node_over (x := (x + 1) * p.fan.toNat ^ (i + 1)) (((hs6.same s68).same s9).same sa) ok rfl rfl (by omega) (by omega) fun tb Gb nb sb cb => ?_
        rw [Nat.mul_div_cancel _ hw] at cb
        have hnb := sb _ _ hna
        walk_at "rd"
        intro tc nc
        generalize eGc : upd _ tc _ = Gc
        obtain ⟨sc, cc⟩ := gen_new nc eGc
        clear eGc
        have cb' : Gb tb = some (.tup [.int (i : Int), .int ((x : Int) + 1)]) := cb.trans (by push_cast; rfl)
        refine neN_same (xs := [(i : Int), (x : Int) + 1]) (sc _ _ cb') cc ?_
        walk_at "rd"
        exact ⟨_, _, _, _, _, _, _, _, rfl, (((((((((f.trans f1).trans s12).trans s25).trans s6).trans s68).trans s9).trans sa).trans sb).trans sc)⟩
    · rintro σ G ⟨v5, v6, v7, v8, v9, v10, v11, v12, rfl, f⟩
      walk_at "rd"
      exact k G (g07.trans f)

theorem cut_from (xs : List V) (b : Nat) : cutV xs (some (b : Int)) none = xs.drop b := by
  unfold cutV
  rw [HT.sIx_nat, HT.sIx_none]
  by_cases h : b ≤ xs.length
  · rw [Nat.min_eq_left h, List.take_of_length_le (by rw [List.length_drop]; omega)]
  · rw [Nat.min_eq_right (by omega), List.drop_length, List.drop_of_length_le (by omega), List.take_nil]
theorem pgs_mem {p : Prt} (ok : p.Ok) {m : Nat} (hm : m ≤ 104) {k : Int} : k ∈ ((pgI p 104).take m).drop (kbN p m) ↔ k ∈ pgs p m := by
  have e : ((pgI p 104).take m).drop (kbN p m) = (List.range (m - kbN p m)).map fun r => ((pgN p (kbN p m + r) : Nat) : Int) := by
    apply List.ext_getElem?
    intro j
    rw [List.getElem?_drop, List.getElem?_take]
    unfold pgI
    by_cases h : kbN p m + j < m
    · rw [if_pos h, List.getElem?_map, List.getElem?_map, List.getElem?_range (by omega), List.getElem?_range (by omega)]; rfl
    · rw [if_neg h, List.getElem?_eq_none (by rw [List.length_map, List.length_range]; omega)]
  rw [e, List.mem_map]
  unfold pgs
  by_cases z : m = 0
  · rw [if_pos z, z]
    constructor
    · rintro ⟨r, hr, _⟩; have := List.mem_range.mp hr; omega
    · intro h; simp at h
  · rw [if_neg z, ivI_mem]
    have hk := kb_le ok m
    have hkm : kbN p m < m := by have := kb_eq ok m; omega
    have hbe := kb_pg ok (show 1 ≤ m by omega)
    constructor
    · rintro ⟨r, hr, rfl⟩
      have hr := List.mem_range.mp hr
      have a1 := pgN_mono ok (show kbN p m ≤ kbN p m + r by omega)
      have a2 := pgN_mono ok (show kbN p m + r ≤ m - 1 by omega)
      omega
    · rintro ⟨h1, h2⟩
      obtain ⟨n, rfl⟩ : ∃ n : Nat, k = (n : Int) := ⟨k.toNat, by omega⟩
      have h3 : startN p n ≤ m - 1 := by
        have a := pgN_on ok (m - 1)
        by_cases c : startN p n ≤ m - 1
        · exact c
        · have := start_mono ok (show n ≤ pgN p (m - 1) by omega)
          have := a.1
          omega
      by_cases c : kbN p m ≤ startN p n
      · exact ⟨startN p n - kbN p m, List.mem_range.mpr (by omega), by rw [show kbN p m + (startN p n - kbN p m) = startN p n by omega, pgN_start ok]⟩
      · have a := pgN_mono ok (show startN p n ≤ kbN p m by omega)
        rw [pgN_start ok] at a
        exact ⟨0, List.mem_range.mpr (by omega), by rw [Nat.add_zero]; omega⟩
theorem pgs_srt (p : Prt) (m : Nat) : (pgs p m).Pairwise (· < ·) := by
  unfold pgs
  split
  · exact List.Pairwise.nil
  · exact ivI_srt _ _
theorem use_law_treeP {g : Addr} {p : Prt} {m : Nat} {H : Hp} {Q : VK} {E : XK} (ok : p.Ok) (hm : m ≤ 300) (hg : H g = some (.lst ((pgs p m).map V.int)))
  (k : ∀ q xs H', H q = none → Same H H' → H' q = some (.lst xs) → PrsL H' xs (kn p m) → Q (.ref q) H') : sp_law_tree [.ref g, .int p.fan] H Q E := by
  by_cases z : m = 0
  · refine use_law_tree (b := 0) (n := 0) (by rw [hg]; unfold pgs; rw [if_pos z]; rfl) ok.f (by omega) fun q xs H' a b c d _ => k q xs H' a b c ?_
    rw [d rfl, z, kn_zero]
    exact True.intro
  · have h1 := kb_pg ok (show 1 ≤ m by omega)
    have h2 := pgN_le ok (m - 1)
    refine use_law_tree (b := pgN p (kbN p m)) (n := pgN p (m - 1) + 1 - pgN p (kbN p m)) (by rw [hg]; unfold pgs; rw [if_neg z]) ok.f (by omega) fun q xs H' a b c _ d => k q xs H' a b c ?_
    rw [kn_pos p (by omega)]
    have e : pgN p (kbN p m) + (pgN p (m - 1) + 1 - pgN p (kbN p m)) - 1 = pgN p (m - 1) := by omega
    have d := d (ht p m) (by omega) (by rw [e]; exact ht_is ok (by omega))
    rw [e] at d
    exact d
/-- the root as data -/
noncomputable def topD (p : Prt) (m : Nat) : PyData := if m = 0 then .none else prD (topI p m)
theorem topD_nb (p : Prt) (m : Nat) : NB (topD p m) := by unfold topD; split; exact nb_non; exact nb_pr _
theorem use_tree_rootD {K : PySem.W.Frag} {s : Addr} {p : Prt} {m : Nat} {i : Int} {H : Hp} {Q : VK} {E : XK} (hi : i = (m : Int)) (hs : SetAt K H s p) (ok : p.Ok) (hm : m ≤ 500)
  (k : ∀ v H', Same H H' → Dp K H' v (topD p m) → Q v H') : sp_tree_root K [.ref s, .int i] H Q E :=
  use_tree_root hi hs ok hm (fun z H' a => k _ H' a (by unfold topD; rw [if_pos z]; exact .non)) (fun z t H' a c => k _ H' a (by unfold topD; rw [if_neg (by omega)]; exact prs_dp c))
theorem iteK {c : Bool} {tA tB : TE} {σ : L2.St} {H : Hp} {Q : VK} (tv : V) (hA : c = true → ∀ Q' : VK, Q' tv H → tA σ H Q') (hB : c = false → ∀ Q' : VK, Q' tv H → tB σ H Q') (k : Q tv H) : if c = true then tA σ H Q else tB σ H Q := by
  cases c with
  | true => exact hA rfl Q k
  | false => exact hB rfl Q k
theorem kn_data {p : Prt} (ok : p.Ok) {m : Nat} : PyData.list ((kn p m).map prD) = .list [] ↔ m = 0 :=
  ⟨fun h => (kn_nil ok).mp (by injection h), fun h => by rw [(kn_nil ok).mpr h]⟩
@[irreducible] def sp_law (K : PySem.W.Frag) : Sp := fun vs H Q _ => ∃ (a : Addr) (ns : List Int), vs = [.ref a] ∧ SqL K H a (ns.map V.int) ∧ ns.length ≤ 63 ∧ ∀ H', Q (.bl true) H'
theorem b_law {K : PySem.W.Frag} {fd : FuncData} (F : F_law K fd) : Binds K fd P_law [] := FunD.bindsN F fun _ _ _ _ _ _ us hl => match us, hl with | [_], _ => rfl
theorem ok_law (T : Txt K mg D) : FnOk P w K mg base CX0 12 (He.fAd K ("law", none)) (D D_law) P_law (sp_law K) := by
  refine T.d_law.ok sc_law (fun vs H Q E h => ?_) (fun cdv A outer s H vs Q E hr h => ?_)
  · unfold sp_law at h
    first | (obtain ⟨rfl, _⟩ := h; rfl) | (obtain ⟨_, rfl, _⟩ := h; rfl) | (obtain ⟨_, _, rfl, _⟩ := h; rfl) | (obtain ⟨_, _, _, rfl, _⟩ := h; rfl) | (obtain ⟨_, _, _, _, rfl, _⟩ := h; rfl) | (obtain ⟨_, _, _, _, _, rfl, _⟩ := h; rfl) | (obtain ⟨_, _, _, _, _, _, rfl, _⟩ := h; rfl) | (obtain ⟨_, _, _, _, _, _, _, rfl, _⟩ := h; rfl) | (obtain ⟨_, _, _, _, _, _, _, _, rfl, _⟩ := h; rfl) | (obtain ⟨_, _, _, _, _, _, _, _, _, rfl, _⟩ := h; rfl) | (obtain ⟨_, _, _, _, _, _, _, _, _, _, rfl, _⟩ := h; rfl) | (obtain ⟨_, _, _, _, _, _, _, _, _, _, _, rfl, _⟩ := h; rfl)
  · refine ⟨_, PSs.nox (pss_cons (ps_for PassesOwn.never rfl (pi_list (pe_op (op_catSK (K := K)) (pe_slice (sl_listK (K := K)) (pv 0) po_none (po_some pe_int)) (pe_slice (sl_listK (K := K)) (pe_lst (pa_cons pe_int pa_nil)) (po_some (pe_callB (call_lenK (K := K)) (by rfl) T.n_len (by decide +kernel) (pa_cons (pv 0) pa_nil))) po_none))) (pg_name (i := 1) sc_law.nd rfl (Or.inl rfl)) (pss_cons (ps_set (i := 2) sc_law.nd rfl (Or.inl rfl) (pe_call (ok_law_digits T) (hr.mono (by decide)) rfl T.g_law_digits T.d_law_digits.kp (b_law_digits T.d_law_digits) .nil pass0 (pa_cons (pv 1) (pa_cons pe_int pa_nil))))
      (pss_cons (ps_set (i := 3) sc_law.nd rfl (Or.inl rfl) (pe_call (ok_law_parts T) (hr.mono (by decide)) rfl T.g_law_parts T.d_law_parts.kp (b_law_parts T.d_law_parts) .nil pass0 (pa_cons (pv 2) pa_nil)))
      (pss_cons (ps_par (i := 4) (j := 5) (by rfl) sc_law.nd rfl rfl (by decide) rfl rfl (pa_cons (pe_call (ok_law_settings T) (hr.mono (by decide)) rfl T.g_law_settings T.d_law_settings.kp (b_law_settings T.d_law_settings) .nil pass0 (pa_cons (pv 3) pa_nil)) (pa_cons (pe_call (ok_law_pages T) (hr.mono (by decide)) rfl T.g_law_pages T.d_law_pages.kp (b_law_pages T.d_law_pages) .nil pass0 (pa_cons (pv 3) (pa_cons pe_int pa_nil))) pa_nil)) (by rfl))
      (pss_one (ps_for PassesOwn.never rfl (pi_range1 (by rfl) T.n_range (pa_cons (pe_op op_add (pe_call (ok_law_rows T) (hr.mono (by decide)) rfl T.g_law_rows T.d_law_rows.kp (b_law_rows T.d_law_rows) .nil pass0 (pa_cons (pv 2) pa_nil)) pe_int) pa_nil)) (pg_name (i := 6) sc_law.nd rfl (Or.inl rfl)) (pss_cons (ps_set (i := 7) sc_law.nd rfl (Or.inl rfl) (pe_callB (cr_sortSB rfl) (by rfl) T.n_sorted (by decide +kernel) (pa_cons (pe_callTy (cr_setL (K := K) rfl) (by rfl) T.n_set (by decide +kernel) (pa_cons (pe_slice (sl_listK (K := K)) (pv 5) (po_some (pe_callB (call_max2 rfl) (by rfl) T.n_max (by decide +kernel) (pa_cons pe_int (pa_cons (pe_op op_sub (pv 6) (pe_dget (hu_of hr) (pv 3) pe_str (fun _ _ => rfl))) pa_nil)))) (po_some (pv 6))) pa_nil)) pa_nil)))
      (pss_cons (ps_set (i := 8) sc_law.nd rfl (Or.inl rfl) (pe_call (ok_law_tree T) (hr.mono (by decide)) rfl T.g_law_tree T.d_law_tree.kp (b_law_tree T.d_law_tree) .nil pass0 (pa_cons (pv 7) (pa_cons (pe_dget (hu_of hr) (pv 3) pe_str (fun _ _ => rfl)) pa_nil))))
      (pss_cons (ps_set (i := 9) sc_law.nd rfl (Or.inl rfl) (pe_ifExp (pt_cmpR (op_neNK (K := K) hr.units) (pv 8) (pe_lst pa_nil) (nomark _)) (pe_ix (ix_listK (K := K)) (pv 8) (pe_un un_neg pe_int) (fun _ _ => rfl)) pe_non))
      (pss_cons (ps_if (PW.pt (pw_or (pt_cmpR (op_neNK (K := K) hr.units) (pe_call (ok_tree_nodes T) (hr.mono (by decide)) rfl T.g_tree_nodes T.d_tree_nodes.kp (b_tree_nodes T.d_tree_nodes) .nil pass0 (pa_cons (pv 4) (pa_cons (pv 6) pa_nil))) (pv 8) (nomark _)) (pw_or1 (pt_cmpR (op_neNK (K := K) hr.units) (pe_call (ok_tree_root T) (hr.mono (by decide)) rfl T.g_tree_root T.d_tree_root.kp (b_tree_root T.d_tree_root) .nil pass0 (pa_cons (pv 4) (pa_cons (pv 6) pa_nil))) (pv 9) (nomark _))))) (pss_one (ps_ret pe_bl)) pss_nil)
      (pss_cons (ps_if (pt_cmpR op_ne (pe_call (ok_tree_height T) (hr.mono (by decide)) rfl T.g_tree_height T.d_tree_height.kp (b_tree_height T.d_tree_height) .nil pass0 (pa_cons (pv 4) (pa_cons (pv 6) pa_nil))) (pe_ifExp (pt_cmpR (op_neNK (K := K) hr.units) (pv 8) (pe_lst pa_nil) (nomark _)) (pe_op op_add (pe_ix (ix_tupK (K := K)) (pv 9) pe_int (fun _ _ => rfl)) pe_int) pe_int) (nomark _)) (pss_one (ps_ret pe_bl)) pss_nil)
      (pss_one (ps_if (pt_cmpR op_eq (pe_op op_mod (pe_callTy call_int1 (by rfl) T.n_int (by decide +kernel) (pa_cons (pe_op op_add (pv 6) (pe_ix (ix_listK (K := K)) (pv 2) pe_int (fun _ _ => rfl))) pa_nil)) pe_int) pe_int (nomark _)) (pss_cons (ps_expr (pe_bm PySem.F.plainAttrs_list PySem.F.slot_list_append PySem.F.type_list_append mt_append (pe_call (ok_tree_nodes T) (hr.mono (by decide)) rfl T.g_tree_nodes T.d_tree_nodes.kp (b_tree_nodes T.d_tree_nodes) .nil pass0 (pa_cons (pv 4) (pa_cons (pv 6) pa_nil))) (pa_cons pe_non pa_nil)))
      (pss_cons (ps_if (pt_cmpR (op_neNK (K := K) hr.units) (pe_call (ok_tree_nodes T) (hr.mono (by decide)) rfl T.g_tree_nodes T.d_tree_nodes.kp (b_tree_nodes T.d_tree_nodes) .nil pass0 (pa_cons (pv 4) (pa_cons (pv 6) pa_nil))) (pv 8) (nomark _)) (pss_one (ps_ret pe_bl)) pss_nil)
      (pss_one (ps_if (pt_not (pt_val (pe_call (ok_law_nodes_right T) (hr.mono (by decide)) rfl T.g_law_nodes_right T.d_law_nodes_right.kp (b_law_nodes_right T.d_law_nodes_right) .nil pass0 (pa_cons (pv 4) (pa_cons (pv 3) (pa_cons (pv 6) (pa_cons (pv 8) (pa_cons (pv 7) pa_nil)))))))) (pss_one (ps_ret pe_bl)) pss_nil)))) pss_nil)))))))))))))
      (pss_one (ps_ret pe_bl))), ?_⟩
    unfold sp_law at h
    obtain ⟨a, ns, rfl, hS, hl, k⟩ := h
    walk_at "rd"
    try unfold L2.tNoPart
    walk_at "rd"
    refine use_sl (lo := none) (hi := some 3) (ys := (ns.take 3).map V.int) hS (by rw [show (3 : Int) = ((3 : Nat) : Int) by rfl, cut_to, List.map_take]) fun q1 H1 n1 g1 c1 => ?_
    walk_at "rd"
    intro q2 n2
    generalize eH2 : upd _ q2 _ = H2
    obtain ⟨g2, c2⟩ := gen_new n2 eH2
    clear eH2
    walk_at "rd"
    refine ⟨_, _, rfl, .inl ((g1.trans g2).seq hS), ?_⟩
    walk_at "rd"
    try unfold L2.tNoPart
    refine use_sl (lo := some (((ns.map V.int).length : Nat) : Int)) (hi := none) (ys := ([19].drop ns.length).map V.int) (SqL.of c2) (by rw [cut_from, List.length_map, List.map_drop]; rfl) fun q3 H3 n3 g3 c3 => ?_
    refine use_cat (SqL.of (g3 _ _ (g2 _ _ c1))) (SqL.of c3) (by rw [List.length_map, List.length_map, List.length_take, List.length_drop]; simp; omega) fun q4 H4 n4 g4 c4 => ?_
    rw [← List.map_append] at c4
    generalize ns.take 3 ++ [19].drop ns.length = cs at c4
    refine ⟨_, rfl, ⟨_, SqL.of c4⟩, for_list (xs := cs.map V.int) (fun i σ G => ∃ v1 v2 v3 v4 v5 v6 v7 v8 v9, σ = [some (.ref a), v1, v2, v3, v4, v5, v6, v7, v8, v9] ∧ Same H4 G) ⟨_, _, _, _, _, _, _, _, _, rfl, Same.refl _⟩ ?_ ?_ ?_⟩
    · rintro i σ G _ ⟨v1, v2, v3, v4, v5, v6, v7, v8, v9, rfl, f⟩
      exact SqL.of (f _ _ c4)
    · rintro i v σ G hx ⟨v1, v2, v3, v4, v5, v6, v7, v8, v9, rfl, f⟩
      obtain ⟨c, hc, rfl⟩ := map_some hx
      walk_at "rd"
      refine use_digits fun d fd G1 m1 s1 hf hd => ?_
      walk_at "rd"
      refine use_pd hf hd fun pa p G2 m2 s2 ok _ hp => ?_
      have hd2 := s2 _ _ hd
      walk_at "rd"
      refine use_settings hp ok fun b G3 m3 s3 hs => ?_
      walk_at "rd"
      refine use_pages (n := 104) rfl (hp.same s3) ok (by omega) fun q G4 m4 s4 hq => ?_
      have hs4 := hs.same s4
      have hp4 := (hp.same s3).same s4
      have hd4 := s4 _ _ (s3 _ _ hd2)
      have f4 := (((f.trans s1).trans s2).trans s3).trans s4
      clear hd hp hs hd2 c1 c2 c3 c4 hS
      walk_at "rd"
      refine use_rows hf hd4 fun mm hm1 hm2 => ?_
      walk_at "rd"
      rw [show Int.toNat ((mm : Int) + 1) = mm + 1 by omega]
      refine for_range (lo := 0) (n := mm + 1) (fun j σ G' => ∃ v6 v7 v8 v9, σ = [some (.ref a), some (.int c), some (.ref d), some (.ref pa), some (.ref b), some (.ref q), v6, v7, v8, v9] ∧ Same G4 G') ⟨_, _, _, _, rfl, Same.refl _⟩ ?_ ?_
      · rintro j σ G5 hj ⟨v6', v7', v8', v9', rfl, f5⟩
        have hj' : j ≤ 103 := by omega
        have hdG := f5 _ _ hd4
        obtain ⟨la, haG, _⟩ := hp4.same f5
        have hqG := f5 _ _ hq
        have hkb := kb_max ok j
        have hkl := kb_le ok j
        walk_at "rd"
        refine use_sl (ys := (((pgI p 104).take j).drop (kbN p j)).map V.int) (SqL.of hqG) (by rw [show (0 : Int) + (j : Int) = (j : Int) by omega, hkb, cut_mid _ _ _ (by rw [pgL_len]; omega)]; unfold pgL; rw [List.map_drop, List.map_take]) fun q6 G6 n6 s6 c6 => ?_
        have hpl : (((pgI p 104).take j).drop (kbN p j)).length ≤ 104 := by
          rw [List.length_drop, List.length_take]; unfold pgI; rw [List.length_map, List.length_range]; omega
        refine ⟨_, _, rfl, SqL.of c6, by omega, fun q7 G7m G7 n7 s7 hm7 c7 => ?_⟩
        refine ⟨_, _, _, rfl, c7, by omega, fun ns6 q8 G8 h1 h2 h3 n8 s8 c8 => ?_⟩
        obtain rfl : ns6 = pgs p j := srt_uniq h1 (pgs_srt p j) fun k => by
          rw [h2 k, ← pgs_mem ok (by omega)]
          exact ⟨fun z => of_decide_eq_true z, fun z => decide_eq_true z⟩
        have s58 := (s6.trans s7).trans s8
        have ha8 := s58 _ _ haG
        clear c6 c7
        walk_at "rd"
        refine use_law_treeP ok (by omega) c8 fun q9 ks G9 n9 s9 c9 hP9 => ?_
        walk_at "rd"
        intro qa na
        generalize eGa : upd _ qa _ = Ga
        obtain ⟨sa, ca⟩ := gen_new na eGa
        clear eGa
        have s5a := (s58.trans s9).trans sa
        have c9a := sa _ _ c9
        have hPa := hP9.mono (kt_same sa)
        refine use_neN (.lst (SqL.of c9a) hPa.dp) (.lst (SqL.of ca) .nil) (nb_prl _) (nb_prl []) fun e he => ?_
        have he : e = true ↔ j ≠ 0 := he.trans (not_congr (kn_data ok))
        walk_at "rd"
        obtain ⟨tv, tv0, tv1⟩ : ∃ tv : V, (j = 0 → tv = .non) ∧ (j ≠ 0 → ∃ t, tv = .ref t ∧ atI ks (-1) = some (.ref t) ∧ Ga t = some (.tup [.int (topI p j).1, .int (topI p j).2])) := by
          by_cases z : j = 0
          · exact ⟨.non, fun _ => rfl, fun y => absurd z y⟩
          · obtain ⟨ps, ek⟩ := kn_top ok (show 1 ≤ j by omega)
            have h := hPa
            rw [ek] at h
            obtain ⟨t, a1, a2⟩ := h.last
            exact ⟨.ref t, fun y => absurd y z, fun _ => ⟨t, rfl, a1, a2⟩⟩
        have htd : Dp K Ga tv (topD p j) := by
          unfold topD
          by_cases z : j = 0
          · rw [if_pos z, tv0 z]; exact .non
          · obtain ⟨t, e1, _, e2⟩ := tv1 z
            rw [if_neg z, e1]; exact prs_dp e2
        refine iteK tv (fun z Q' h => ?_) (fun z Q' h => ?_) ?_
        · obtain ⟨t, e1, e2, _⟩ := tv1 (he.mp z)
          subst e1
          walk_at "rd"
          refine ⟨_, _, _, _, rfl, rfl, SqL.of c9a, e2, ?_⟩
          exact h
        · have z0 : j = 0 := by
            by_cases y : j = 0
            · exact y
            · rw [he.mpr y] at z; cases z
          obtain rfl := tv0 z0
          exact h
        have hsa := (hs4.same f5).same s5a
        have hda := s5a _ _ hdG
        walk_at "rd"
        refine use_tree_nodes (m := j) (by omega) hsa ok (by omega) fun qb xb Gb nb sb cb hPb => ?_
        walk_at "rd"
        refine neL_prs cb (sb _ _ c9a) hPb (hPa.mono (kt_same sb)) ?_
        walk_at "rd"
        refine use_tree_rootD (m := j) (by omega) (hsa.same sb) ok (by omega) fun w Gc sc hw => ?_
        walk_at "rd"
        refine use_neN hw (dp_same (sb.trans sc) htd) (topD_nb _ _) (topD_nb _ _) fun e2 he2 => ?_
        have he2 : e2 = false := by
          cases e2 with
          | false => rfl
          | true => exact absurd rfl (he2.mp rfl)
        subst he2
        walk_at "rd"
        refine use_tree_height (m := j) (by omega) ((hsa.same sb).same sc) ok (by omega) fun Gd sd => ?_
        have sad := (sb.trans sc).trans sd
        have c9d := sad _ _ c9a
        have hPd := hPa.mono (kt_same sad)
        have hsd := hsa.same sad
        have hdd := sad _ _ hda
        walk_at "rd"
        intro qe ne
        generalize eGe : upd _ qe _ = Ge
        obtain ⟨se, ce⟩ := gen_new ne eGe
        clear eGe
        have c9e := se _ _ c9d
        have hPe := hPd.mono (kt_same se)
        refine use_neN (.lst (SqL.of c9e) hPe.dp) (.lst (SqL.of ce) .nil) (nb_prl _) (nb_prl []) fun e3 he3 => ?_
        have he3 : e3 = true ↔ j ≠ 0 := he3.trans (not_congr (kn_data ok))
        walk_at "rd"
        refine iteK (.int (ht p j : Nat)) (fun z Q' h => ?_) (fun z Q' h => ?_) ?_
        · have z := he3.mp z
          obtain ⟨t, e1, _, e4⟩ := tv1 z
          subst e1
          have e5 := se _ _ (sad _ _ e4)
          rw [← topI_fst ok (show 1 ≤ j by omega)] at h
          walk_at "rd"
          exact h
        · have z0 : j = 0 := by
            by_cases y : j = 0
            · exact y
            · rw [he3.mpr y] at z; cases z
          rw [z0, ht_zero] at h
          exact h
        walk_at "rd"
        refine iteNeS ?_
        have hde := se _ _ hdd
        have s5e := (s5a.trans sad).trans se
        have hse := hsd.same se
        have hpe := ((hp4.same f5).same s5e)
        have c8e := se _ _ (sad _ _ (sa _ _ (s9 _ _ c8)))
        walk_at "rd"
        refine ite2 (fun c => ?_) (fun c => ?_)
        · walk_at "rd"
          refine use_tree_nodes (m := j) (by omega) hse ok (by omega) fun qf xf Gf nf sf cf hPf => ?_
          walk_at "rd"
          refine ⟨.inl ⟨rfl, _, SqL.of cf⟩, ?_⟩
          walk_at "rd"
          refine ⟨_, _, _, rfl, rfl, cf, szlt (by have h1 := hPf.len; have h2 := kn_len ok (show j ≤ 1000 by omega); omega), ?_⟩
          generalize eG : upd Gf qf _ = Gg
          have sg : Same Ge Gg := fun b o ho => by
            rw [← eG, upd_ne (ne_of_none ho nf)]
            exact sf _ _ ho
          clear eG
          have hsg := hse.same sg
          have hpg := hpe.same sg
          have c9g := sg _ _ c9e
          have hPg := hPe.mono (kt_same sg)
          have c8g := sg _ _ c8e
          walk_at "rd"
          refine use_tree_nodes (m := j) (by omega) hsg ok (by omega) fun qh xh Gh nh sh ch hPh => ?_
          walk_at "rd"
          refine neL_prs ch (sh _ _ c9g) hPh (hPg.mono (kt_same sh)) ?_
          walk_at "rd"
          refine use_nodes_right (m := j) (by omega) (hsg.same sh) (hpg.same sh) ok (by omega) (sh _ _ c9g) (hPg.mono (kt_same sh)) (sh _ _ c8g) fun Gi si => ?_
          walk_at "rd"
          exact ⟨_, _, _, _, rfl, (((f5.trans s5e).trans sg).trans sh).trans si⟩
        · walk_at "rd"
          exact ⟨_, _, _, _, rfl, f5.trans s5e⟩
      · rintro σ G5 ⟨v6', v7', v8', v9', rfl, f5⟩
        walk_at "rd"
        exact ⟨_, _, _, _, _, _, _, _, _, rfl, f4.trans f5⟩
    · rintro σ G ⟨v1, v2, v3, v4, v5, v6, v7, v8, v9, rfl, f⟩
      walk_at "rd"
      exact k _

end
end KR
open PySem PySem.W PySem.Calls PyProof.Rows in
set_option maxRecDepth 100000 in
set_option maxHeartbeats 0 in
theorem PySem.Challenge.cw_keeprows_k14_trees_near_holds : PySem.Challenge.rw_keeprows_k14_trees_near.Holds := by
  w_on; o_law
  refine HandSHeadRun.head_any (r := OpenLaw.row PySem.Challenge.rw_keeprows_k14_trees_near) (q := view (OpenLaw.row PySem.Challenge.rw_keeprows_k14_trees_near).prog [53]) (H := KR.hk) (ob := KR.ob) (M := 4000) (loose := KR.looseN) (d := HandSHeadRun.topDef (OpenLaw.row PySem.Challenge.rw_keeprows_k14_trees_near).prog 53) (kwd := []) KR.ob_eq
    (by kernel_rfl) (fun s => by kernel_rfl) KR.run (by kernel_rfl) (by kernel_rfl) (by kernel_rfl) (by rfl) (by first | assumption | decide +kernel) (by decide +kernel) ⟨rfl, rfl, rfl, rfl, rfl, by decide +kernel⟩ ?hw ?hc
  case hw => w_witness2
  case hc =>
    refine L2.walk_ofE (l := PySem.Challenge.rw_keeprows_k14_trees_near) (n := 63) (k := 12) (x := "script") (CX := L2.CX0) rfl (by decide) (by kernel_rfl) ⟨rfl, by decide, by decide⟩ ?F (fun _ _ _ _ z => z)
    intro w mg fa h Y G hmg0
    obtain ⟨K, KX, c, cx⟩ := Y
    have hmg : mg ("law" : PySem.Str) = some (.ref fa) := by
      have e : (HandSHeadRun.topDef (OpenLaw.row PySem.Challenge.rw_keeprows_k14_trees_near).prog 53).name = ("law" : PySem.Str) := by kernel_rfl
      rw [← e]
      exact hmg0
    obtain ⟨D, T⟩ := KR.txt_of KX G c cx
    have e1 := hmg.symm.trans T.g_law
    cases e1
    exact ⟨K, D KR.D_law, KR.sp_law K, KX, fun s v => L2.FunD.bindsA (ps := ["script"]) T.d_law (fun _ _ _ _ _ _ us hl => match us, hl with | [_], _ => rfl) s [v] rfl, fun H a ns hl _ hS => by unfold KR.sp_law; exact ⟨a, ns, rfl, hS, hl, fun _ => rfl⟩, fun base _ _ => KR.ok_law T⟩
