import PyProof.Rows.All
import Wide.All
import OpenK.AllK
import Wide.FinOn
import HandS.ForMost
import HandS.Exc
import HandS.TryOnly
import HandS.TryMany
import HandS.WordsExc
import HandS.Defaults
import HandS.MakeKwOnly
import HandS.IsInst
import HandS.Sort
import HandS.OwnEq
import HandS.NoneIn
import HandS.Conv
import HandS.Flow
import HandS.Wide
import HandS.Evl
import HandS.Style
import HandS.Head0
import HandS.Head1
import HandS.Head2
import HandS.HeadEnd
import HandS.HeadHook1
import HandS.HeadHook2
import KE.KStateDown
import PyProof.LongRange
import HandS.Strs
import PySem.Challenge.RW_keeprows_k85_whole_heights_far_away
set_option Elab.async false
set_option linter.all false
set_option maxRecDepth 100000
set_option maxHeartbeats 16000000
set_option pp.deepTerms false
set_option pp.deepTerms.threshold 2
namespace KR
open PySem PySem.Spec PyProof.Rows L2
/-! ### small rules -/
theorem iteB {c : Bool} {A B : Prop} (h1 : c = true → A) (h2 : c = false → B) : if c = true then A else B := by
  cases c with
  | true => exact h1 rfl
  | false => exact h2 rfl
theorem iteT_of {c : Bool} {A B : Prop} (h : c = true) (a : A) : if c = true then A else B := by subst h; exact iteT a
theorem iteF_of {c : Bool} {A B : Prop} (h : c = false) (b : B) : if c = true then A else B := by subst h; exact iteF b
@[irreducible] def rIsiI (K : PySem.W.Frag) : List V → Hp → VK → Prop := rIsi K
theorem call_isiI {X : Cx} : CallR X (.builtin "isinstance") (rIsiI X.K) := by unfold rIsiI; exact call_isi
theorem isi_int {K : PySem.W.Frag} {H : Hp} {i : Int} {Q : VK} (q : Q (.bl true) H) : rIsiI K [.int i, .ty "int"] H Q := by
  unfold rIsiI; exact ⟨_, _, _, _, true, rfl, .ty _, .base (.int i), kit_ty (by decide +kernel), q⟩
theorem isi_bool {K : PySem.W.Frag} {H : Hp} {i : Int} {Q : VK} (q : Q (.bl false) H) : rIsiI K [.int i, .ty "bool"] H Q := by
  unfold rIsiI; exact ⟨_, _, _, _, false, rfl, .ty _, .base (.int i), kit_ty (by decide +kernel), q⟩
theorem isi_list {K : PySem.W.Frag} {H : Hp} {a : Addr} {xs : List V} {Q : VK} (h : H a = some (.lst xs)) (q : Q (.bl true) H) : rIsiI K [.ref a, .ty "list"] H Q := by
  unfold rIsiI; exact ⟨_, _, _, _, true, rfl, .ty _, .base (.lst h), kit_ty (by decide +kernel), q⟩
theorem pe_le {X : Cx} {e : Expr} {t t' : TE} (h : PE X e t) (k : ∀ σ H Q, t' σ H Q → t σ H Q) : PE X e t' := ⟨fun pins s σ H Q I hw => h.run pins s σ H Q I (k σ H Q hw)⟩
theorem pe_powc {X : Cx} {a b c : Int} {i j : Nat} {p1 p2 pos : Pos} (h : 0 ≤ b ∧ b ≤ 1000000 ∧ a.natAbs < 2 ^ 64 ∧ a ^ b.toNat = c) :
    PE X (.BinOp (.Constant (.int a) i p1) .Pow (.Constant (.int b) j p2) pos) (tC (.int c)) :=
  pe_le (pe_op op_pow pe_int pe_int) fun σ H Q q => ⟨a, b, rfl, rfl, ⟨h.1, h.2.1, h.2.2.1⟩, (show Q (.int (a ^ b.toNat)) H by rw [h.2.2.2]; exact q)⟩
theorem pe_globi {X : Cx} {x : Str} {i : Int} {pos : Pos} (hm : ∃ t, X.mg x = some (.int i t)) (hg : Gl X x := by rfl) (hd : (x == ("__debug__" : Str)) = false := by decide) : PE X (.Name x pos) (tC (.int i)) := by
  obtain ⟨t, h⟩ := hm
  exact pe_glob hg h ⟨t, rfl⟩ hd
/-! ### side conditions of numbers -/
theorem log2_lt {n : Nat} {k : Nat} (h : n < 2 ^ k) (hk : 0 < k) : n.log2 < k := by
  by_cases hn : n = 0
  · subst hn; simpa using hk
  · exact (Nat.log2_lt hn).2 h
theorem cdw {i j : Int} (h0 : 0 < j) (h1 : j ≤ 1000000000000000000000000000000000000000000) : CDivW i j :=
  ⟨h0, log2_lt (Nat.lt_of_lt_of_le (Nat.lt_succ_of_le (show j.natAbs ≤ 1000000000000000000000000000000000000000000 by omega)) (by decide +kernel)) (by decide)⟩
theorem cdv {i j : Int} (h0 : 0 < j) (h1 : j < 1073741824) : CDiv i j := ⟨h0, h1⟩
theorem cml {i j : Int} (h0 : -18446744073709551616 < i) (h1 : i < 18446744073709551616) : CMul i j := .inl ⟨h0, h1⟩
theorem cmr {i j : Int} (h0 : -18446744073709551616 < j) (h1 : j < 18446744073709551616) : CMul i j := .inr ⟨h0, h1⟩
/-! ### heaps: what was tracked stands, but for one address -/
def SB (s : Addr) (H H' : Hp) : Prop := ∀ b o, b ≠ s → H b = some o → H' b = some o
theorem SB.refl {s : Addr} {H : Hp} : SB s H H := fun _ _ _ h => h
theorem SB.trans {s : Addr} {H H1 H2 : Hp} (a : SB s H H1) (b : SB s H1 H2) : SB s H H2 := fun c o n h => b c o n (a c o n h)
theorem _root_.L2.Same.sb {s : Addr} {H H' : Hp} (a : Same H H') : SB s H H' := fun c o _ h => a c o h
theorem SB.free {s : Addr} {H H' : Hp} (e : SB s H H') {l : Addr} (n : l ≠ s) (h : H' l = none) : H l = none := by
  cases q : H l with
  | none => rfl
  | some o => rw [e l o n q] at h; cases h
theorem SB.upd {s : Addr} {H : Hp} {o : HO} : SB s H (upd H s o) := fun b u n h => by rw [upd_ne n]; exact h
theorem same_new {H : Hp} {p : Addr} {o : HO} (h : H p = none) : Same H (upd H p o) := fun b u e => by rw [upd_ne (ne_of_none e h)]; exact e
theorem gen_new {H H' : Hp} {p : Addr} {o : HO} (n : H p = none) (e : upd H p o = H') : Same H H' ∧ H' p = some o := by
  subst e
  exact ⟨same_new n, upd_same⟩
/-- a new object, its heap a letter -/
theorem new_obj {H : Hp} {o : HO} {R : Addr → Hp → Prop} (h : ∀ p H', H p = none → Same H H' → H' p = some o → R p H') : ∀ p, H p = none → R p (upd H p o) :=
  fun p hp => h p _ hp (same_new hp) upd_same
theorem new_ref {H : Hp} {o : HO} {Q : VK} (h : ∀ p H', H p = none → Same H H' → H' p = some o → Q (.ref p) H') : ∀ p, H p = none → Q (.ref p) (upd H p o) :=
  fun p hp => h p _ hp (same_new hp) upd_same
theorem hp_same {H H' : Hp} {a : Addr} {o : HO} (s : Same H H') (h : H a = some o) : H' a = some o := s a o h
theorem hp_sb {s a : Addr} {H H' : Hp} {o : HO} (e : SB s H H') (n : a ≠ s) (h : H a = some o) : H' a = some o := e a o n h
end KR
namespace KR
open PySem PySem.Spec PyProof.Rows L2 MeetsSeq
/-! ### list + list where the left one may be of the written part -/
theorem add_any {l b : Addr} {items items2 : Array Value} {n n2 : Nat} {sl sl2 : Array (Option Value)} (hz : items.size + items2.size ≤ sizeLine) :
    Meets (Builtin.«list.__add__» ⟨[.ref l, .ref b], []⟩) (fun _ R s =>
      (s.heap.get? l = some ⟨.type "list", none, .seq items n, sl⟩ ∧ s.heap.get? b = some ⟨.type "list", none, .seq items2 n2, sl2⟩) ∧
      R (.ok (.ret (Value.ref s.heap.objs.size))) { s with heap := s.heap.push { cls := Value.type "list", data := Data.seq (items ++ items2) } }) :=
  .of_wp fun prog w A R s h => by
    obtain ⟨hp, g, d, tk, os⟩ := s
    obtain ⟨⟨e1, e2⟩, h⟩ := h
    have f1 := AutoSeq1.idx_int
    have f2 := AutoSeq1.sub_tuple_tuple
    have f3 := AutoSeq1.sub_list_list
    have f4 := AutoSeq1.sub_tuple_list
    have f5 := AutoSeq1.sub_list_tuple
    wp_walk using wpAny_loadPart' e1, wpAny_loadPart' e2
    exact ⟨_, rfl, h⟩
def rCatS (K : PySem.W.Frag) : R2 := fun x y H Q => ∃ l b xs zs, x = .ref l ∧ y = .ref b ∧ SqL K H l xs ∧ SqL K H b zs ∧ xs.length + zs.length ≤ 100000 ∧
  ∀ p H', H p = none → Same H H' → H' p = some (.lst (xs ++ zs)) → Q (.ref p) H'
theorem op_catS {X : Cx} : OpR X (binaryOp .Add) (rCatS X.K) := by
  intro pins s σ H x y v u Q I rx ry h
  obtain ⟨l, b, xs, zs, rfl, rfl, hl, hb, hz, q⟩ := h
  cases rx
  cases ry
  obtain ⟨its, r, ⟨o, n, e, ec, ed, es⟩, _⟩ := I.list hl
  obtain ⟨its2, r2, ⟨o2, n2, e2, ec2, ed2, es2⟩, _⟩ := I.list hb
  obtain ⟨c, d, dt, sl⟩ := o
  obtain ⟨c2, d2, dt2, sl2⟩ := o2
  dsimp only at ec ed es ec2 ed2 es2
  subst ec ed es ec2 ed2 es2
  have hlen : its.length + its2.length ≤ sizeLine := by
    rw [← r.length, ← r2.length]
    exact Nat.le_trans hz (by decide)
  refine concat_meets ⟨_, e, rfl⟩ ⟨_, e2, rfl⟩ noFill_list_add seq_list_add F.slot_list_add F.entry_list_add (F.args_list_add_2 _ _) (add_any (by rw [List.size_toArray, List.size_toArray]; exact hlen)) ⟨⟨e, e2⟩, ?_⟩
  have ea : its.toArray ++ its2.toArray = (its ++ its2).toArray := by simp
  rw [ea]
  have hn := I.fresh
  have J := I.lnew (t' := s.toks) (r.append r2) (by rw [List.length_append]; exact Nat.le_trans hz (by decide))
  exact ⟨.ref _, _, J, rfl, q _ _ hn (same_new hn) upd_same⟩
end KR
namespace KR
open PySem PySem.Spec PyProof.Rows L2
/-! ### frames -/
def SX (X : List Addr) (H H' : Hp) : Prop := ∀ b o, b ∉ X → H b = some o → H' b = some o
theorem SX.refl {X : List Addr} {H : Hp} : SX X H H := fun _ _ _ h => h
theorem SX.trans {X : List Addr} {H H1 H2 : Hp} (a : SX X H H1) (b : SX X H1 H2) : SX X H H2 := fun c o n h => b c o n (a c o n h)
theorem SX.mono {X Y : List Addr} {H H1 : Hp} (a : SX X H H1) (h : ∀ x ∈ X, x ∈ Y) : SX Y H H1 := fun c o n q => a c o (fun z => n (h c z)) q
theorem SB.sx {s : Addr} {X : List Addr} {H H1 : Hp} (a : SB s H H1) (h : s ∈ X) : SX X H H1 := fun c o n q => a c o (fun z => n (z ▸ h)) q
theorem _root_.L2.Same.sx {X : List Addr} {H H1 : Hp} (a : Same H H1) : SX X H H1 := fun c o _ q => a c o q
theorem SX.sb {s : Addr} {H H1 : Hp} (a : SX [s] H H1) : SB s H H1 := fun c o n q => a c o (by simpa using n) q
theorem SX.upd {X : List Addr} {H H' : Hp} {p : Addr} {o : HO} (a : SX X H H') (h : p ∈ X) : SX X H (upd H' p o) := fun c u n q => by
  have e : c ≠ p := fun z => n (by rw [z]; exact h)
  rw [upd_ne e]; exact a c u n q
theorem SX.mut {X : List Addr} {H H' : Hp} {p : Addr} {o : HO} (a : SX X H H') (h : H p = none) : SX X H (L2.upd H' p o) := fun c u n q => by
  rw [upd_ne (ne_of_none q h)]; exact a c u n q
theorem SB.mut {s : Addr} {H H' : Hp} {p : Addr} {o : HO} (a : SB s H H') (h : H p = none) : SB s H (L2.upd H' p o) := fun c u n q => by
  rw [upd_ne (ne_of_none q h)]; exact a c u n q
theorem _root_.L2.Same.mut {H H' : Hp} {p : Addr} {o : HO} (a : Same H H') (h : H p = none) : Same H (L2.upd H' p o) := fun c u q => by
  rw [upd_ne (ne_of_none q h)]; exact a c u q
theorem SX.drop {X : List Addr} {H H' : Hp} {p : Addr} (a : SX (p :: X) H H') (h : H p = none) : SX X H H' := fun c u n q => by
  refine a c u (fun z => ?_) q
  rcases List.mem_cons.mp z with e | e
  · rw [e, h] at q; cases q
  · exact n e
theorem szl {n : Nat} (h : n ≤ 100000) : n ≤ sizeLine := Nat.le_trans h (by decide)
theorem szlt {n : Nat} (h : n ≤ 100000) : n < sizeLine := Nat.lt_of_le_of_lt h (by decide)
theorem atI_int {xs : List V} {i : Int} {j : Nat} {v : V} (hi : i = (j : Int)) (h : xs[j]? = some v) : atI xs i = some v := by subst hi; exact atI_nat h
theorem at_of_lt {xs : List V} {i : Int} (h0 : 0 ≤ i) (h1 : i < xs.length) : ∃ v, v ∈ xs ∧ atI xs i = some v ∧ xs[i.toNat]? = some v := by
  have h : i.toNat < xs.length := by omega
  refine ⟨xs[i.toNat], List.getElem_mem h, ?_, List.getElem?_eq_getElem h⟩
  have e : i = (i.toNat : Int) := by omega
  exact atI_int (xs := xs) (v := xs[i.toNat]) e (List.getElem?_eq_getElem h)
theorem map_some {ns : List Int} {i : Nat} {v : V} (h : (ns.map V.int)[i]? = some v) : ∃ z, ns[i]? = some z ∧ v = .int z := by
  rw [List.getElem?_map] at h
  cases e : ns[i]? with
  | none => rw [e] at h; cases h
  | some z => rw [e] at h; exact ⟨z, rfl, (Option.some.inj h).symm⟩
theorem gen_st {H H' : Hp} {a : Addr} {o : HO} (e : upd H a o = H') : SB a H H' ∧ H' a = some o := by subst e; exact ⟨SB.upd, upd_same⟩
theorem lt1000 {n : Nat} (h : Nat.ble (n + 1) 1000 = true) : n < 1000 := Nat.le_of_ble_eq_true h
theorem kb_of {K : PySem.W.Frag} {x qual : Str} {params : Arguments} {body : List Stmt} {scope : Scope} {f : Addr} {fd : FuncData} {ps : List Str} (F : FunD K x qual params body scope [] [] f fd) (n : Nat) (ks : List Str)
    (g : {α : Type} → List α → List α → List α) (hrel : ∀ {vs zs : List V} {us ws : List Value}, Vals vs us → Vals zs ws → vs.length = n → zs.length = ks.length → Vals (g vs zs) (g us ws))
    (h : ∀ (kV doc pm : Value) (an : Option Addr) (cdv ct : Value) (us ws : List Value), us.length = n → ws.length = ks.length → bindArgs (PySem.W.fnOf x qual params body scope .none kV doc pm an cdv ct) ⟨us, ks.zip ws⟩ = pure (ps.zip (g us ws)))
    (hb : ∀ {vs zs : List V} {us ws : List Value}, Vals vs us → Vals zs ws → Vals (g vs zs) (g us ws)) :
    KBn K fd ps n ks (fun us ws => g us ws) (fun vs zs => g vs zs) := by
  obtain ⟨oc, od, dV, kV, doc, pm, an, cdv, ct, osl, rfl, lk, hcd, hD, hK⟩ := F.ex
  rcases hD with ⟨_, rfl⟩ | ⟨e, _⟩
  · exact ⟨fun s us ws _ l1 l2 => BindsTo.of_eq (h kV doc pm an cdv ct us ws l1 l2), fun r1 r2 => hb r1 r2⟩
  · exact absurd rfl e
/-- keywords in the parameters' order -/
theorem kb_app {K : PySem.W.Frag} {x qual : Str} {params : Arguments} {body : List Stmt} {scope : Scope} {f : Addr} {fd : FuncData} {ps : List Str} (F : FunD K x qual params body scope [] [] f fd) (n : Nat) (ks : List Str)
    (h : ∀ (kV doc pm : Value) (an : Option Addr) (cdv ct : Value) (us ws : List Value), us.length = n → ws.length = ks.length → bindArgs (PySem.W.fnOf x qual params body scope .none kV doc pm an cdv ct) ⟨us, ks.zip ws⟩ = pure (ps.zip (us ++ ws))) :
    KBn K fd ps n ks (fun us ws => us ++ ws) (fun vs zs => vs ++ zs) := kb_of F n ks (fun a b => a ++ b) (fun r1 r2 _ _ => r1.append r2) h fun r1 r2 => r1.append r2
theorem gen_mk {H H' : Hp} {x dx : Addr} {o u : HO} (n : H x = none) (nd : H dx = none) (e : upd (upd H dx u) x o = H') : Same H H' ∧ H' x = some o := by
  subst e
  exact ⟨fun b v h => by rw [upd_ne (ne_of_none h n), upd_ne (ne_of_none h nd)]; exact h, upd_same⟩
theorem same_sb_new {H H1 H2 : Hp} {x : Addr} (a : Same H H1) (b : SB x H1 H2) (n : H x = none) : Same H H2 := fun c o h => b c o (ne_of_none h n) (a c o h)
/-! ### the head's facts, and a further Bool -/
def obsB (n : Nat) (fa : List He.Fa) (fn : List He.DefD) (ex : PySem.W.Frag → Bool) (g : Addr → Option Obj) : He.AlD :=
  ((He.obsD fa fn (He.frG g (He.asD g n))).1 && ex (He.frG g (He.asD g n)), (He.obsD fa fn (He.frG g (He.asD g n))).2)
def hookB (n : Nat) (fa : List He.Fa) (fn : List He.DefD) (ex : PySem.W.Frag → Bool) : PySem.W.Hook where
  α := He.AlD
  obs := fun s => obsB n fa fn ex s.heap.get?
  val := fun _ => He.valD fn
  says := fun _ h => ∃ K : PySem.W.Frag, K.In h ∧ He.SaysD fa fn K ∧ ex K = true
  of := fun _ s e => by
    refine ⟨He.frG s.heap.get? (He.asD s.heap.get? n), He.frG_in, ?_⟩
    have e1 : ((He.obsD fa fn (He.frG s.heap.get? (He.asD s.heap.get? n))).1 && ex (He.frG s.heap.get? (He.asD s.heap.get? n))) = true := congrArg (fun z : He.AlD => z.1) e
    have e2 : (obsB n fa fn ex s.heap.get?).2 = (He.valD fn).2 := congrArg (fun z : He.AlD => z.2) e
    obtain ⟨h1, h2⟩ := He.ba e1
    exact ⟨Prod.ext h1 e2, h2⟩
  keeps := fun _ _ _ h k => by
    obtain ⟨K, hK, c⟩ := h
    exact ⟨K, PySem.W.Frag.In.keeps hK k, c⟩
theorem obsB_eq {n : Nat} {fa : List He.Fa} {fn : List He.DefD} {ex : PySem.W.Frag → Bool} {g : Addr → Option Obj} {s : Shared} (h : ∀ a, g a = s.heap.get? a) : obsB n fa fn ex g = (hookB n fa fn ex).obs s := by
  have e : g = s.heap.get? := funext h
  subst e
  rfl
/-- what isinstance wants of a class -/
structure IsC (K : PySem.W.Frag) (C : Addr) : Prop where
  cl : PySem.W.findIn K (.ref C) "__class__" = some (some (.builtin "object.__class__"))
  g : PySem.W.specialIn K (.builtin "object.__class__") "__get__" = some (some (.builtin "getset_descriptor.__get__"))
  t : PySem.W.takesIn K (.builtin "object.__class__") = some true
  m : PySem.W.mroIn K C (.type "object") = some true
def isCB (C : Str) (K : PySem.W.Frag) : Bool :=
  decide (PySem.W.findIn K (.ref (He.ga K C)) "__class__" = some (some (.builtin "object.__class__"))) && (decide (PySem.W.specialIn K (.builtin "object.__class__") "__get__" = some (some (.builtin "getset_descriptor.__get__"))) &&
    (decide (PySem.W.takesIn K (.builtin "object.__class__") = some true) && decide (PySem.W.mroIn K (He.ga K C) (.type "object") = some true)))
theorem isCB_ok {C : Str} {K : PySem.W.Frag} (h : isCB C K = true) : IsC K (He.ga K C) := by
  unfold isCB at h
  obtain ⟨h1, h⟩ := He.ba h
  obtain ⟨h2, h⟩ := He.ba h
  obtain ⟨h3, h4⟩ := He.ba h
  exact ⟨of_decide_eq_true h1, of_decide_eq_true h2, of_decide_eq_true h3, of_decide_eq_true h4⟩
def kitB1 (ty : String) (C : Str) (b : Bool) (K : PySem.W.Frag) : Bool := decide (PySem.W.kitOne K (.type ty) (.ref (He.ga K C)) = some b)
def kitB2 (C : Str) (ty : String) (b : Bool) (K : PySem.W.Frag) : Bool := decide (PySem.W.kitOne K (.ref (He.ga K C)) (.type ty) = some b)
def kitB3 (C D : Str) (b : Bool) (K : PySem.W.Frag) : Bool := decide (PySem.W.kitOne K (.ref (He.ga K C)) (.ref (He.ga K D)) = some b)
theorem isi_own {K : PySem.W.Frag} {H : Hp} {a C dx D : Addr} {fs : List (Str × V)} {b : Bool} {Q : VK} (h : H a = some (.ins C dx fs)) (c : Cls K C) (i : IsC K C) (k : PySem.W.kitOne K (.ref C) (.ref D) = some b) (q : Q (.bl b) H) :
    rIsiI K [.ref a, .ref D] H Q := by
  unfold rIsiI; exact ⟨_, _, _, _, b, rfl, .own _, .base (.ins h c i.cl i.g i.t i.m), k, q⟩
theorem none_all {l : List Str} {fs : List (Str × V)} (h : (l.all fun x => (List.lookup x fs).isNone) = true) : ∀ x ∈ l, List.lookup x fs = none := fun x hx => by
  have := List.all_eq_true.mp h x hx
  exact Option.isNone_iff_eq_none.mp this
/-! ### data without bools: == is equality -/
mutual
def nbD : PyData → Bool
  | .none => true
  | .int _ => true
  | .str x => PyData.strOk x
  | .list xs => nbA xs
  | .tuple xs => nbA xs
  | .bool _ => false
  | .dict _ => false
def nbA : List PyData → Bool
  | [] => true
  | x :: xs => nbD x && nbA xs
end
mutual
theorem nb_lay : ∀ d : PyData, nbD d = true → PyData.canLay0 d = true
  | .none, _ => rfl
  | .int _, _ => rfl
  | .str x, h => h
  | .list xs, h => nb_layA xs h
  | .tuple xs, h => nb_layA xs h
  | .bool _, h => by cases h
  | .dict _, h => by cases h
theorem nb_layA : ∀ ds : List PyData, nbA ds = true → PyData.canLayAll0 ds = true
  | [], _ => rfl
  | x :: xs, h => by
    obtain ⟨h1, h2⟩ := He.ba (show (nbD x && nbA xs) = true from h)
    show (PyData.canLay0 x && PyData.canLayAll0 xs) = true
    rw [nb_lay x h1, nb_layA xs h2]
    rfl
end
mutual
theorem eqv_nb : ∀ d e : PyData, nbD d = true → nbD e = true → (PyData.eqv d e = true ↔ d = e)
  | .none, e, _, he => by cases e <;> simp_all [PyData.eqv, nbD]
  | .int i, e, _, he => by cases e <;> simp_all [PyData.eqv, nbD]
  | .str x, e, _, he => by cases e <;> simp_all [PyData.eqv, nbD]
  | .list xs, e, hd, he => by
    cases e with
    | list ys =>
      have k := eqv_nbA xs ys hd he
      constructor
      · intro h
        exact congrArg PyData.list (k.mp (by simpa [PyData.eqv] using h))
      · intro h
        injection h with h
        simpa [PyData.eqv] using k.mpr h
    | _ => simp_all [PyData.eqv, nbD]
  | .tuple xs, e, hd, he => by
    cases e with
    | tuple ys =>
      have k := eqv_nbA xs ys hd he
      constructor
      · intro h
        exact congrArg PyData.tuple (k.mp (by simpa [PyData.eqv] using h))
      · intro h
        injection h with h
        simpa [PyData.eqv] using k.mpr h
    | _ => simp_all [PyData.eqv, nbD]
  | .bool _, _, hd, _ => by cases hd
  | .dict _, _, hd, _ => by cases hd
theorem eqv_nbA : ∀ ds es : List PyData, nbA ds = true → nbA es = true → (PyData.eqvAll ds es = true ↔ ds = es)
  | [], [], _, _ => by simp [PyData.eqvAll]
  | [], _ :: _, _, _ => by simp [PyData.eqvAll]
  | _ :: _, [], _, _ => by simp [PyData.eqvAll]
  | x :: xs, y :: ys, hd, he => by
    obtain ⟨h1, h2⟩ := He.ba (show (nbD x && nbA xs) = true from hd)
    obtain ⟨h3, h4⟩ := He.ba (show (nbD y && nbA ys) = true from he)
    have k1 := eqv_nb x y h1 h3
    have k2 := eqv_nbA xs ys h2 h4
    simp only [PyData.eqvAll, Bool.and_eq_true, List.cons.injEq, k1, k2]
end
/-- d, without bools, not deep -/
def NB (d : PyData) : Prop := nbD d = true ∧ PyData.depth d ≤ 64
@[irreducible] def rEqN (K : PySem.W.Frag) : R2 := fun x y H Q => ∃ d e, Dp K H x d ∧ Dp K H y e ∧ NB d ∧ NB e ∧ ∀ b, (b = true ↔ d = e) → Q (.bl b) H
@[irreducible] def rNeN (K : PySem.W.Frag) : R2 := fun x y H Q => ∃ d e, Dp K H x d ∧ Dp K H y e ∧ NB d ∧ NB e ∧ ∀ b, (b = true ↔ ¬ d = e) → Q (.bl b) H
theorem NB.sh {d : PyData} (h : NB d) : SeqAt.shaped d = true := by
  unfold SeqAt.shaped
  rw [nb_lay d h.1, decide_eq_true h.2]
  rfl
theorem op_eqN {X : Cx} (hu : X.A.units + 64 < cLine) : OpR X (compareOp .Eq) (rEqN X.K) := by
  intro pins s σ H x y v u Q I rx ry h
  unfold rEqN at h
  obtain ⟨d, e, hd, he, n1, n2, q⟩ := h
  exact op_eqD hu pins s σ H x y v u Q I rx ry ⟨d, e, hd, he, n1.sh, n2.sh, q _ (eqv_nb d e n1.1 n2.1)⟩
theorem op_neN {X : Cx} (hu : X.A.units + 64 < cLine) : OpR X (compareOp .NotEq) (rNeN X.K) := by
  intro pins s σ H x y v u Q I rx ry h
  unfold rNeN at h
  obtain ⟨d, e, hd, he, n1, n2, q⟩ := h
  refine op_neD hu pins s σ H x y v u Q I rx ry ⟨d, e, hd, he, n1.sh, n2.sh, q _ ?_⟩
  have k := eqv_nb d e n1.1 n2.1
  cases hb : PyData.eqv d e with
  | true => rw [hb] at k; simp [k.mp rfl]
  | false => rw [hb] at k; simp at k; simp [k]
theorem use_eqN {K : PySem.W.Frag} {H : Hp} {x y : V} {d e : PyData} {Q : VK} (hx : Dp K H x d) (hy : Dp K H y e) (n1 : NB d) (n2 : NB e) (q : ∀ b, (b = true ↔ d = e) → Q (.bl b) H) : rEqN K x y H Q := by unfold rEqN; exact ⟨d, e, hx, hy, n1, n2, q⟩
theorem use_neN {K : PySem.W.Frag} {H : Hp} {x y : V} {d e : PyData} {Q : VK} (hx : Dp K H x d) (hy : Dp K H y e) (n1 : NB d) (n2 : NB e) (q : ∀ b, (b = true ↔ ¬ d = e) → Q (.bl b) H) : rNeN K x y H Q := by unfold rNeN; exact ⟨d, e, hx, hy, n1, n2, q⟩
/-! lists of pyi as data -/
def pyi (xs : List Int) : List PyData := xs.map PyData.int
theorem dp_pyi {K : PySem.W.Frag} {H : Hp} : ∀ xs : List Int, DpAll K H (xs.map V.int) (pyi xs)
  | [] => .nil
  | x :: xs => .cons (.int x) (dp_pyi xs)
theorem nb_ints : ∀ xs : List Int, nbA (pyi xs) = true
  | [] => rfl
  | x :: xs => by
    show (nbD (.int x) && nbA (pyi xs)) = true
    rw [nb_ints xs]
    rfl
theorem dep_ints : ∀ xs : List Int, PyData.depthAll (pyi xs) = 0
  | [] => rfl
  | x :: xs => by
    show max (PyData.depth (.int x)) (PyData.depthAll (pyi xs)) = 0
    rw [dep_ints xs]
    rfl
theorem nb_list (xs : List Int) : NB (.list (pyi xs)) := ⟨nb_ints xs, by show PyData.depthAll (pyi xs) + 1 ≤ 64; rw [dep_ints]; decide⟩
theorem nb_tup (xs : List Int) : NB (.tuple (pyi xs)) := ⟨nb_ints xs, by show PyData.depthAll (pyi xs) + 1 ≤ 64; rw [dep_ints]; decide⟩
theorem ints_inj {xs ys : List Int} (h : pyi xs = pyi ys) : xs = ys := by
  have := congrArg (fun z : List PyData => z.map fun d => match d with | .int i => i | _ => 0) h
  simpa [pyi, List.map_map, Function.comp_def] using this
theorem list_ints {xs ys : List Int} : PyData.list (pyi xs) = PyData.list (pyi ys) ↔ xs = ys := ⟨fun h => ints_inj (by injection h), fun h => by rw [h]⟩
theorem tup_ints {xs ys : List Int} : PyData.tuple (pyi xs) = PyData.tuple (pyi ys) ↔ xs = ys := ⟨fun h => ints_inj (by injection h), fun h => by rw [h]⟩
/-! ### the rules, the written part named (a comprehension's block has the def's) -/
section
variable {X : Cx} {K : PySem.W.Frag}
theorem ix_listK (h : X.K = K := by rfl) : IxR X (rIxL K) := h ▸ ix_list
theorem ix_tupK (h : X.K = K := by rfl) : IxR X (rIxT K) := h ▸ ix_tup
def rLenN (K : PySem.W.Frag) : List V → Hp → VK → Prop := fun xs H Q => ∃ p ys, xs = [.ref p] ∧ (SqL K H p ys ∨ SqT K H p ys) ∧ Q (.int ys.length) H
theorem call_lenK (h : X.K = K := by rfl) : CallR X (.builtin "len") (rLenN K) := h ▸ call_len_seq
def rListN (K : PySem.W.Frag) : List V → Hp → VK → Prop := fun xs H Q => ∃ p ys, xs = [.ref p] ∧ (SqL K H p ys ∨ SqT K H p ys) ∧ ∀ l, H l = none → Q (.ref l) (upd H l (.lst ys))
theorem call_listK (h : X.K = K := by rfl) : CallR X (.type "list") (rListN K) := h ▸ call_list_of
def rTupN (K : PySem.W.Frag) : List V → Hp → VK → Prop := fun xs H Q => ∃ p ys, xs = [.ref p] ∧ ((SqL K H p ys ∧ ∀ l, H l = none → Q (.ref l) (upd H l (.tup ys))) ∨ (SqT K H p ys ∧ Q (.ref p) H))
theorem call_tupK (h : X.K = K := by rfl) : CallR X (.type "tuple") (rTupN K) := h ▸ call_tuple_of
theorem op_catSK (h : X.K = K := by rfl) : OpR X (binaryOp .Add) (rCatS K) := h ▸ op_catS
theorem op_inK (h : X.K = K := by rfl) : OpR X (compareOp .In) (rIn K false) := h ▸ op_in_seq
theorem op_notInK (h : X.K = K := by rfl) : OpR X (compareOp .NotIn) (rIn K true) := h ▸ op_notIn_seq
theorem op_eqNK (hu : X.A.units + 64 < cLine) (h : X.K = K := by rfl) : OpR X (compareOp .Eq) (rEqN K) := h ▸ op_eqN hu
theorem op_neNK (hu : X.A.units + 64 < cLine) (h : X.K = K := by rfl) : OpR X (compareOp .NotEq) (rNeN K) := h ▸ op_neN hu
theorem sl_listK (h : X.K = K := by rfl) : SlR X (rSlL K) := h ▸ sl_list
theorem sl_tupK (h : X.K = K := by rfl) : SlR X (rSlT K) := h ▸ sl_tup
theorem cr_sumK (hc : X.calm = true) (h : X.K = K := by rfl) : CallR X (.builtin "sum") (rSum K) := h ▸ cr_sum hc
theorem cr_maxK (hc : X.calm = true) (h : X.K = K := by rfl) : CallR X (.builtin "max") (rMax K) := h ▸ cr_max hc
theorem cr_minK (hc : X.calm = true) (h : X.K = K := by rfl) : CallR X (.builtin "min") (rMin K) := h ▸ cr_min hc
theorem call_isiK2 (h : X.K = K := by rfl) : CallR X (.builtin "isinstance") (rIsiI K) := h ▸ call_isiI
theorem pe_fldK {e : Expr} {ta : TE} {f : Str} {pos : Pos} (he : PE X e ta) (hb : attributeBase e f X.env (eval e X.env) = eval e X.env) (h : X.K = K := by rfl) : PE X (.Attribute e f pos) (tFld K ta f) := h ▸ pe_fld he hb
end
end KR
namespace KR
open PySem PySem.Spec PyProof.Rows L2
/-! ### ranges of any size, by ones -/
theorem turn_long {P : Program} {w : World} {K : PySem.W.Frag} {tg : Expr} (j : Addr) (lo : Int) (n : Nat) : Turn P w K tg (Itr lo n) [j] j (fun i h => IsLongIter h j (lo + (i : Nat) * 1) ((n : Int) - (i : Nat)) 1) where
  mem := List.mem_singleton.mpr rfl
  obj := fun i h q b hb => by
    rw [List.mem_singleton.mp hb]
    exact ⟨_, q, fun v z => by
      have y : Data.fields _ = Data.cell v := z
      cases y⟩
  keep := fun i h h' q k => k j (List.mem_singleton.mpr rfl) _ q
  item := by
    intro Y e1 e2 e3 hc i pins s σ H E I fp q g
    subst e1 e2 e3
    obtain ⟨a0, a1, a2, a3, a4, a5⟩ := fp j (List.mem_singleton.mpr rfl)
    refine (Walks.longrange (prog := Y.prog) (w := Y.w) (I.ok.hd hc) j lo 1 n).item i s _ _ g q fun v h' tk hv q' kk => ?_
    obtain ⟨t, rfl⟩ := hv
    have J : Inv Y pins σ H { s with heap := h', toks := tk } := I.turned (fun b o hb e => kk b o (by simpa using hb) e) a0 a1 a3 a4 a5
    exact ⟨_, rfl, go_of (s := { s with heap := h', toks := tk }) (n := "longrange_iterator") q' rfl rfl (by decide) ⟨.int (lo + i), H, J, ⟨t, by rw [Int.mul_one]⟩, ⟨rfl, rfl⟩, q', fun b hb => (fp b hb).1⟩⟩
  done := by
    intro Y e1 e2 e3 hc i pins s σ H E I fp q g
    subst e1 e2 e3
    obtain ⟨a0, a1, a2, a3, a4, a5⟩ := fp j (List.mem_singleton.mpr rfl)
    have hle : n ≤ i := g
    exact wpAny_pyNext_long_end (I.ok.hd hc) q (by omega) fun h' eb => ⟨rfl, I.turned (t' := s.toks) (fun b o hb e => eb b o hb e) a0 a1 a3 a4 a5⟩
  self := fun _ _ _ _ _ q h => wpAny_pyIter_longiter q h
section
variable {X : Cx} {tg : Expr}
theorem long_it {pins : List (Addr × Obj)} {σ : L2.St} {H : Hp} {s : Shared} {R : It → Hp → Prop} {E : Value → Shared → Prop} {lo hi : Int} {t u v : Tok} {tk : Nat} (I : Inv X pins σ H s) (hb : Builtin.Range.small lo hi 1 = false)
    (q : R (Itr lo (hi - lo).toNat) H) : wpAny (model X.prog X.w) X.A (pyIter (.ref s.heap.objs.size)) (PIE X pins σ tg R) E { s with heap := s.heap.push { cls := .type "range", data := .fields #[.int lo t, .int hi u, .int 1 v] }, toks := tk } := by
  refine wpAny_pyIter_longrange (IsRange.new ..) hb ?_
  have J := I.kept (h' := s.heap.push { cls := .type "range", data := .fields #[.int lo t, .int hi u, .int 1 v] }) (t' := tk) fun b o e => Heap.get?_push_of_some _ e
  refine ⟨_, [_], _, _, H, rfl, J.kept (t' := tk) fun b o e => Heap.get?_push_of_some _ e, turn_long _ lo (hi - lo).toNat, ?_, fun b hb => ?_, q⟩
  · have f1 : lo + ((0 : Nat) : Int) * 1 = lo := by simp
    have f2 : (((hi - lo).toNat : Nat) : Int) - ((0 : Nat) : Int) = Builtin.Range.rangeSize lo hi 1 := by
      rw [rangeSize_one]
      split <;> omega
    show IsLongIter _ _ (lo + ((0 : Nat) : Int) * 1) ((((hi - lo).toNat : Nat) : Int) - ((0 : Nat) : Int)) 1
    rw [f1, f2]
    exact Heap.get?_push_size _ rfl
  · rw [List.mem_singleton.mp hb]
    exact J.fpOk (Nat.le_refl _) (J.hok.fresh (Nat.le_refl _))
/-- small with the bounds that the library's rule wants, or any size -/
theorem any_it {pins : List (Addr × Obj)} {σ : L2.St} {H : Hp} {s : Shared} {R : It → Hp → Prop} {E : Value → Shared → Prop} {lo hi : Int} {t u v : Tok} {tk : Nat} (I : Inv X pins σ H s)
    (q : R (Itr lo (hi - lo).toNat) H) : wpAny (model X.prog X.w) X.A (pyIter (.ref s.heap.objs.size)) (PIE X pins σ tg R) E { s with heap := s.heap.push { cls := .type "range", data := .fields #[.int lo t, .int hi u, .int 1 v] }, toks := tk } := by
  cases hb : Builtin.Range.small lo hi 1 with
  | false => exact long_it I hb q
  | true =>
    refine wpAny_pyIter_range (IsRange.new ..) hb ?_
    have J := I.kept (h' := s.heap.push { cls := .type "range", data := .fields #[.int lo t, .int hi u, .int 1 v] }) (t' := tk) fun b o e => Heap.get?_push_of_some _ e
    refine ⟨_, [_], _, _, H, rfl, J.kept (t' := tk) fun b o e => Heap.get?_push_of_some _ e, turn_range _ lo (hi - lo).toNat, ?_, fun b hb => ?_, q⟩
    · have f1 : lo + ((0 : Nat) : Int) * 1 = lo := by simp
      have f2 : (((hi - lo).toNat : Nat) : Int) - ((0 : Nat) : Int) = Builtin.Range.rangeSize lo hi 1 := by
        rw [rangeSize_one]
        split <;> omega
      show IsRangeIter _ _ (lo + ((0 : Nat) : Int) * 1) ((((hi - lo).toNat : Nat) : Int) - ((0 : Nat) : Int)) 1
      rw [f1, f2]
      exact Heap.get?_push_size _ rfl
    · rw [List.mem_singleton.mp hb]
      exact J.fpOk (Nat.le_refl _) (J.hok.fresh (Nat.le_refl _))
def iRngB (ta : TA) : TI := fun σ H R => ta σ H fun vs H1 => ∃ i j : Int, vs = [.int i, .int j] ∧ R (Itr i (j - i).toNat) H1
theorem pi_rangeB {a b : Expr} {ta : TA} {p pos : Pos} (hg : Gl X "range") (hm : X.mg "range" = none) (ha : PA X [a, b] ta) (hs : starEach [a, b] X.env = [(false, eval a X.env), (false, eval b X.env)] := by rfl) (hs2 : starEach [b] X.env = [(false, eval b X.env)] := by rfl) :
    PI X tg (.Call (.Name "range" p) [a, b] [] pos) (iRngB ta) := by
  refine ⟨fun pins s σ H R I h => ?_⟩
  refine Call_ (ld_blt I hg hm boot_range (PyProof.Rows.callWith_type1 (thn (ha.run pos pins s σ H _ I h) fun us s1 z => ?_) (by rw [hs, hs2]) (by rw [hs2]; rfl)))
  obtain ⟨vs, H1, I1, r1, i, j, e, q⟩ := z
  subst e
  obtain ⟨u1, u2, e, ⟨t, e1⟩, ⟨t', e2⟩⟩ := vals2 r1
  subst e e1 e2
  exact call_range_2 (any_it I1 q)
end
end KR
namespace PySem.W
open PySem PySem.Calls PyProof.Rows Builtin
section
variable {prog : Program} {w : World} {A : Around} {E : Value → Shared → Prop} {s : Shared} {K : Frag} {x C L f : Addr} {h₀ : Heap} {m : Str → Option Value} {ox : Obj} {od : Option Obj} {b tb : Value}
/-- != of an instance whose class has its own __eq__ and object's __ne__ -/
theorem ne_own {Q : Value → Shared → Prop} (hu : A.units + 1 < cLine) (X : K.In s.heap) (I : InstAt s.heap x ox C od) (hb : Looks (model prog w) s.heap (typeOf b) tb) (hn : notFirst K C tb = true)
    (hs : findIn K (.ref C) "__eq__" = some (some (.ref f))) (hf : isFn K (.ref f) = true) (hne : findIn K (.ref C) "__ne__" = some (some (.builtin "object.__ne__"))) (hob : mroIn K C (.type "object") = some true)
    (h : wpAny (model prog w) A.in1 (call (.ref f) [.ref x, b]) (fun v s' => ∃ r, v = .bool r ∧ Q (.bool (!r)) s') E s) : wpAny (model prog w) A (richCompare .NotEq (.ref x) b) Q E s := by
  have S : Slot "object" "__ne__" "object.__ne__" := F.cmp_object.ne
  have body : wpAny (model prog w) A.in1 (Builtin.«object.__ne__» ⟨[.ref x, b], []⟩) (fun fin s' => match fin with | .done g => wants (fun v s' => ∃ r, v = .bool r ∧ Q v s') E (.ok g) s' | .again c' => c'.quiet = true ∧ codeAny (model prog w) A c' (wants (fun v s' => ∃ r, v = .bool r ∧ Q v s') E) s') (fun e s' => wants (fun v s' => ∃ r, v = .bool r ∧ Q v s') E (.error e) s') s := by
    unfold Builtin.«object.__ne__»
    have hu1 : A.in1.units < cLine := hu
    refine wpAny_bind (wpAny_pure ?_)
    refine wpAny_bind (wpAny_cRoomFor hu1 ?_)
    refine wpAny_bind (ifBound_K X I hs hf (wpAny_mono h (fun v s' hv => ?_) fun _ _ e => e))
    obtain ⟨r, rfl, q⟩ := hv
    dsimp only
    refine wpAny_bind (wpAny_truthy_bool ?_)
    exact wpAny_pure ⟨_, rfl, q⟩
  have one : wpAny (model prog w) A (tryCompare (.ref x) "__ne__" b) (fun r s' => ∃ v, r = some v ∧ Q v s') E s := by
    unfold tryCompare
    refine wpAny_bind ?_
    simp only [callSpecialIfBound?, bindSpecialIfBound?]
    refine wpAny_holding (wpAny_bind (wpAny_bind (wpAny_bind (I.type.here ((looks_findIn X hne).here ?_)))))
    simp only [S.bind]
    refine wpAny_bind (wpAny_askSetting (wpAny_ite ?_))
    have hcall : wpAny (model prog w) A (call (.builtin "object.__ne__") [.ref x, b]) (fun v s' => ∃ r, v = .bool r ∧ Q v s') E s := by
      refine wpAny_call (codeAny_call_builtin S.plain F.cmpEntry_ne (check_slot F.cmpKind_ne F.cmpSplit_ne (I.type.andThen (looks_mroIn X hob)) (F.cmpArgs_ne _ _) body))
    have fin : wpAny (model prog w) A (call (.builtin "object.__ne__") ([.ref x] ++ [b]) >>= fun v => pure (some v)) (fun (r : Option Value) s' => wpAny (model prog w) A (match r with | some .notImplemented | none => pure none | some v => pure (some v)) (fun r s' => ∃ v, r = some v ∧ Q v s') E s') E s := by
      refine wpAny_bind (wpAny_mono hcall (fun v s' h' => ?_) fun _ _ h' => h')
      obtain ⟨r, rfl, q⟩ := h'
      exact wpAny_pure (wpAny_pure ⟨_, rfl, q⟩)
    split
    · exact wpAny_bind (wpAny_pure (wpAny_pure fin))
    · exact wpAny_tryCatch (wpAny_bind (wpAny_pure (wpAny_pure fin)))
  have hu0 : A.units < cLine := Nat.lt_of_succ_lt hu
  unfold richCompare
  simp only [oneThing_ref]
  refine wpAny_holding (wpAny_bind (wpAny_cRoomFor hu0 ?_))
  refine wpAny_bind (I.type.here (wpAny_bind (hb.here ?_)))
  split
  · rename_i q
    have e : subIn K tb (.ref C) = some false := by
      rcases Bool.or_eq_true_iff.mp hn with e | e
      · rw [beq_iff_eq.mp e] at q; simp at q
      · exact beq_iff_eq.mp e
    refine wpAny_bind ((looks_subIn X e).here ?_)
    simp only [Bool.false_eq_true, if_false]
    refine wpAny_bind (wpAny_mono one (fun r s' z => ?_) fun _ _ e => e)
    obtain ⟨v, rfl, hq⟩ := z
    exact wpAny_pure hq
  · refine wpAny_bind (wpAny_pure ?_)
    simp only [Bool.false_eq_true, if_false]
    refine wpAny_bind (wpAny_mono one (fun r s' z => ?_) fun _ _ e => e)
    obtain ⟨v, rfl, hq⟩ := z
    exact wpAny_pure hq
end
end PySem.W
namespace KR
open PySem PySem.Spec PyProof.Rows L2
/-- what == by an own __eq__ wants of the class -/
structure EqC (K : PySem.W.Frag) (C : Addr) : Prop where
  nf : ∀ t ∈ (["int", "NoneType", "bool", "str", "list", "tuple", "dict"] : List String), PySem.W.notFirst K C (.type t) = true
  ne : PySem.W.findIn K (.ref C) "__ne__" = some (some (.builtin "object.__ne__"))
  ob : PySem.W.mroIn K C (.type "object") = some true
def eqCB (C : Str) (K : PySem.W.Frag) : Bool :=
  ((["int", "NoneType", "bool", "str", "list", "tuple", "dict"] : List String).all fun t => PySem.W.notFirst K (He.ga K C) (.type t)) &&
    (decide (PySem.W.findIn K (.ref (He.ga K C)) "__ne__" = some (some (.builtin "object.__ne__"))) && decide (PySem.W.mroIn K (He.ga K C) (.type "object") = some true))
theorem eqCB_ok {C : Str} {K : PySem.W.Frag} (h : eqCB C K = true) : EqC K (He.ga K C) := by
  unfold eqCB at h
  obtain ⟨h1, h⟩ := He.ba h
  obtain ⟨h2, h3⟩ := He.ba h
  exact ⟨fun t ht => List.all_eq_true.mp h1 t ht, of_decide_eq_true h2, of_decide_eq_true h3⟩
/-- the other side: a plain value, a list, a tuple or an instance of the same class -/
def OthV (K : PySem.W.Frag) (C : Addr) (H : Hp) : V → Prop
  | .int _ | .non | .bl _ | .str _ => True
  | .ref b => (∃ xs, SqL K H b xs) ∨ (∃ xs, SqT K H b xs) ∨ ∃ dx fs, H b = some (.ins C dx fs)
  | _ => False
theorem OthV.looks {X : Cx} {C : Addr} {pins : List (Addr × Obj)} {s : Shared} {σ : L2.St} {H : Hp} {y : V} {u : Value} (ec : EqC X.K C) (I : Inv X pins σ H s) (o : OthV X.K C H y) (r : RelV y u) :
    ∃ tb, PySem.W.Looks (model X.prog X.w) s.heap (typeOf u) tb ∧ PySem.W.notFirst X.K C tb = true := by
  cases y with
  | non => cases r; exact ⟨_, .now, ec.nf "NoneType" (by decide)⟩
  | bl i => cases r; exact ⟨_, .now, ec.nf "bool" (by decide)⟩
  | int i => obtain ⟨t, rfl⟩ := r; exact ⟨_, .now, ec.nf "int" (by decide)⟩
  | str i => obtain ⟨t, rfl⟩ := r; exact ⟨_, .now, ec.nf "str" (by decide)⟩
  | ref b =>
    cases r
    rcases o with ⟨xs, h⟩ | ⟨xs, h⟩ | ⟨dx, fs, h⟩
    · obtain ⟨its, _, ⟨o, n, ho, hc, _⟩, _⟩ := I.list h
      exact ⟨_, by rw [← hc]; exact (PySem.W.Looks.ld ho).andThen .now, ec.nf "list" (by decide)⟩
    · obtain ⟨its, _, ⟨o, ho, hc, _⟩, _⟩ := I.tuple h
      exact ⟨_, by rw [← hc]; exact (PySem.W.Looks.ld ho).andThen .now, ec.nf "tuple" (by decide)⟩
    · obtain ⟨m, J, _⟩ := ins_get I.hok h
      obtain ⟨od, J, _⟩ := J.look
      exact ⟨.ref C, J.type, by simp [PySem.W.notFirst]⟩
  | _ => exact absurd o (by intro z; exact z)
/-- x == y, x != y by the own __eq__ with the promise sp -/
@[irreducible] def rEqO (K : PySem.W.Frag) (C : Addr) (sp : Sp) (E : XK) : R2 := fun x y H Q => ∃ a dx fs, x = .ref a ∧ H a = some (.ins C dx fs) ∧ OthV K C H y ∧ sp [x, y] H (fun v H' => ∃ b, v = .bl b ∧ Q (.bl b) H') E
@[irreducible] def rNeO (K : PySem.W.Frag) (C : Addr) (sp : Sp) (E : XK) : R2 := fun x y H Q => ∃ a dx fs, x = .ref a ∧ H a = some (.ins C dx fs) ∧ OthV K C H y ∧ sp [x, y] H (fun v H' => ∃ b, v = .bl b ∧ Q (.bl (!b)) H') E
theorem use_eqO {K : PySem.W.Frag} {C : Addr} {sp : Sp} {E : XK} {a dx : Addr} {fs : List (Str × V)} {y : V} {H : Hp} {Q : VK} (h : H a = some (.ins C dx fs)) (o : OthV K C H y) (k : sp [.ref a, y] H (fun v H' => ∃ b, v = .bl b ∧ Q (.bl b) H') E) : rEqO K C sp E (.ref a) y H Q := by
  unfold rEqO; exact ⟨a, dx, fs, rfl, h, o, k⟩
theorem use_neO {K : PySem.W.Frag} {C : Addr} {sp : Sp} {E : XK} {a dx : Addr} {fs : List (Str × V)} {y : V} {H : Hp} {Q : VK} (h : H a = some (.ins C dx fs)) (o : OthV K C H y) (k : sp [.ref a, y] H (fun v H' => ∃ b, v = .bl b ∧ Q (.bl (!b)) H') E) : rNeO K C sp E (.ref a) y H Q := by
  unfold rNeO; exact ⟨a, dx, fs, rfl, h, o, k⟩
section
variable {X : Cx} {CX : CXT} {C f : Addr} {fd : FuncData} {ps : List Str} {sp : Sp} {E : XK} {k : Nat}
theorem run_own {A : Around} {pins : List (Addr × Obj)} {σ : L2.St} {H : Hp} {s : Shared} {Q : VK} {us : List Value} {vs : List V} (hA : A.frames = X.A.frames) (F : FnOk X.prog X.w X.K X.mg X.base CX k f fd ps sp) (hr : Room k A) (hb : Binds X.K fd ps []) (hx : Passes CX X E)
    (I : Inv X pins σ H s) (r : Vals vs us) (h : sp vs H Q E) : wpAny (model X.prog X.w) A (call (.ref f) us) (EP X pins σ Q) X.xe s := by
  have hl : us.length = ps.length := by rw [← r.length]; exact F.len _ _ _ _ h
  have e0 : Env0 X.prog X.w X.K X.mg X.base A X.stack s H := by
    have e := I.env0
    exact ⟨by rw [hA]; exact e.frames, e.mod, e.bs, e.bsz, e.funs, e.frf, e.hok, e.bare⟩
  refine wpAny_call (codeAny_mono (F.run A X.stack s H ⟨us, []⟩ us vs Q E hr e0 (by
    have := hb s us I.kIn (by simpa using hl)
    simpa using this) r h) fun r s' hq => ?_)
  cases r with
  | error e => exact hx pins σ H s e s' I hq
  | ok fl =>
    cases fl with
    | ret u => exact I.after hq
    | next => exact False.elim hq
    | brk => exact False.elim hq
    | cont => exact False.elim hq
theorem op_eqO (F : FnOk X.prog X.w X.K X.mg X.base CX k f fd ps sp) (hm : Meth X.K C "__eq__" f) (ec : EqC X.K C) (hr : Room k X.A) (hb : Binds X.K fd ps []) (hx : Passes CX X E) : OpR X (compareOp .Eq) (rEqO X.K C sp E) := by
  intro pins s σ H x y v u Q I rx ry hq
  unfold rEqO at hq
  obtain ⟨a, dx, fs, rfl, ha, o, q⟩ := hq
  cases rx
  obtain ⟨mA, J, _⟩ := ins_get I.hok ha
  obtain ⟨od, J, _⟩ := J.look
  obtain ⟨tb, hl, hn⟩ := o.looks ec I ry
  obtain ⟨m, hF⟩ := I.fr
  show wpAny (model X.prog X.w) X.A (richCompare .Eq (.ref a) u) (EP X pins σ Q) X.xe s
  refine PySem.W.cmp_K (op := .Eq) hr.units0 hF I.ok.mod.kin J hl hn hm.at_ hm.fn ?_
  refine wpAny_mono (run_own rfl F hr hb hx I (.cons (show RelV (.ref a) (.ref a) from rfl) (.cons ry .nil)) q) (fun r s' hq => ?_) fun _ _ e => e
  obtain ⟨w, H', I', rw', b, rfl, q⟩ := hq
  cases rw'
  exact ⟨.bl b, H', I', rfl, q⟩
theorem op_neO (F : FnOk X.prog X.w X.K X.mg X.base CX k f fd ps sp) (hm : Meth X.K C "__eq__" f) (ec : EqC X.K C) (hr : Room (k + 1) X.A) (hb : Binds X.K fd ps []) (hx : Passes CX X E) : OpR X (compareOp .NotEq) (rNeO X.K C sp E) := by
  intro pins s σ H x y v u Q I rx ry hq
  unfold rNeO at hq
  obtain ⟨a, dx, fs, rfl, ha, o, q⟩ := hq
  cases rx
  obtain ⟨mA, J, _⟩ := ins_get I.hok ha
  obtain ⟨od, J, _⟩ := J.look
  obtain ⟨tb, hl, hn⟩ := o.looks ec I ry
  show wpAny (model X.prog X.w) X.A (richCompare .NotEq (.ref a) u) (EP X pins σ Q) X.xe s
  refine PySem.W.ne_own hr.in1.units0 I.kIn J hl hn hm.at_ hm.fn ec.ne ec.ob ?_
  refine wpAny_mono (run_own rfl F hr.in1 hb hx I (.cons (show RelV (.ref a) (.ref a) from rfl) (.cons ry .nil)) q) (fun r s' hq => ?_) fun _ _ e => e
  obtain ⟨w, H', I', rw', b, rfl, q⟩ := hq
  cases rw'
  exact ⟨b, rfl, .bl (!b), H', I', rfl, q⟩
end
end KR
namespace L2
open PySem PySem.Spec PyProof.Rows
section
variable {P : Program} {w : World} {A : Around} {R : Result → Shared → Prop} {I : Addr} {fp wr : List Addr} {G : Array GenState → Array GenState → Prop} {n : Nat} {Pv : Nat → Value → Prop} {St : Nat → Shared → Prop}
/-- the set at a holds what has come of ns -/
def SetSo (w : World) (h : Heap) (a : Addr) (ns : List Int) (i : Nat) : Prop := ∃ m, m ≤ i ∧ SetR w h a (fun k => decide (k ∈ ns.take i)) m
theorem set_loopR (W : WalksS P w A.in1 I fp wr G n Pv St) (S : Addr) (hSf : S ∉ fp) (ns : List Int) (hl : ns.length = n) (hval : ∀ i v, Pv i v → ∃ t, v = .int (ns.getD i 0) t) (hb : n + 1 < scanBound) :
    ∀ (k i : Nat) (s : Shared), n - i = k → i ≤ n → St i s → SetSo w s.heap S ns i → (∀ s', Moved (S :: wr) G s s' → SetSo w s'.heap S ns n → R (.ok (.ret .none)) s') →
      codeAny (model P w) A (.builtin "set.update.loop" ⟨[.ref S, .ref I], []⟩) R s := by
  have hSw : S ∉ wr := fun h => hSf (W.sub _ h)
  have hsub : ∀ b ∈ wr, b ∈ S :: wr := fun b hb => List.mem_cons_of_mem _ hb
  intro k
  induction k with
  | zero =>
    intro i s hk hi hst hS hR
    obtain rfl : i = n := by omega
    refine codeAny_builtin F.entry_set_update_loop ?_
    rw [Around.under_plainId F.plain_set_update_loop _]
    show wpAny _ A.in1 (pyNext (.ref I) >>= _) _ _ s
    refine wpAny_bind (W.done s _ _ hst fun s' hm => ?_)
    refine wpAny_pure (hR s' (hm.mono hsub) ?_)
    obtain ⟨m, hm1, r⟩ := hS
    exact ⟨m, hm1, r.at fun o ho => hm.heap S _ hSw ho⟩
  | succ k ih =>
    intro i s hk hi hst hS hR
    have hlt : i < n := by omega
    refine codeAny_builtin F.entry_set_update_loop ?_
    rw [Around.under_plainId F.plain_set_update_loop _]
    show wpAny _ A.in1 (pyNext (.ref I) >>= _) _ _ s
    refine wpAny_bind (W.item i s _ _ hlt hst fun v s' hP hst' hm => ?_)
    obtain ⟨t, rfl⟩ := hval i v hP
    obtain ⟨m, hm1, r⟩ := hS
    have r' := r.at (h' := s'.heap) fun o ho => hm.heap S _ hSw ho
    refine wpAny_bind (wpAny_holding ?_)
    unfold setAdd
    refine wpAny_holding ?_
    refine wpAny_bind ((intKind P w).pyHash (k := ns.getD i 0) (intKind_is _ _ _ _) ?_)
    refine setR_add_hashed (s := { s' with toks := s'.toks + 1 }) r' (by omega) fun h' hsb r2 => ?_
    have rS : SetSo w h' S ns (i + 1) := by
      refine ⟨_, ?_, r2.congr fun j => ?_⟩
      · split <;> omega
      · have hi' : i < ns.length := by omega
        have e : ns.take (i + 1) = ns.take i ++ [ns.getD i 0] := by
          rw [List.take_add_one, List.getD_eq_getElem?_getD, List.getElem?_eq_getElem hi']
          rfl
        show decide (j ∈ ns.take (i + 1)) = (decide (j ∈ ns.take i) || decide (j = ns.getD i 0))
        rw [e, Bool.eq_iff_iff, Bool.or_eq_true, decide_eq_true_eq, decide_eq_true_eq, decide_eq_true_eq, List.mem_append, List.mem_singleton]
    refine wpAny_pure ⟨plainId_quiet F.plain_set_update_loop _, ih (i + 1) _ (by omega) hlt (W.frame _ s' _ _ hst' (Nat.le_succ _) fun b hb o e => ?_) rS fun s'' hm'' hS'' => ?_⟩
    · rw [hsb.2 b (fun h : b = S => hSf (by rw [← h]; exact hb))]; exact e
    · refine hR s'' (Moved.trans W.gtrans ((hm.mono hsub).then_heap (Nat.le_succ _) fun b o hb e => ?_) hm'') hS''
      rw [hsb.2 b (fun h : b = S => hb (by rw [h]; exact List.mem_cons_self))]; exact e
end
section
variable {P : Program} {w : World} {A : Around} {E : Value → Shared → Prop} {s : Shared}
theorem code_set_led1 (a : Value) {Q₁ : Value → Shared → Prop}
    (h : Q₁ (.ref s.heap.objs.size) { s with heap := s.heap.push { cls := .type "set", dict := none, data := .set #[] 0 (.fresh 0 0 (!w.params.followText "set-order")) } }) :
    codeAny (model P w) A (.call (.builtin "set.__new__") ⟨[.type "set", a], []⟩) (wants Q₁ E) s := by
  refine codeAny_of_tree ?_
  show wpAny _ A.in1 (do checkBuiltinCall "set.__new__" ⟨[.type "set", a], []⟩; again (.builtin "set.__new__" ⟨[.type "set", a], []⟩)) _ _ s
  refine wpAny_bind (wpAny_of_eq (F.newCall_set_1 a) (wpAny_pure ⟨plainId_quiet F.plain_set_new _, codeAny_builtin F.entry_set_new ?_⟩))
  rw [Around.under_plainId F.plain_set_new _]
  unfold Builtin.«set.__new__» Builtin.Frozenset.newClass
  have hsub := sub_set_self
  obtain ⟨hp, g, d, tk, os⟩ := s
  dsimp only
  wp_walk
  refine wpAny_askSetting (wpAny_pure ?_)
  dsimp only
  simp only [newObj]
  refine wpAny_bind (wpAny_alloc (wpAny_pure ?_))
  exact wpAny_pure h
set_option maxHeartbeats 8000000 in
set_option maxRecDepth 100000 in
theorem setR_list {l : Addr} {items : Array Value} {ns : List Int} {Q : Value → Shared → Prop} (hh : A.handled = none) (hl : s.heap.IsList l items) (hi : IntsAre items.toList ns) (hb : items.size + 1 < scanBound)
    (h : ∀ (h' : Heap) (tk : Nat), SetSo w h' s.heap.objs.size ns items.size → (∀ b o, b < s.heap.objs.size → s.heap.get? b = some o → h'.get? b = some o) → Q (.ref s.heap.objs.size) { s with heap := h', toks := tk }) :
    wpAny (model P w) A (call (.type "set") [.ref l]) Q E s := by
  obtain ⟨c, tl, hmro⟩ := F.called_set.mro
  have hmade := F.called_set.made
  have hsub := F.called_set.sub
  refine wpAny_call (codeAny_of_tree ?_)
  show wpAny _ _ (callAny (.type "set") _) _ _ _
  refine wpAny_pure ⟨Code.quiet_builtin _ (by decide +kernel), codeAny_builtin F.entry_type_call ?_⟩
  rw [Around.under_plain (weight_type_call_type "set" [.ref l] []) rfl]
  have h1 := F.called_set.notType
  have h2 := F.called_set.canCreate
  have hct := F.typeCall_set_1 (.ref l)
  repeat (any_goals (first | assumption | wp_step))
  refine codeAny_mono (code_set_led1 (.ref l) (E := E) (Q₁ := fun obj s₁ => obj = .ref s.heap.objs.size ∧ s₁ = { s with heap := s.heap.push { cls := .type "set", dict := none, data := .set #[] 0 (.fresh 0 0 (!w.params.followText "set-order")) } }) ⟨rfl, rfl⟩) fun r s₁ hr => ?_
  cases r with
  | error e => exact hr
  | ok fl =>
    cases fl with
    | ret obj =>
      obtain ⟨rfl, rfl⟩ := hr
      have R0 := setR_fresh (h := s.heap) w
      have hS : (s.heap.push { cls := .type "set", dict := none, data := .set #[] 0 (.fresh 0 0 (!w.params.followText "set-order")) }).get? s.heap.objs.size = some { cls := .type "set", dict := none, data := .set #[] 0 (.fresh 0 0 (!w.params.followText "set-order")) } := Heap.get?_push_size _ rfl
      have hT : Shared.TypeIs { s with heap := s.heap.push { cls := .type "set", dict := none, data := .set #[] 0 (.fresh 0 0 (!w.params.followText "set-order")) } } (.ref s.heap.objs.size) "set" := ⟨_, hS, rfl⟩
      have hli := F.called_set.init.lookup
      have hbi := F.called_set.init.bind (.ref s.heap.objs.size)
      repeat (any_goals (first | assumption | wp_step))
      refine codeAny_mono (codeAny_call_builtin (R := wants (fun r s₂ => r = .none ∧ ∃ h' tk, s₂ = { s with heap := h', toks := tk } ∧ SetSo w h' s.heap.objs.size ns items.size ∧ (∀ b o, b < s.heap.objs.size → s.heap.get? b = some o → h'.get? b = some o)) E) F.called_set.init.plain F.entry_set_init (check_set_init_1 hT ?_)) fun r₂ s₂ hr₂ => ?_
      · obtain ⟨ol, hol, hcl, nl, hdl⟩ := hl
        obtain ⟨ocls, odict, odata, oslots⟩ := ol
        simp only at hcl hdl
        subst hcl; subst hdl
        have hol' : (s.heap.push { cls := .type "set", dict := none, data := .set #[] 0 (.fresh 0 0 (!w.params.followText "set-order")) }).get? l = some { cls := .type "list", dict := odict, data := .seq items nl, slots := oslots } := Heap.get?_push_of_some _ hol
        have hsls := F.sub_list_set
        have hslf := F.sub_list_frozenset
        have hne : (Value.type "list" == Value.type "dict") = false := by decide
        have hl1 : (s.heap.push { cls := .type "set", dict := none, data := .set #[] 0 (.fresh 0 0 (!w.params.followText "set-order")) }).IsList l items := ⟨_, hol', rfl, nl, rfl⟩
        unfold Builtin.«set.__init__» noKeywords Builtin.Frozenset.updateFrom
        generalize hPI : pyIter = PI
        wp_walk
        subst hPI
        refine wpAny_pyIter_list hl1 ?_
        refine wpAny_bind (wpAny_runValue ?_)
        have hlS : l < s.heap.objs.size := Heap.lt_size hol
        have hh3 : A.in1.in1.in1.handled = none := by simp [hh]
        have hneI : l ≠ (s.heap.push { cls := .type "set", dict := none, data := .set #[] 0 (.fresh 0 0 (!w.params.followText "set-order")) }).objs.size := by
          rw [Heap.size_push]; exact Nat.ne_of_lt (Nat.lt_succ_of_lt hlS)
        have hSf : s.heap.objs.size ∉ [(s.heap.push { cls := .type "set", dict := none, data := .set #[] 0 (.fresh 0 0 (!w.params.followText "set-order")) }).objs.size, l] := by
          rw [Heap.size_push]; simp only [List.mem_cons, List.not_mem_nil, or_false, not_or]
          exact ⟨Nat.ne_of_lt (Nat.lt_succ_self _), Nat.ne_of_gt hlS⟩
        have hlen : ns.length = items.size := by rw [← Array.length_toList]; exact hi.length.symm
        refine set_loopR ((Walks.list hh3 _ l hneI items).toS) s.heap.objs.size hSf ns hlen (fun i v hv => IntsAre.int_at hi i v (by rw [Array.getElem?_toList]; exact hv)) hb (items.size - 0) 0 _ (by omega) (Nat.zero_le _)
          ⟨⟨_, Heap.get?_push_size _ rfl, rfl, rfl⟩, (hl1.push _)⟩ ⟨0, Nat.le_refl _, (R0.at fun o ho => Heap.get?_push_of_some _ ho).congr fun k => by simp⟩ fun s' hm hS' => ?_
        obtain ⟨h', g', d', tk', os'⟩ := s'
        have eg : g' = s.gens := hm.gens
        have ed : d' = s.drawn := hm.drawn
        have eo : os' = s.os := hm.os
        subst eg; subst ed; subst eo
        refine wpAny_pure ?_
        show wpAny _ _ (ret Value.none) _ _ _
        refine wpAny_pure ⟨rfl, h', tk', rfl, hS', fun b o hb e => ?_⟩
        have hb1 : b ≠ s.heap.objs.size := Nat.ne_of_lt hb
        have hb2 : b ≠ (s.heap.push { cls := .type "set", dict := none, data := .set #[] 0 (.fresh 0 0 (!w.params.followText "set-order")) }).objs.size := by rw [Heap.size_push]; exact Nat.ne_of_lt (Nat.lt_succ_of_lt hb)
        exact hm.heap b o (by simp only [List.mem_cons, List.not_mem_nil, or_false, not_or]; exact ⟨hb1, hb2⟩) (Heap.get?_push_of_some _ (Heap.get?_push_of_some _ e))
      · cases r₂ with
        | error e => exact hr₂
        | ok fl₂ =>
          cases fl₂ with
          | ret r =>
            obtain ⟨rfl, h', tk, rfl, hS', hk'⟩ := hr₂
            repeat (any_goals (first | assumption | wp_step))
            exact h _ _ hS' hk'
          | _ => exact hr₂.elim
    | _ => exact hr.elim
end
end L2
namespace KR
open PySem PySem.Spec PyProof.Rows L2
/-- set(xs) of a list of ints, fewer than 64 -/
def rSetL (K : PySem.W.Frag) (w : World) : List V → Hp → VK → Prop := fun vs H Q => ∃ (l : Addr) (ns : List Int), vs = [V.ref l] ∧ SqL K H l (ns.map V.int) ∧ ns.length ≤ 1000 ∧
  ∀ p m H', H p = none → Same H H' → m ≤ ns.length → H' p = some (SetO w p (fun k => decide (k ∈ ns)) m) → Q (.ref p) H'
theorem cr_setL {X : Cx} {K : PySem.W.Frag} (hc : X.calm = true) (hK : X.K = K := by rfl) : CallR X (.type "set") (rSetL K X.w) := by
  subst hK
  intro pins s σ H xs us Q I r h
  obtain ⟨l, ns, rfl, hs, hn, q⟩ := h
  obtain ⟨its, rv, pl, hz⟩ := I.list hs
  rw [Vals.ref1 r]
  have hlen : its.length = ns.length := by rw [← rv.length, List.length_map]
  refine setR_list (I.ok.hd hc) pl.isList (ns := ns) (by simpa using intsAre_of rv) (by rw [List.size_toArray, hlen]; unfold scanBound; omega) fun h' tk hS hk => ?_
  obtain ⟨m, hm, R⟩ := hS
  rw [List.size_toArray, hlen] at hm
  have R := R.congr (S' := fun k => decide (k ∈ ns)) fun k => by
    show decide (k ∈ ns) = decide (k ∈ ns.take its.toArray.size)
    rw [List.size_toArray, hlen, List.take_length]
  have n1 := I.hok.fresh (Nat.le_refl s.heap.objs.size)
  exact ⟨.ref s.heap.objs.size, upd H s.heap.objs.size (SetO X.w s.heap.objs.size (fun k => decide (k ∈ ns)) m), I.laid (t' := tk) (fun b u e => hk b u (Heap.lt_size e) e) (Nat.le_refl _) (setO_new R), rfl, q _ m _ n1 (same_new n1) hm upd_same⟩
/-- sorted(s) of a set of ints, fewer than 64 -/
def rSortS (w : World) : List V → Hp → VK → Prop := fun vs H Q => ∃ (a : Addr) (S : Int → Bool) (n : Nat), vs = [V.ref a] ∧ H a = some (SetO w a S n) ∧ n < 64 ∧
  ∀ (ns : List Int) (p : Addr) H', ns.Pairwise (· < ·) → (∀ k : Int, k ∈ ns ↔ S k = true) → ns.length = n → H p = none → Same H H' → H' p = some (.lst (ns.map V.int)) → Q (.ref p) H'
theorem cr_sortS {X : Cx} (hc : X.calm = true) : CallR X (.builtin "sorted") (rSortS X.w) := by
  intro pins s σ H vs us Q I r h
  obtain ⟨a, S, n, e, ha, h64, q⟩ := h
  exact cr_sortedSet hc pins s σ H vs us Q I r ⟨a, S, n, e, ha, h64, fun ns p h1 h2 h3 h4 => q ns p _ h1 h2 h3 h4 (same_new h4) upd_same⟩
end KR
namespace KR
open PySem PySem.Spec PyProof.Rows L2
def topS (i : Nat) : Stmt := PySem.Challenge.pw_keeprows_k85_whole_heights_far_away.main.body.getD i (.Pass ⟨0, 0, 0, 0⟩)
abbrev s_is_integer : Stmt := topS 13
abbrev P_is_integer : List Str := ["value"]
abbrev N_is_integer : List Str := ["value"]
def dd_is_integer : He.DefD := ⟨("is_integer", none), "is_integer", "is_integer", defArgs s_is_integer, defBody s_is_integer, defScope s_is_integer, [], []⟩
theorem sc_is_integer : FnScope N_is_integer P_is_integer (defScope s_is_integer) := ⟨rfl, rfl, rfl, by decide +kernel, rfl, by decide +kernel, by decide +kernel⟩
abbrev F_is_integer (K : PySem.W.Frag) (fd : FuncData) : Prop := FunD K "is_integer" "is_integer" (defArgs s_is_integer) (defBody s_is_integer) (defScope s_is_integer) [] [] (He.fAd K ("is_integer", none)) fd
abbrev s_is_between : Stmt := topS 14
abbrev P_is_between : List Str := ["value", "low", "high"]
abbrev N_is_between : List Str := ["value", "low", "high"]
def dd_is_between : He.DefD := ⟨("is_between", none), "is_between", "is_between", defArgs s_is_between, defBody s_is_between, defScope s_is_between, [], []⟩
theorem sc_is_between : FnScope N_is_between P_is_between (defScope s_is_between) := ⟨rfl, rfl, rfl, by decide +kernel, rfl, by decide +kernel, by decide +kernel⟩
abbrev F_is_between (K : PySem.W.Frag) (fd : FuncData) : Prop := FunD K "is_between" "is_between" (defArgs s_is_between) (defBody s_is_between) (defScope s_is_between) [] [] (He.fAd K ("is_between", none)) fd
abbrev s_check_part : Stmt := topS 15
abbrev P_check_part : List Str := ["part", "value", "low", "high"]
abbrev N_check_part : List Str := ["part", "value", "low", "high"]
def dd_check_part : He.DefD := ⟨("check_part", none), "check_part", "check_part", defArgs s_check_part, defBody s_check_part, defScope s_check_part, [], []⟩
theorem sc_check_part : FnScope N_check_part P_check_part (defScope s_check_part) := ⟨rfl, rfl, rfl, by decide +kernel, rfl, by decide +kernel, by decide +kernel⟩
abbrev F_check_part (K : PySem.W.Frag) (fd : FuncData) : Prop := FunD K "check_part" "check_part" (defArgs s_check_part) (defBody s_check_part) (defScope s_check_part) [] [] (He.fAd K ("check_part", none)) fd
abbrev s_Settings___init__ : Stmt := inClass (topS 16) 0
abbrev P_Settings___init__ : List Str := ["self", "lengths", "size", "fanout", "records", "every", "keep"]
abbrev N_Settings___init__ : List Str := ["self", "lengths", "size", "fanout", "records", "every", "keep", "length"]
def dd_Settings___init__ : He.DefD := ⟨("Settings", some "__init__"), "__init__", "Settings.__init__", defArgs s_Settings___init__, defBody s_Settings___init__, defScope s_Settings___init__, [], []⟩
theorem sc_Settings___init__ : FnScope N_Settings___init__ P_Settings___init__ (defScope s_Settings___init__) := ⟨rfl, rfl, rfl, by decide +kernel, rfl, by decide +kernel, by decide +kernel⟩
abbrev F_Settings___init__ (K : PySem.W.Frag) (fd : FuncData) : Prop := FunD K "__init__" "Settings.__init__" (defArgs s_Settings___init__) (defBody s_Settings___init__) (defScope s_Settings___init__) [] [] (He.fAd K ("Settings", some "__init__")) fd
abbrev s_Settings___eq__ : Stmt := inClass (topS 16) 1
abbrev P_Settings___eq__ : List Str := ["self", "other"]
abbrev N_Settings___eq__ : List Str := ["self", "other"]
def dd_Settings___eq__ : He.DefD := ⟨("Settings", some "__eq__"), "__eq__", "Settings.__eq__", defArgs s_Settings___eq__, defBody s_Settings___eq__, defScope s_Settings___eq__, [], []⟩
theorem sc_Settings___eq__ : FnScope N_Settings___eq__ P_Settings___eq__ (defScope s_Settings___eq__) := ⟨rfl, rfl, rfl, by decide +kernel, rfl, by decide +kernel, by decide +kernel⟩
abbrev F_Settings___eq__ (K : PySem.W.Frag) (fd : FuncData) : Prop := FunD K "__eq__" "Settings.__eq__" (defArgs s_Settings___eq__) (defBody s_Settings___eq__) (defScope s_Settings___eq__) [] [] (He.fAd K ("Settings", some "__eq__")) fd
abbrev s_Settings_parts : Stmt := inClass (topS 16) 2
abbrev P_Settings_parts : List Str := ["self"]
abbrev N_Settings_parts : List Str := ["self"]
def dd_Settings_parts : He.DefD := ⟨("Settings", some "parts"), "parts", "Settings.parts", defArgs s_Settings_parts, defBody s_Settings_parts, defScope s_Settings_parts, [], []⟩
theorem sc_Settings_parts : FnScope N_Settings_parts P_Settings_parts (defScope s_Settings_parts) := ⟨rfl, rfl, rfl, by decide +kernel, rfl, by decide +kernel, by decide +kernel⟩
abbrev F_Settings_parts (K : PySem.W.Frag) (fd : FuncData) : Prop := FunD K "parts" "Settings.parts" (defArgs s_Settings_parts) (defBody s_Settings_parts) (defScope s_Settings_parts) [] [] (He.fAd K ("Settings", some "parts")) fd
abbrev s_check_settings : Stmt := topS 17
abbrev P_check_settings : List Str := ["value"]
abbrev N_check_settings : List Str := ["value"]
def dd_check_settings : He.DefD := ⟨("check_settings", none), "check_settings", "check_settings", defArgs s_check_settings, defBody s_check_settings, defScope s_check_settings, [], []⟩
theorem sc_check_settings : FnScope N_check_settings P_check_settings (defScope s_check_settings) := ⟨rfl, rfl, rfl, by decide +kernel, rfl, by decide +kernel, by decide +kernel⟩
abbrev F_check_settings (K : PySem.W.Frag) (fd : FuncData) : Prop := FunD K "check_settings" "check_settings" (defArgs s_check_settings) (defBody s_check_settings) (defScope s_check_settings) [] [] (He.fAd K ("check_settings", none)) fd
abbrev s_check_moment : Stmt := topS 18
abbrev P_check_moment : List Str := ["value"]
abbrev N_check_moment : List Str := ["value"]
def dd_check_moment : He.DefD := ⟨("check_moment", none), "check_moment", "check_moment", defArgs s_check_moment, defBody s_check_moment, defScope s_check_moment, [], []⟩
theorem sc_check_moment : FnScope N_check_moment P_check_moment (defScope s_check_moment) := ⟨rfl, rfl, rfl, by decide +kernel, rfl, by decide +kernel, by decide +kernel⟩
abbrev F_check_moment (K : PySem.W.Frag) (fd : FuncData) : Prop := FunD K "check_moment" "check_moment" (defArgs s_check_moment) (defBody s_check_moment) (defScope s_check_moment) [] [] (He.fAd K ("check_moment", none)) fd
abbrev s_Packing___init__ : Stmt := inClass (topS 20) 0
abbrev P_Packing___init__ : List Str := ["self", "settings"]
abbrev N_Packing___init__ : List Str := ["self", "settings", "seen"]
def dd_Packing___init__ : He.DefD := ⟨("Packing", some "__init__"), "__init__", "Packing.__init__", defArgs s_Packing___init__, defBody s_Packing___init__, defScope s_Packing___init__, [], []⟩
theorem sc_Packing___init__ : FnScope N_Packing___init__ P_Packing___init__ (defScope s_Packing___init__) := ⟨rfl, rfl, rfl, by decide +kernel, rfl, by decide +kernel, by decide +kernel⟩
abbrev F_Packing___init__ (K : PySem.W.Frag) (fd : FuncData) : Prop := FunD K "__init__" "Packing.__init__" (defArgs s_Packing___init__) (defBody s_Packing___init__) (defScope s_Packing___init__) [] [] (He.fAd K ("Packing", some "__init__")) fd
abbrev s_Packing_length : Stmt := inClass (topS 20) 1
abbrev P_Packing_length : List Str := ["self", "row"]
abbrev N_Packing_length : List Str := ["self", "row"]
def dd_Packing_length : He.DefD := ⟨("Packing", some "length"), "length", "Packing.length", defArgs s_Packing_length, defBody s_Packing_length, defScope s_Packing_length, [], []⟩
theorem sc_Packing_length : FnScope N_Packing_length P_Packing_length (defScope s_Packing_length) := ⟨rfl, rfl, rfl, by decide +kernel, rfl, by decide +kernel, by decide +kernel⟩
abbrev F_Packing_length (K : PySem.W.Frag) (fd : FuncData) : Prop := FunD K "length" "Packing.length" (defArgs s_Packing_length) (defBody s_Packing_length) (defScope s_Packing_length) [] [] (He.fAd K ("Packing", some "length")) fd
abbrev s_Packing_rows_from : Stmt := inClass (topS 20) 2
abbrev P_Packing_rows_from : List Str := ["self", "row"]
abbrev N_Packing_rows_from : List Str := ["self", "row", "found", "units"]
def dd_Packing_rows_from : He.DefD := ⟨("Packing", some "rows_from"), "rows_from", "Packing.rows_from", defArgs s_Packing_rows_from, defBody s_Packing_rows_from, defScope s_Packing_rows_from, [], []⟩
theorem sc_Packing_rows_from : FnScope N_Packing_rows_from P_Packing_rows_from (defScope s_Packing_rows_from) := ⟨rfl, rfl, rfl, by decide +kernel, rfl, by decide +kernel, by decide +kernel⟩
abbrev F_Packing_rows_from (K : PySem.W.Frag) (fd : FuncData) : Prop := FunD K "rows_from" "Packing.rows_from" (defArgs s_Packing_rows_from) (defBody s_Packing_rows_from) (defScope s_Packing_rows_from) [] [] (He.fAd K ("Packing", some "rows_from")) fd
abbrev s_Packing_start : Stmt := inClass (topS 20) 3
abbrev P_Packing_start : List Str := ["self", "page"]
abbrev N_Packing_start : List Str := ["self", "page", "times", "place"]
def dd_Packing_start : He.DefD := ⟨("Packing", some "start"), "start", "Packing.start", defArgs s_Packing_start, defBody s_Packing_start, defScope s_Packing_start, [], []⟩
theorem sc_Packing_start : FnScope N_Packing_start P_Packing_start (defScope s_Packing_start) := ⟨rfl, rfl, rfl, by decide +kernel, rfl, by decide +kernel, by decide +kernel⟩
abbrev F_Packing_start (K : PySem.W.Frag) (fd : FuncData) : Prop := FunD K "start" "Packing.start" (defArgs s_Packing_start) (defBody s_Packing_start) (defScope s_Packing_start) [] [] (He.fAd K ("Packing", some "start")) fd
abbrev s_Packing_holder : Stmt := inClass (topS 20) 4
abbrev P_Packing_holder : List Str := ["self", "row"]
abbrev N_Packing_holder : List Str := ["self", "row", "times", "near", "page", "place"]
def dd_Packing_holder : He.DefD := ⟨("Packing", some "holder"), "holder", "Packing.holder", defArgs s_Packing_holder, defBody s_Packing_holder, defScope s_Packing_holder, [], []⟩
theorem sc_Packing_holder : FnScope N_Packing_holder P_Packing_holder (defScope s_Packing_holder) := ⟨rfl, rfl, rfl, by decide +kernel, rfl, by decide +kernel, by decide +kernel⟩
abbrev F_Packing_holder (K : PySem.W.Frag) (fd : FuncData) : Prop := FunD K "holder" "Packing.holder" (defArgs s_Packing_holder) (defBody s_Packing_holder) (defScope s_Packing_holder) [] [] (He.fAd K ("Packing", some "holder")) fd
abbrev s_page_at : Stmt := topS 21
abbrev P_page_at : List Str := ["settings", "row"]
abbrev N_page_at : List Str := ["settings", "row"]
def dd_page_at : He.DefD := ⟨("page_at", none), "page_at", "page_at", defArgs s_page_at, defBody s_page_at, defScope s_page_at, [], []⟩
theorem sc_page_at : FnScope N_page_at P_page_at (defScope s_page_at) := ⟨rfl, rfl, rfl, by decide +kernel, rfl, by decide +kernel, by decide +kernel⟩
abbrev F_page_at (K : PySem.W.Frag) (fd : FuncData) : Prop := FunD K "page_at" "page_at" (defArgs s_page_at) (defBody s_page_at) (defScope s_page_at) [] [] (He.fAd K ("page_at", none)) fd
abbrev s_first_at : Stmt := topS 22
abbrev P_first_at : List Str := ["settings", "page"]
abbrev N_first_at : List Str := ["settings", "page"]
def dd_first_at : He.DefD := ⟨("first_at", none), "first_at", "first_at", defArgs s_first_at, defBody s_first_at, defScope s_first_at, [], []⟩
theorem sc_first_at : FnScope N_first_at P_first_at (defScope s_first_at) := ⟨rfl, rfl, rfl, by decide +kernel, rfl, by decide +kernel, by decide +kernel⟩
abbrev F_first_at (K : PySem.W.Frag) (fd : FuncData) : Prop := FunD K "first_at" "first_at" (defArgs s_first_at) (defBody s_first_at) (defScope s_first_at) [] [] (He.fAd K ("first_at", none)) fd
abbrev s_multiplied : Stmt := topS 24
abbrev P_multiplied : List Str := ["base", "times"]
abbrev N_multiplied : List Str := ["base", "times", "found", "turn"]
def dd_multiplied : He.DefD := ⟨("multiplied", none), "multiplied", "multiplied", defArgs s_multiplied, defBody s_multiplied, defScope s_multiplied, [], []⟩
theorem sc_multiplied : FnScope N_multiplied P_multiplied (defScope s_multiplied) := ⟨rfl, rfl, rfl, by decide +kernel, rfl, by decide +kernel, by decide +kernel⟩
abbrev F_multiplied (K : PySem.W.Frag) (fd : FuncData) : Prop := FunD K "multiplied" "multiplied" (defArgs s_multiplied) (defBody s_multiplied) (defScope s_multiplied) [] [] (He.fAd K ("multiplied", none)) fd
abbrev s_common_factor : Stmt := topS 25
abbrev P_common_factor : List Str := ["one", "other"]
abbrev N_common_factor : List Str := ["one", "other"]
def dd_common_factor : He.DefD := ⟨("common_factor", none), "common_factor", "common_factor", defArgs s_common_factor, defBody s_common_factor, defScope s_common_factor, [], []⟩
theorem sc_common_factor : FnScope N_common_factor P_common_factor (defScope s_common_factor) := ⟨rfl, rfl, rfl, by decide +kernel, rfl, by decide +kernel, by decide +kernel⟩
abbrev F_common_factor (K : PySem.W.Frag) (fd : FuncData) : Prop := FunD K "common_factor" "common_factor" (defArgs s_common_factor) (defBody s_common_factor) (defScope s_common_factor) [] [] (He.fAd K ("common_factor", none)) fd
abbrev s_check_level : Stmt := topS 28
abbrev P_check_level : List Str := ["level"]
abbrev N_check_level : List Str := ["level"]
def dd_check_level : He.DefD := ⟨("check_level", none), "check_level", "check_level", defArgs s_check_level, defBody s_check_level, defScope s_check_level, [], []⟩
theorem sc_check_level : FnScope N_check_level P_check_level (defScope s_check_level) := ⟨rfl, rfl, rfl, by decide +kernel, rfl, by decide +kernel, by decide +kernel⟩
abbrev F_check_level (K : PySem.W.Frag) (fd : FuncData) : Prop := FunD K "check_level" "check_level" (defArgs s_check_level) (defBody s_check_level) (defScope s_check_level) [] [] (He.fAd K ("check_level", none)) fd
abbrev s_pages_of : Stmt := topS 29
abbrev P_pages_of : List Str := ["settings", "begin", "after"]
abbrev N_pages_of : List Str := ["settings", "begin", "after"]
def dd_pages_of : He.DefD := ⟨("pages_of", none), "pages_of", "pages_of", defArgs s_pages_of, defBody s_pages_of, defScope s_pages_of, [], []⟩
theorem sc_pages_of : FnScope N_pages_of P_pages_of (defScope s_pages_of) := ⟨rfl, rfl, rfl, by decide +kernel, rfl, by decide +kernel, by decide +kernel⟩
abbrev F_pages_of (K : PySem.W.Frag) (fd : FuncData) : Prop := FunD K "pages_of" "pages_of" (defArgs s_pages_of) (defBody s_pages_of) (defScope s_pages_of) [] [] (He.fAd K ("pages_of", none)) fd
abbrev s_live : Stmt := topS 30
abbrev P_live : List Str := ["settings", "moment"]
abbrev N_live : List Str := ["settings", "moment"]
def dd_live : He.DefD := ⟨("live", none), "live", "live", defArgs s_live, defBody s_live, defScope s_live, [], []⟩
theorem sc_live : FnScope N_live P_live (defScope s_live) := ⟨rfl, rfl, rfl, by decide +kernel, rfl, by decide +kernel, by decide +kernel⟩
abbrev F_live (K : PySem.W.Frag) (fd : FuncData) : Prop := FunD K "live" "live" (defArgs s_live) (defBody s_live) (defScope s_live) [] [] (He.fAd K ("live", none)) fd
abbrev s_root_level : Stmt := topS 31
abbrev P_root_level : List Str := ["oldest", "newest", "fanout"]
abbrev N_root_level : List Str := ["oldest", "newest", "fanout", "level"]
def dd_root_level : He.DefD := ⟨("root_level", none), "root_level", "root_level", defArgs s_root_level, defBody s_root_level, defScope s_root_level, [], []⟩
theorem sc_root_level : FnScope N_root_level P_root_level (defScope s_root_level) := ⟨rfl, rfl, rfl, by decide +kernel, rfl, by decide +kernel, by decide +kernel⟩
abbrev F_root_level (K : PySem.W.Frag) (fd : FuncData) : Prop := FunD K "root_level" "root_level" (defArgs s_root_level) (defBody s_root_level) (defScope s_root_level) [] [] (He.fAd K ("root_level", none)) fd
abbrev s_nodes_over : Stmt := topS 32
abbrev P_nodes_over : List Str := ["settings", "pages"]
abbrev N_nodes_over : List Str := ["settings", "pages", "found", "first", "last", "level", "index"]
def dd_nodes_over : He.DefD := ⟨("nodes_over", none), "nodes_over", "nodes_over", defArgs s_nodes_over, defBody s_nodes_over, defScope s_nodes_over, [], []⟩
theorem sc_nodes_over : FnScope N_nodes_over P_nodes_over (defScope s_nodes_over) := ⟨rfl, rfl, rfl, by decide +kernel, rfl, by decide +kernel, by decide +kernel⟩
abbrev F_nodes_over (K : PySem.W.Frag) (fd : FuncData) : Prop := FunD K "nodes_over" "nodes_over" (defArgs s_nodes_over) (defBody s_nodes_over) (defScope s_nodes_over) [] [] (He.fAd K ("nodes_over", none)) fd
abbrev s_next_border : Stmt := topS 33
abbrev P_next_border : List Str := ["settings", "moment", "level"]
abbrev N_next_border : List Str := ["settings", "moment", "level", "wide", "page", "border", "row"]
def dd_next_border : He.DefD := ⟨("next_border", none), "next_border", "next_border", defArgs s_next_border, defBody s_next_border, defScope s_next_border, [], []⟩
theorem sc_next_border : FnScope N_next_border P_next_border (defScope s_next_border) := ⟨rfl, rfl, rfl, by decide +kernel, rfl, by decide +kernel, by decide +kernel⟩
abbrev F_next_border (K : PySem.W.Frag) (fd : FuncData) : Prop := FunD K "next_border" "next_border" (defArgs s_next_border) (defBody s_next_border) (defScope s_next_border) [] [] (He.fAd K ("next_border", none)) fd
abbrev s_tree_root : Stmt := topS 34
abbrev P_tree_root : List Str := ["settings", "moment"]
abbrev N_tree_root : List Str := ["settings", "moment", "found"]
def dd_tree_root : He.DefD := ⟨("tree_root", none), "tree_root", "tree_root", defArgs s_tree_root, defBody s_tree_root, defScope s_tree_root, [], []⟩
theorem sc_tree_root : FnScope N_tree_root P_tree_root (defScope s_tree_root) := ⟨rfl, rfl, rfl, by decide +kernel, rfl, by decide +kernel, by decide +kernel⟩
abbrev F_tree_root (K : PySem.W.Frag) (fd : FuncData) : Prop := FunD K "tree_root" "tree_root" (defArgs s_tree_root) (defBody s_tree_root) (defScope s_tree_root) [] [] (He.fAd K ("tree_root", none)) fd
abbrev s_tree_nodes : Stmt := topS 35
abbrev P_tree_nodes : List Str := ["settings", "moment"]
abbrev N_tree_nodes : List Str := ["settings", "moment"]
def dd_tree_nodes : He.DefD := ⟨("tree_nodes", none), "tree_nodes", "tree_nodes", defArgs s_tree_nodes, defBody s_tree_nodes, defScope s_tree_nodes, [], []⟩
theorem sc_tree_nodes : FnScope N_tree_nodes P_tree_nodes (defScope s_tree_nodes) := ⟨rfl, rfl, rfl, by decide +kernel, rfl, by decide +kernel, by decide +kernel⟩
abbrev F_tree_nodes (K : PySem.W.Frag) (fd : FuncData) : Prop := FunD K "tree_nodes" "tree_nodes" (defArgs s_tree_nodes) (defBody s_tree_nodes) (defScope s_tree_nodes) [] [] (He.fAd K ("tree_nodes", none)) fd
abbrev s_tree_height : Stmt := topS 36
abbrev P_tree_height : List Str := ["settings", "moment"]
abbrev N_tree_height : List Str := ["settings", "moment", "top"]
def dd_tree_height : He.DefD := ⟨("tree_height", none), "tree_height", "tree_height", defArgs s_tree_height, defBody s_tree_height, defScope s_tree_height, [], []⟩
theorem sc_tree_height : FnScope N_tree_height P_tree_height (defScope s_tree_height) := ⟨rfl, rfl, rfl, by decide +kernel, rfl, by decide +kernel, by decide +kernel⟩
abbrev F_tree_height (K : PySem.W.Frag) (fd : FuncData) : Prop := FunD K "tree_height" "tree_height" (defArgs s_tree_height) (defBody s_tree_height) (defScope s_tree_height) [] [] (He.fAd K ("tree_height", none)) fd
abbrev s_check_least : Stmt := topS 39
abbrev P_check_least : List Str := ["least"]
abbrev N_check_least : List Str := ["least"]
def dd_check_least : He.DefD := ⟨("check_least", none), "check_least", "check_least", defArgs s_check_least, defBody s_check_least, defScope s_check_least, [], []⟩
theorem sc_check_least : FnScope N_check_least P_check_least (defScope s_check_least) := ⟨rfl, rfl, rfl, by decide +kernel, rfl, by decide +kernel, by decide +kernel⟩
abbrev F_check_least (K : PySem.W.Frag) (fd : FuncData) : Prop := FunD K "check_least" "check_least" (defArgs s_check_least) (defBody s_check_least) (defScope s_check_least) [] [] (He.fAd K ("check_least", none)) fd
abbrev s_check_stretch : Stmt := topS 40
abbrev P_check_stretch : List Str := ["first", "last"]
abbrev N_check_stretch : List Str := ["first", "last"]
def dd_check_stretch : He.DefD := ⟨("check_stretch", none), "check_stretch", "check_stretch", defArgs s_check_stretch, defBody s_check_stretch, defScope s_check_stretch, [], []⟩
theorem sc_check_stretch : FnScope N_check_stretch P_check_stretch (defScope s_check_stretch) := ⟨rfl, rfl, rfl, by decide +kernel, rfl, by decide +kernel, by decide +kernel⟩
abbrev F_check_stretch (K : PySem.W.Frag) (fd : FuncData) : Prop := FunD K "check_stretch" "check_stretch" (defArgs s_check_stretch) (defBody s_check_stretch) (defScope s_check_stretch) [] [] (He.fAd K ("check_stretch", none)) fd
abbrev s_Heights___init__ : Stmt := inClass (topS 41) 0
abbrev P_Heights___init__ : List Str := ["self", "settings", "least"]
abbrev N_Heights___init__ : List Str := ["self", "settings", "least"]
def dd_Heights___init__ : He.DefD := ⟨("Heights", some "__init__"), "__init__", "Heights.__init__", defArgs s_Heights___init__, defBody s_Heights___init__, defScope s_Heights___init__, [], []⟩
theorem sc_Heights___init__ : FnScope N_Heights___init__ P_Heights___init__ (defScope s_Heights___init__) := ⟨rfl, rfl, rfl, by decide +kernel, rfl, by decide +kernel, by decide +kernel⟩
abbrev F_Heights___init__ (K : PySem.W.Frag) (fd : FuncData) : Prop := FunD K "__init__" "Heights.__init__" (defArgs s_Heights___init__) (defBody s_Heights___init__) (defScope s_Heights___init__) [] [] (He.fAd K ("Heights", some "__init__")) fd
abbrev s_Heights_border_start : Stmt := inClass (topS 41) 1
abbrev P_Heights_border_start : List Str := ["self", "k"]
abbrev N_Heights_border_start : List Str := ["self", "k"]
def dd_Heights_border_start : He.DefD := ⟨("Heights", some "border_start"), "border_start", "Heights.border_start", defArgs s_Heights_border_start, defBody s_Heights_border_start, defScope s_Heights_border_start, [], []⟩
theorem sc_Heights_border_start : FnScope N_Heights_border_start P_Heights_border_start (defScope s_Heights_border_start) := ⟨rfl, rfl, rfl, by decide +kernel, rfl, by decide +kernel, by decide +kernel⟩
abbrev F_Heights_border_start (K : PySem.W.Frag) (fd : FuncData) : Prop := FunD K "border_start" "Heights.border_start" (defArgs s_Heights_border_start) (defBody s_Heights_border_start) (defScope s_Heights_border_start) [] [] (He.fAd K ("Heights", some "border_start")) fd
abbrev s_Heights_times_of : Stmt := inClass (topS 41) 2
abbrev P_Heights_times_of : List Str := ["self", "k"]
abbrev N_Heights_times_of : List Str := ["self", "k"]
def dd_Heights_times_of : He.DefD := ⟨("Heights", some "times_of"), "times_of", "Heights.times_of", defArgs s_Heights_times_of, defBody s_Heights_times_of, defScope s_Heights_times_of, [], []⟩
theorem sc_Heights_times_of : FnScope N_Heights_times_of P_Heights_times_of (defScope s_Heights_times_of) := ⟨rfl, rfl, rfl, by decide +kernel, rfl, by decide +kernel, by decide +kernel⟩
abbrev F_Heights_times_of (K : PySem.W.Frag) (fd : FuncData) : Prop := FunD K "times_of" "Heights.times_of" (defArgs s_Heights_times_of) (defBody s_Heights_times_of) (defScope s_Heights_times_of) [] [] (He.fAd K ("Heights", some "times_of")) fd
abbrev s_Heights_borders : Stmt := inClass (topS 41) 3
abbrev P_Heights_borders : List Str := ["self", "row"]
abbrev N_Heights_borders : List Str := ["self", "row"]
def dd_Heights_borders : He.DefD := ⟨("Heights", some "borders"), "borders", "Heights.borders", defArgs s_Heights_borders, defBody s_Heights_borders, defScope s_Heights_borders, [], []⟩
theorem sc_Heights_borders : FnScope N_Heights_borders P_Heights_borders (defScope s_Heights_borders) := ⟨rfl, rfl, rfl, by decide +kernel, rfl, by decide +kernel, by decide +kernel⟩
abbrev F_Heights_borders (K : PySem.W.Frag) (fd : FuncData) : Prop := FunD K "borders" "Heights.borders" (defArgs s_Heights_borders) (defBody s_Heights_borders) (defScope s_Heights_borders) [] [] (He.fAd K ("Heights", some "borders")) fd
abbrev s_Heights_sum_of : Stmt := inClass (topS 41) 4
abbrev P_Heights_sum_of : List Str := ["self", "many"]
abbrev N_Heights_sum_of : List Str := ["self", "many", "found", "k", "rest", "period", "sums", "turn"]
def dd_Heights_sum_of : He.DefD := ⟨("Heights", some "sum_of"), "sum_of", "Heights.sum_of", defArgs s_Heights_sum_of, defBody s_Heights_sum_of, defScope s_Heights_sum_of, [], []⟩
theorem sc_Heights_sum_of : FnScope N_Heights_sum_of P_Heights_sum_of (defScope s_Heights_sum_of) := ⟨rfl, rfl, rfl, by decide +kernel, rfl, by decide +kernel, by decide +kernel⟩
abbrev F_Heights_sum_of (K : PySem.W.Frag) (fd : FuncData) : Prop := FunD K "sum_of" "Heights.sum_of" (defArgs s_Heights_sum_of) (defBody s_Heights_sum_of) (defScope s_Heights_sum_of) [] [] (He.fAd K ("Heights", some "sum_of")) fd
abbrev s_Heights_count : Stmt := inClass (topS 41) 5
abbrev P_Heights_count : List Str := ["self", "moment"]
abbrev N_Heights_count : List Str := ["self", "moment", "many"]
def dd_Heights_count : He.DefD := ⟨("Heights", some "count"), "count", "Heights.count", defArgs s_Heights_count, defBody s_Heights_count, defScope s_Heights_count, [], []⟩
theorem sc_Heights_count : FnScope N_Heights_count P_Heights_count (defScope s_Heights_count) := ⟨rfl, rfl, rfl, by decide +kernel, rfl, by decide +kernel, by decide +kernel⟩
abbrev F_Heights_count (K : PySem.W.Frag) (fd : FuncData) : Prop := FunD K "count" "Heights.count" (defArgs s_Heights_count) (defBody s_Heights_count) (defScope s_Heights_count) [] [] (He.fAd K ("Heights", some "count")) fd
abbrev s_Heights_next_one : Stmt := inClass (topS 41) 6
abbrev P_Heights_next_one : List Str := ["self", "moment"]
abbrev N_Heights_next_one : List Str := ["self", "moment", "many"]
def dd_Heights_next_one : He.DefD := ⟨("Heights", some "next_one"), "next_one", "Heights.next_one", defArgs s_Heights_next_one, defBody s_Heights_next_one, defScope s_Heights_next_one, [], []⟩
theorem sc_Heights_next_one : FnScope N_Heights_next_one P_Heights_next_one (defScope s_Heights_next_one) := ⟨rfl, rfl, rfl, by decide +kernel, rfl, by decide +kernel, by decide +kernel⟩
abbrev F_Heights_next_one (K : PySem.W.Frag) (fd : FuncData) : Prop := FunD K "next_one" "Heights.next_one" (defArgs s_Heights_next_one) (defBody s_Heights_next_one) (defScope s_Heights_next_one) [] [] (He.fAd K ("Heights", some "next_one")) fd
abbrev s_count_up_to : Stmt := topS 42
abbrev P_count_up_to : List Str := ["settings", "least", "moment"]
abbrev N_count_up_to : List Str := ["settings", "least", "moment"]
def dd_count_up_to : He.DefD := ⟨("count_up_to", none), "count_up_to", "count_up_to", defArgs s_count_up_to, defBody s_count_up_to, defScope s_count_up_to, [], []⟩
theorem sc_count_up_to : FnScope N_count_up_to P_count_up_to (defScope s_count_up_to) := ⟨rfl, rfl, rfl, by decide +kernel, rfl, by decide +kernel, by decide +kernel⟩
abbrev F_count_up_to (K : PySem.W.Frag) (fd : FuncData) : Prop := FunD K "count_up_to" "count_up_to" (defArgs s_count_up_to) (defBody s_count_up_to) (defScope s_count_up_to) [] [] (He.fAd K ("count_up_to", none)) fd
abbrev s_first_from : Stmt := topS 43
abbrev P_first_from : List Str := ["settings", "least", "moment"]
abbrev N_first_from : List Str := ["settings", "least", "moment", "found"]
def dd_first_from : He.DefD := ⟨("first_from", none), "first_from", "first_from", defArgs s_first_from, defBody s_first_from, defScope s_first_from, [], []⟩
theorem sc_first_from : FnScope N_first_from P_first_from (defScope s_first_from) := ⟨rfl, rfl, rfl, by decide +kernel, rfl, by decide +kernel, by decide +kernel⟩
abbrev F_first_from (K : PySem.W.Frag) (fd : FuncData) : Prop := FunD K "first_from" "first_from" (defArgs s_first_from) (defBody s_first_from) (defScope s_first_from) [] [] (He.fAd K ("first_from", none)) fd
abbrev s_height_count : Stmt := topS 44
abbrev P_height_count : List Str := ["settings", "least", "first", "last"]
abbrev N_height_count : List Str := ["settings", "least", "first", "last"]
def dd_height_count : He.DefD := ⟨("height_count", none), "height_count", "height_count", defArgs s_height_count, defBody s_height_count, defScope s_height_count, [], []⟩
theorem sc_height_count : FnScope N_height_count P_height_count (defScope s_height_count) := ⟨rfl, rfl, rfl, by decide +kernel, rfl, by decide +kernel, by decide +kernel⟩
abbrev F_height_count (K : PySem.W.Frag) (fd : FuncData) : Prop := FunD K "height_count" "height_count" (defArgs s_height_count) (defBody s_height_count) (defScope s_height_count) [] [] (He.fAd K ("height_count", none)) fd
abbrev s_height_sum : Stmt := topS 45
abbrev P_height_sum : List Str := ["settings", "first", "last"]
abbrev N_height_sum : List Str := ["settings", "first", "last", "found", "least"]
def dd_height_sum : He.DefD := ⟨("height_sum", none), "height_sum", "height_sum", defArgs s_height_sum, defBody s_height_sum, defScope s_height_sum, [], []⟩
theorem sc_height_sum : FnScope N_height_sum P_height_sum (defScope s_height_sum) := ⟨rfl, rfl, rfl, by decide +kernel, rfl, by decide +kernel, by decide +kernel⟩
abbrev F_height_sum (K : PySem.W.Frag) (fd : FuncData) : Prop := FunD K "height_sum" "height_sum" (defArgs s_height_sum) (defBody s_height_sum) (defScope s_height_sum) [] [] (He.fAd K ("height_sum", none)) fd
abbrev s_next_height : Stmt := topS 46
abbrev P_next_height : List Str := ["settings", "moment", "least"]
abbrev N_next_height : List Str := ["settings", "moment", "least"]
def dd_next_height : He.DefD := ⟨("next_height", none), "next_height", "next_height", defArgs s_next_height, defBody s_next_height, defScope s_next_height, [], []⟩
theorem sc_next_height : FnScope N_next_height P_next_height (defScope s_next_height) := ⟨rfl, rfl, rfl, by decide +kernel, rfl, by decide +kernel, by decide +kernel⟩
abbrev F_next_height (K : PySem.W.Frag) (fd : FuncData) : Prop := FunD K "next_height" "next_height" (defArgs s_next_height) (defBody s_next_height) (defScope s_next_height) [] [] (He.fAd K ("next_height", none)) fd
abbrev s_greatest_height : Stmt := topS 47
abbrev P_greatest_height : List Str := ["settings", "first", "last"]
abbrev N_greatest_height : List Str := ["settings", "first", "last", "found", "row"]
def dd_greatest_height : He.DefD := ⟨("greatest_height", none), "greatest_height", "greatest_height", defArgs s_greatest_height, defBody s_greatest_height, defScope s_greatest_height, [], []⟩
theorem sc_greatest_height : FnScope N_greatest_height P_greatest_height (defScope s_greatest_height) := ⟨rfl, rfl, rfl, by decide +kernel, rfl, by decide +kernel, by decide +kernel⟩
abbrev F_greatest_height (K : PySem.W.Frag) (fd : FuncData) : Prop := FunD K "greatest_height" "greatest_height" (defArgs s_greatest_height) (defBody s_greatest_height) (defScope s_greatest_height) [] [] (He.fAd K ("greatest_height", none)) fd
abbrev s_law_digits : Stmt := topS 49
abbrev P_law_digits : List Str := ["cell", "many"]
abbrev N_law_digits : List Str := ["cell", "many", "digits", "rest", "number", "k"]
def dd_law_digits : He.DefD := ⟨("_law_digits", none), "_law_digits", "_law_digits", defArgs s_law_digits, defBody s_law_digits, defScope s_law_digits, [], []⟩
theorem sc_law_digits : FnScope N_law_digits P_law_digits (defScope s_law_digits) := ⟨rfl, rfl, rfl, by decide +kernel, rfl, by decide +kernel, by decide +kernel⟩
abbrev F_law_digits (K : PySem.W.Frag) (fd : FuncData) : Prop := FunD K "_law_digits" "_law_digits" (defArgs s_law_digits) (defBody s_law_digits) (defScope s_law_digits) [] [] (He.fAd K ("_law_digits", none)) fd
abbrev s_law_parts : Stmt := topS 50
abbrev P_law_parts : List Str := ["digits"]
abbrev N_law_parts : List Str := ["digits", "size", "lengths", "parts", "k"]
def dd_law_parts : He.DefD := ⟨("_law_parts", none), "_law_parts", "_law_parts", defArgs s_law_parts, defBody s_law_parts, defScope s_law_parts, [], []⟩
theorem sc_law_parts : FnScope N_law_parts P_law_parts (defScope s_law_parts) := ⟨rfl, rfl, rfl, by decide +kernel, rfl, by decide +kernel, by decide +kernel⟩
abbrev F_law_parts (K : PySem.W.Frag) (fd : FuncData) : Prop := FunD K "_law_parts" "_law_parts" (defArgs s_law_parts) (defBody s_law_parts) (defScope s_law_parts) [] [] (He.fAd K ("_law_parts", none)) fd
abbrev s_law_settings : Stmt := topS 51
abbrev P_law_settings : List Str := ["parts"]
abbrev N_law_settings : List Str := ["parts", "fan", "many", "pace", "kept", "word"]
def dd_law_settings : He.DefD := ⟨("_law_settings", none), "_law_settings", "_law_settings", defArgs s_law_settings, defBody s_law_settings, defScope s_law_settings, [], []⟩
theorem sc_law_settings : FnScope N_law_settings P_law_settings (defScope s_law_settings) := ⟨rfl, rfl, rfl, by decide +kernel, rfl, by decide +kernel, by decide +kernel⟩
abbrev F_law_settings (K : PySem.W.Frag) (fd : FuncData) : Prop := FunD K "_law_settings" "_law_settings" (defArgs s_law_settings) (defBody s_law_settings) (defScope s_law_settings) [] [] (He.fAd K ("_law_settings", none)) fd
abbrev s_law_moments : Stmt := topS 52
abbrev P_law_moments : List Str := ["settings", "digits"]
abbrev N_law_moments : List Str := ["settings", "digits", "found", "k", "some", "told", "near"]
def dd_law_moments : He.DefD := ⟨("_law_moments", none), "_law_moments", "_law_moments", defArgs s_law_moments, defBody s_law_moments, defScope s_law_moments, [], []⟩
theorem sc_law_moments : FnScope N_law_moments P_law_moments (defScope s_law_moments) := ⟨rfl, rfl, rfl, by decide +kernel, rfl, by decide +kernel, by decide +kernel⟩
abbrev F_law_moments (K : PySem.W.Frag) (fd : FuncData) : Prop := FunD K "_law_moments" "_law_moments" (defArgs s_law_moments) (defBody s_law_moments) (defScope s_law_moments) [] [] (He.fAd K ("_law_moments", none)) fd
abbrev s_law_near_right : Stmt := topS 53
abbrev P_law_near_right : List Str := ["settings", "moment"]
abbrev N_law_near_right : List Str := ["settings", "moment", "heights", "least", "some", "told", "k", "one"]
def dd_law_near_right : He.DefD := ⟨("_law_near_right", none), "_law_near_right", "_law_near_right", defArgs s_law_near_right, defBody s_law_near_right, defScope s_law_near_right, [], []⟩
theorem sc_law_near_right : FnScope N_law_near_right P_law_near_right (defScope s_law_near_right) := ⟨rfl, rfl, rfl, by decide +kernel, rfl, by decide +kernel, by decide +kernel⟩
abbrev F_law_near_right (K : PySem.W.Frag) (fd : FuncData) : Prop := FunD K "_law_near_right" "_law_near_right" (defArgs s_law_near_right) (defBody s_law_near_right) (defScope s_law_near_right) [] [] (He.fAd K ("_law_near_right", none)) fd
abbrev s_law_stretch_right : Stmt := topS 54
abbrev P_law_stretch_right : List Str := ["settings", "one", "other", "far"]
abbrev N_law_stretch_right : List Str := ["settings", "one", "other", "far", "found", "best", "least", "many"]
def dd_law_stretch_right : He.DefD := ⟨("_law_stretch_right", none), "_law_stretch_right", "_law_stretch_right", defArgs s_law_stretch_right, defBody s_law_stretch_right, defScope s_law_stretch_right, [], []⟩
theorem sc_law_stretch_right : FnScope N_law_stretch_right P_law_stretch_right (defScope s_law_stretch_right) := ⟨rfl, rfl, rfl, by decide +kernel, rfl, by decide +kernel, by decide +kernel⟩
abbrev F_law_stretch_right (K : PySem.W.Frag) (fd : FuncData) : Prop := FunD K "_law_stretch_right" "_law_stretch_right" (defArgs s_law_stretch_right) (defBody s_law_stretch_right) (defScope s_law_stretch_right) [] [] (He.fAd K ("_law_stretch_right", none)) fd
abbrev s_law_end_right : Stmt := topS 55
abbrev P_law_end_right : List Str := ["settings"]
abbrev N_law_end_right : List Str := ["settings", "first", "heights", "least", "some", "k"]
def dd_law_end_right : He.DefD := ⟨("_law_end_right", none), "_law_end_right", "_law_end_right", defArgs s_law_end_right, defBody s_law_end_right, defScope s_law_end_right, [], []⟩
theorem sc_law_end_right : FnScope N_law_end_right P_law_end_right (defScope s_law_end_right) := ⟨rfl, rfl, rfl, by decide +kernel, rfl, by decide +kernel, by decide +kernel⟩
abbrev F_law_end_right (K : PySem.W.Frag) (fd : FuncData) : Prop := FunD K "_law_end_right" "_law_end_right" (defArgs s_law_end_right) (defBody s_law_end_right) (defScope s_law_end_right) [] [] (He.fAd K ("_law_end_right", none)) fd
abbrev s_law : Stmt := topS 56
abbrev P_law : List Str := ["script"]
abbrev N_law : List Str := ["script", "cell", "digits", "settings", "moments", "k", "moment"]
def dd_law : He.DefD := ⟨("law", none), "law", "law", defArgs s_law, defBody s_law, defScope s_law, [], []⟩
theorem sc_law : FnScope N_law P_law (defScope s_law) := ⟨rfl, rfl, rfl, by decide +kernel, rfl, by decide +kernel, by decide +kernel⟩
abbrev F_law (K : PySem.W.Frag) (fd : FuncData) : Prop := FunD K "law" "law" (defArgs s_law) (defBody s_law) (defScope s_law) [] [] (He.fAd K ("law", none)) fd
abbrev s_InvalidSettings___init__ : Stmt := inClass (topS 3) 0
abbrev P_InvalidSettings___init__ : List Str := ["self", "part"]
abbrev N_InvalidSettings___init__ : List Str := ["self", "part"]
def dd_InvalidSettings___init__ : He.DefD := ⟨("InvalidSettings", some "__init__"), "__init__", "InvalidSettings.__init__", defArgs s_InvalidSettings___init__, defBody s_InvalidSettings___init__, defScope s_InvalidSettings___init__, [], []⟩
theorem sc_InvalidSettings___init__ : FnScope N_InvalidSettings___init__ P_InvalidSettings___init__ (defScope s_InvalidSettings___init__) := ⟨rfl, rfl, rfl, by decide +kernel, rfl, by decide +kernel, by decide +kernel⟩
abbrev F_InvalidSettings___init__ (K : PySem.W.Frag) (fd : FuncData) : Prop := FunD K "__init__" "InvalidSettings.__init__" (defArgs s_InvalidSettings___init__) (defBody s_InvalidSettings___init__) (defScope s_InvalidSettings___init__) [] [] (He.fAd K ("InvalidSettings", some "__init__")) fd
abbrev s_InvalidNumber___init__ : Stmt := inClass (topS 4) 0
abbrev P_InvalidNumber___init__ : List Str := ["self", "number"]
abbrev N_InvalidNumber___init__ : List Str := ["self", "number"]
def dd_InvalidNumber___init__ : He.DefD := ⟨("InvalidNumber", some "__init__"), "__init__", "InvalidNumber.__init__", defArgs s_InvalidNumber___init__, defBody s_InvalidNumber___init__, defScope s_InvalidNumber___init__, [], []⟩
theorem sc_InvalidNumber___init__ : FnScope N_InvalidNumber___init__ P_InvalidNumber___init__ (defScope s_InvalidNumber___init__) := ⟨rfl, rfl, rfl, by decide +kernel, rfl, by decide +kernel, by decide +kernel⟩
abbrev F_InvalidNumber___init__ (K : PySem.W.Frag) (fd : FuncData) : Prop := FunD K "__init__" "InvalidNumber.__init__" (defArgs s_InvalidNumber___init__) (defBody s_InvalidNumber___init__) (defScope s_InvalidNumber___init__) [] [] (He.fAd K ("InvalidNumber", some "__init__")) fd
theorem lk_Settings_1_0 {v0 : V} : List.lookup ("lengths" : Str) [(("lengths" : Str), v0)] = some v0 := by kernel_rfl
theorem lk_Settings_2_0 {v0 v1 : V} : List.lookup ("lengths" : Str) [(("lengths" : Str), v0), (("size" : Str), v1)] = some v0 := by kernel_rfl
theorem lk_Settings_2_1 {v0 v1 : V} : List.lookup ("size" : Str) [(("lengths" : Str), v0), (("size" : Str), v1)] = some v1 := by kernel_rfl
theorem lk_Settings_3_0 {v0 v1 v2 : V} : List.lookup ("lengths" : Str) [(("lengths" : Str), v0), (("size" : Str), v1), (("fanout" : Str), v2)] = some v0 := by kernel_rfl
theorem lk_Settings_3_1 {v0 v1 v2 : V} : List.lookup ("size" : Str) [(("lengths" : Str), v0), (("size" : Str), v1), (("fanout" : Str), v2)] = some v1 := by kernel_rfl
theorem lk_Settings_3_2 {v0 v1 v2 : V} : List.lookup ("fanout" : Str) [(("lengths" : Str), v0), (("size" : Str), v1), (("fanout" : Str), v2)] = some v2 := by kernel_rfl
theorem lk_Settings_4_0 {v0 v1 v2 v3 : V} : List.lookup ("lengths" : Str) [(("lengths" : Str), v0), (("size" : Str), v1), (("fanout" : Str), v2), (("records" : Str), v3)] = some v0 := by kernel_rfl
theorem lk_Settings_4_1 {v0 v1 v2 v3 : V} : List.lookup ("size" : Str) [(("lengths" : Str), v0), (("size" : Str), v1), (("fanout" : Str), v2), (("records" : Str), v3)] = some v1 := by kernel_rfl
theorem lk_Settings_4_2 {v0 v1 v2 v3 : V} : List.lookup ("fanout" : Str) [(("lengths" : Str), v0), (("size" : Str), v1), (("fanout" : Str), v2), (("records" : Str), v3)] = some v2 := by kernel_rfl
theorem lk_Settings_4_3 {v0 v1 v2 v3 : V} : List.lookup ("records" : Str) [(("lengths" : Str), v0), (("size" : Str), v1), (("fanout" : Str), v2), (("records" : Str), v3)] = some v3 := by kernel_rfl
theorem lk_Settings_5_0 {v0 v1 v2 v3 v4 : V} : List.lookup ("lengths" : Str) [(("lengths" : Str), v0), (("size" : Str), v1), (("fanout" : Str), v2), (("records" : Str), v3), (("every" : Str), v4)] = some v0 := by kernel_rfl
theorem lk_Settings_5_1 {v0 v1 v2 v3 v4 : V} : List.lookup ("size" : Str) [(("lengths" : Str), v0), (("size" : Str), v1), (("fanout" : Str), v2), (("records" : Str), v3), (("every" : Str), v4)] = some v1 := by kernel_rfl
theorem lk_Settings_5_2 {v0 v1 v2 v3 v4 : V} : List.lookup ("fanout" : Str) [(("lengths" : Str), v0), (("size" : Str), v1), (("fanout" : Str), v2), (("records" : Str), v3), (("every" : Str), v4)] = some v2 := by kernel_rfl
theorem lk_Settings_5_3 {v0 v1 v2 v3 v4 : V} : List.lookup ("records" : Str) [(("lengths" : Str), v0), (("size" : Str), v1), (("fanout" : Str), v2), (("records" : Str), v3), (("every" : Str), v4)] = some v3 := by kernel_rfl
theorem lk_Settings_5_4 {v0 v1 v2 v3 v4 : V} : List.lookup ("every" : Str) [(("lengths" : Str), v0), (("size" : Str), v1), (("fanout" : Str), v2), (("records" : Str), v3), (("every" : Str), v4)] = some v4 := by kernel_rfl
theorem lk_Settings_6_0 {v0 v1 v2 v3 v4 v5 : V} : List.lookup ("lengths" : Str) [(("lengths" : Str), v0), (("size" : Str), v1), (("fanout" : Str), v2), (("records" : Str), v3), (("every" : Str), v4), (("keep" : Str), v5)] = some v0 := by kernel_rfl
theorem lk_Settings_6_1 {v0 v1 v2 v3 v4 v5 : V} : List.lookup ("size" : Str) [(("lengths" : Str), v0), (("size" : Str), v1), (("fanout" : Str), v2), (("records" : Str), v3), (("every" : Str), v4), (("keep" : Str), v5)] = some v1 := by kernel_rfl
theorem lk_Settings_6_2 {v0 v1 v2 v3 v4 v5 : V} : List.lookup ("fanout" : Str) [(("lengths" : Str), v0), (("size" : Str), v1), (("fanout" : Str), v2), (("records" : Str), v3), (("every" : Str), v4), (("keep" : Str), v5)] = some v2 := by kernel_rfl
theorem lk_Settings_6_3 {v0 v1 v2 v3 v4 v5 : V} : List.lookup ("records" : Str) [(("lengths" : Str), v0), (("size" : Str), v1), (("fanout" : Str), v2), (("records" : Str), v3), (("every" : Str), v4), (("keep" : Str), v5)] = some v3 := by kernel_rfl
theorem lk_Settings_6_4 {v0 v1 v2 v3 v4 v5 : V} : List.lookup ("every" : Str) [(("lengths" : Str), v0), (("size" : Str), v1), (("fanout" : Str), v2), (("records" : Str), v3), (("every" : Str), v4), (("keep" : Str), v5)] = some v4 := by kernel_rfl
theorem lk_Settings_6_5 {v0 v1 v2 v3 v4 v5 : V} : List.lookup ("keep" : Str) [(("lengths" : Str), v0), (("size" : Str), v1), (("fanout" : Str), v2), (("records" : Str), v3), (("every" : Str), v4), (("keep" : Str), v5)] = some v5 := by kernel_rfl
theorem lk_Packing_1_0 {v0 : V} : List.lookup ("row_lengths" : Str) [(("row_lengths" : Str), v0)] = some v0 := by kernel_rfl
theorem lk_Packing_2_0 {v0 v1 : V} : List.lookup ("row_lengths" : Str) [(("row_lengths" : Str), v0), (("room" : Str), v1)] = some v0 := by kernel_rfl
theorem lk_Packing_2_1 {v0 v1 : V} : List.lookup ("room" : Str) [(("row_lengths" : Str), v0), (("room" : Str), v1)] = some v1 := by kernel_rfl
theorem lk_Packing_3_0 {v0 v1 v2 : V} : List.lookup ("row_lengths" : Str) [(("row_lengths" : Str), v0), (("room" : Str), v1), (("starts" : Str), v2)] = some v0 := by kernel_rfl
theorem lk_Packing_3_1 {v0 v1 v2 : V} : List.lookup ("room" : Str) [(("row_lengths" : Str), v0), (("room" : Str), v1), (("starts" : Str), v2)] = some v1 := by kernel_rfl
theorem lk_Packing_3_2 {v0 v1 v2 : V} : List.lookup ("starts" : Str) [(("row_lengths" : Str), v0), (("room" : Str), v1), (("starts" : Str), v2)] = some v2 := by kernel_rfl
theorem lk_Packing_4_0 {v0 v1 v2 v3 : V} : List.lookup ("row_lengths" : Str) [(("row_lengths" : Str), v0), (("room" : Str), v1), (("starts" : Str), v2), (("first" : Str), v3)] = some v0 := by kernel_rfl
theorem lk_Packing_4_1 {v0 v1 v2 v3 : V} : List.lookup ("room" : Str) [(("row_lengths" : Str), v0), (("room" : Str), v1), (("starts" : Str), v2), (("first" : Str), v3)] = some v1 := by kernel_rfl
theorem lk_Packing_4_2 {v0 v1 v2 v3 : V} : List.lookup ("starts" : Str) [(("row_lengths" : Str), v0), (("room" : Str), v1), (("starts" : Str), v2), (("first" : Str), v3)] = some v2 := by kernel_rfl
theorem lk_Packing_4_3 {v0 v1 v2 v3 : V} : List.lookup ("first" : Str) [(("row_lengths" : Str), v0), (("room" : Str), v1), (("starts" : Str), v2), (("first" : Str), v3)] = some v3 := by kernel_rfl
theorem lk_Packing_5_0 {v0 v1 v2 v3 v4 : V} : List.lookup ("row_lengths" : Str) [(("row_lengths" : Str), v0), (("room" : Str), v1), (("starts" : Str), v2), (("first" : Str), v3), (("pages" : Str), v4)] = some v0 := by kernel_rfl
theorem lk_Packing_5_1 {v0 v1 v2 v3 v4 : V} : List.lookup ("room" : Str) [(("row_lengths" : Str), v0), (("room" : Str), v1), (("starts" : Str), v2), (("first" : Str), v3), (("pages" : Str), v4)] = some v1 := by kernel_rfl
theorem lk_Packing_5_2 {v0 v1 v2 v3 v4 : V} : List.lookup ("starts" : Str) [(("row_lengths" : Str), v0), (("room" : Str), v1), (("starts" : Str), v2), (("first" : Str), v3), (("pages" : Str), v4)] = some v2 := by kernel_rfl
theorem lk_Packing_5_3 {v0 v1 v2 v3 v4 : V} : List.lookup ("first" : Str) [(("row_lengths" : Str), v0), (("room" : Str), v1), (("starts" : Str), v2), (("first" : Str), v3), (("pages" : Str), v4)] = some v3 := by kernel_rfl
theorem lk_Packing_5_4 {v0 v1 v2 v3 v4 : V} : List.lookup ("pages" : Str) [(("row_lengths" : Str), v0), (("room" : Str), v1), (("starts" : Str), v2), (("first" : Str), v3), (("pages" : Str), v4)] = some v4 := by kernel_rfl
theorem lk_Packing_6_0 {v0 v1 v2 v3 v4 v5 : V} : List.lookup ("row_lengths" : Str) [(("row_lengths" : Str), v0), (("room" : Str), v1), (("starts" : Str), v2), (("first" : Str), v3), (("pages" : Str), v4), (("rows" : Str), v5)] = some v0 := by kernel_rfl
theorem lk_Packing_6_1 {v0 v1 v2 v3 v4 v5 : V} : List.lookup ("room" : Str) [(("row_lengths" : Str), v0), (("room" : Str), v1), (("starts" : Str), v2), (("first" : Str), v3), (("pages" : Str), v4), (("rows" : Str), v5)] = some v1 := by kernel_rfl
theorem lk_Packing_6_2 {v0 v1 v2 v3 v4 v5 : V} : List.lookup ("starts" : Str) [(("row_lengths" : Str), v0), (("room" : Str), v1), (("starts" : Str), v2), (("first" : Str), v3), (("pages" : Str), v4), (("rows" : Str), v5)] = some v2 := by kernel_rfl
theorem lk_Packing_6_3 {v0 v1 v2 v3 v4 v5 : V} : List.lookup ("first" : Str) [(("row_lengths" : Str), v0), (("room" : Str), v1), (("starts" : Str), v2), (("first" : Str), v3), (("pages" : Str), v4), (("rows" : Str), v5)] = some v3 := by kernel_rfl
theorem lk_Packing_6_4 {v0 v1 v2 v3 v4 v5 : V} : List.lookup ("pages" : Str) [(("row_lengths" : Str), v0), (("room" : Str), v1), (("starts" : Str), v2), (("first" : Str), v3), (("pages" : Str), v4), (("rows" : Str), v5)] = some v4 := by kernel_rfl
theorem lk_Packing_6_5 {v0 v1 v2 v3 v4 v5 : V} : List.lookup ("rows" : Str) [(("row_lengths" : Str), v0), (("room" : Str), v1), (("starts" : Str), v2), (("first" : Str), v3), (("pages" : Str), v4), (("rows" : Str), v5)] = some v5 := by kernel_rfl
theorem lk_Heights_1_0 {v0 : V} : List.lookup ("packing" : Str) [(("packing" : Str), v0)] = some v0 := by kernel_rfl
theorem lk_Heights_2_0 {v0 v1 : V} : List.lookup ("packing" : Str) [(("packing" : Str), v0), (("most" : Str), v1)] = some v0 := by kernel_rfl
theorem lk_Heights_2_1 {v0 v1 : V} : List.lookup ("most" : Str) [(("packing" : Str), v0), (("most" : Str), v1)] = some v1 := by kernel_rfl
theorem lk_Heights_3_0 {v0 v1 v2 : V} : List.lookup ("packing" : Str) [(("packing" : Str), v0), (("most" : Str), v1), (("wide" : Str), v2)] = some v0 := by kernel_rfl
theorem lk_Heights_3_1 {v0 v1 v2 : V} : List.lookup ("most" : Str) [(("packing" : Str), v0), (("most" : Str), v1), (("wide" : Str), v2)] = some v1 := by kernel_rfl
theorem lk_Heights_3_2 {v0 v1 v2 : V} : List.lookup ("wide" : Str) [(("packing" : Str), v0), (("most" : Str), v1), (("wide" : Str), v2)] = some v2 := by kernel_rfl
theorem pf_Settings_0 {v0 : V} : putF ("lengths" : Str) v0 ([] : List (Str × V)) = ([(("lengths" : Str), v0)] : List (Str × V)) := by kernel_rfl
theorem pf_Settings_1 {v0 v1 : V} : putF ("size" : Str) v1 ([(("lengths" : Str), v0)] : List (Str × V)) = ([(("lengths" : Str), v0), (("size" : Str), v1)] : List (Str × V)) := by kernel_rfl
theorem pf_Settings_2 {v0 v1 v2 : V} : putF ("fanout" : Str) v2 ([(("lengths" : Str), v0), (("size" : Str), v1)] : List (Str × V)) = ([(("lengths" : Str), v0), (("size" : Str), v1), (("fanout" : Str), v2)] : List (Str × V)) := by kernel_rfl
theorem pf_Settings_3 {v0 v1 v2 v3 : V} : putF ("records" : Str) v3 ([(("lengths" : Str), v0), (("size" : Str), v1), (("fanout" : Str), v2)] : List (Str × V)) = ([(("lengths" : Str), v0), (("size" : Str), v1), (("fanout" : Str), v2), (("records" : Str), v3)] : List (Str × V)) := by kernel_rfl
theorem pf_Settings_4 {v0 v1 v2 v3 v4 : V} : putF ("every" : Str) v4 ([(("lengths" : Str), v0), (("size" : Str), v1), (("fanout" : Str), v2), (("records" : Str), v3)] : List (Str × V)) = ([(("lengths" : Str), v0), (("size" : Str), v1), (("fanout" : Str), v2), (("records" : Str), v3), (("every" : Str), v4)] : List (Str × V)) := by kernel_rfl
theorem pf_Settings_5 {v0 v1 v2 v3 v4 v5 : V} : putF ("keep" : Str) v5 ([(("lengths" : Str), v0), (("size" : Str), v1), (("fanout" : Str), v2), (("records" : Str), v3), (("every" : Str), v4)] : List (Str × V)) = ([(("lengths" : Str), v0), (("size" : Str), v1), (("fanout" : Str), v2), (("records" : Str), v3), (("every" : Str), v4), (("keep" : Str), v5)] : List (Str × V)) := by kernel_rfl
theorem pf_Packing_0 {v0 : V} : putF ("row_lengths" : Str) v0 ([] : List (Str × V)) = ([(("row_lengths" : Str), v0)] : List (Str × V)) := by kernel_rfl
theorem pf_Packing_1 {v0 v1 : V} : putF ("room" : Str) v1 ([(("row_lengths" : Str), v0)] : List (Str × V)) = ([(("row_lengths" : Str), v0), (("room" : Str), v1)] : List (Str × V)) := by kernel_rfl
theorem pf_Packing_2 {v0 v1 v2 : V} : putF ("starts" : Str) v2 ([(("row_lengths" : Str), v0), (("room" : Str), v1)] : List (Str × V)) = ([(("row_lengths" : Str), v0), (("room" : Str), v1), (("starts" : Str), v2)] : List (Str × V)) := by kernel_rfl
theorem pf_Packing_3 {v0 v1 v2 v3 : V} : putF ("first" : Str) v3 ([(("row_lengths" : Str), v0), (("room" : Str), v1), (("starts" : Str), v2)] : List (Str × V)) = ([(("row_lengths" : Str), v0), (("room" : Str), v1), (("starts" : Str), v2), (("first" : Str), v3)] : List (Str × V)) := by kernel_rfl
theorem pf_Packing_4 {v0 v1 v2 v3 v4 : V} : putF ("pages" : Str) v4 ([(("row_lengths" : Str), v0), (("room" : Str), v1), (("starts" : Str), v2), (("first" : Str), v3)] : List (Str × V)) = ([(("row_lengths" : Str), v0), (("room" : Str), v1), (("starts" : Str), v2), (("first" : Str), v3), (("pages" : Str), v4)] : List (Str × V)) := by kernel_rfl
theorem pf_Packing_5 {v0 v1 v2 v3 v4 v5 : V} : putF ("rows" : Str) v5 ([(("row_lengths" : Str), v0), (("room" : Str), v1), (("starts" : Str), v2), (("first" : Str), v3), (("pages" : Str), v4)] : List (Str × V)) = ([(("row_lengths" : Str), v0), (("room" : Str), v1), (("starts" : Str), v2), (("first" : Str), v3), (("pages" : Str), v4), (("rows" : Str), v5)] : List (Str × V)) := by kernel_rfl
theorem pf_Heights_0 {v0 : V} : putF ("packing" : Str) v0 ([] : List (Str × V)) = ([(("packing" : Str), v0)] : List (Str × V)) := by kernel_rfl
theorem pf_Heights_1 {v0 v1 : V} : putF ("most" : Str) v1 ([(("packing" : Str), v0)] : List (Str × V)) = ([(("packing" : Str), v0), (("most" : Str), v1)] : List (Str × V)) := by kernel_rfl
theorem pf_Heights_2 {v0 v1 v2 : V} : putF ("wide" : Str) v2 ([(("packing" : Str), v0), (("most" : Str), v1)] : List (Str × V)) = ([(("packing" : Str), v0), (("most" : Str), v1), (("wide" : Str), v2)] : List (Str × V)) := by kernel_rfl
def exl : List (PySem.W.Frag → Bool) := [eqCB "Settings", isCB "Settings", kitB2 "Settings" "int" false, kitB2 "Settings" "bool" false, kitB2 "Settings" "list" false, kitB1 "int" "Settings" false, kitB1 "bool" "Settings" false, kitB1 "str" "Settings" false, kitB1 "list" "Settings" false, kitB1 "tuple" "Settings" false, kitB1 "dict" "Settings" false, kitB1 "NoneType" "Settings" false, kitB3 "Settings" "Settings" true, kitB3 "Packing" "Settings" false, kitB3 "Heights" "Settings" false, isCB "Packing", kitB2 "Packing" "int" false, kitB2 "Packing" "bool" false, kitB2 "Packing" "list" false, isCB "Heights", kitB2 "Heights" "int" false, kitB2 "Heights" "bool" false, kitB2 "Heights" "list" false]
def exB (K : PySem.W.Frag) : Bool := exl.all fun f => f K
structure Txt (K : PySem.W.Frag) (mg : Str → Option Value) (D : Nat → FuncData) : Prop where
  d_is_integer : F_is_integer K (D 0)
  d_is_between : F_is_between K (D 1)
  d_check_part : F_check_part K (D 2)
  d_Settings___init__ : F_Settings___init__ K (D 3)
  d_Settings___eq__ : F_Settings___eq__ K (D 4)
  d_Settings_parts : F_Settings_parts K (D 5)
  d_check_settings : F_check_settings K (D 6)
  d_check_moment : F_check_moment K (D 7)
  d_Packing___init__ : F_Packing___init__ K (D 8)
  d_Packing_length : F_Packing_length K (D 9)
  d_Packing_rows_from : F_Packing_rows_from K (D 10)
  d_Packing_start : F_Packing_start K (D 11)
  d_Packing_holder : F_Packing_holder K (D 12)
  d_page_at : F_page_at K (D 13)
  d_first_at : F_first_at K (D 14)
  d_multiplied : F_multiplied K (D 15)
  d_common_factor : F_common_factor K (D 16)
  d_check_level : F_check_level K (D 17)
  d_pages_of : F_pages_of K (D 18)
  d_live : F_live K (D 19)
  d_root_level : F_root_level K (D 20)
  d_nodes_over : F_nodes_over K (D 21)
  d_next_border : F_next_border K (D 22)
  d_tree_root : F_tree_root K (D 23)
  d_tree_nodes : F_tree_nodes K (D 24)
  d_tree_height : F_tree_height K (D 25)
  d_check_least : F_check_least K (D 26)
  d_check_stretch : F_check_stretch K (D 27)
  d_Heights___init__ : F_Heights___init__ K (D 28)
  d_Heights_border_start : F_Heights_border_start K (D 29)
  d_Heights_times_of : F_Heights_times_of K (D 30)
  d_Heights_borders : F_Heights_borders K (D 31)
  d_Heights_sum_of : F_Heights_sum_of K (D 32)
  d_Heights_count : F_Heights_count K (D 33)
  d_Heights_next_one : F_Heights_next_one K (D 34)
  d_count_up_to : F_count_up_to K (D 35)
  d_first_from : F_first_from K (D 36)
  d_height_count : F_height_count K (D 37)
  d_height_sum : F_height_sum K (D 38)
  d_next_height : F_next_height K (D 39)
  d_greatest_height : F_greatest_height K (D 40)
  d_law_digits : F_law_digits K (D 41)
  d_law_parts : F_law_parts K (D 42)
  d_law_settings : F_law_settings K (D 43)
  d_law_moments : F_law_moments K (D 44)
  d_law_near_right : F_law_near_right K (D 45)
  d_law_stretch_right : F_law_stretch_right K (D 46)
  d_law_end_right : F_law_end_right K (D 47)
  d_law : F_law K (D 48)
  d_InvalidSettings___init__ : F_InvalidSettings___init__ K (D 49)
  d_InvalidNumber___init__ : F_InvalidNumber___init__ K (D 50)
  g_is_integer : mg "is_integer" = some (.ref (He.fAd K ("is_integer", none)))
  g_is_between : mg "is_between" = some (.ref (He.fAd K ("is_between", none)))
  g_check_part : mg "check_part" = some (.ref (He.fAd K ("check_part", none)))
  g_check_settings : mg "check_settings" = some (.ref (He.fAd K ("check_settings", none)))
  g_check_moment : mg "check_moment" = some (.ref (He.fAd K ("check_moment", none)))
  g_page_at : mg "page_at" = some (.ref (He.fAd K ("page_at", none)))
  g_first_at : mg "first_at" = some (.ref (He.fAd K ("first_at", none)))
  g_multiplied : mg "multiplied" = some (.ref (He.fAd K ("multiplied", none)))
  g_common_factor : mg "common_factor" = some (.ref (He.fAd K ("common_factor", none)))
  g_check_level : mg "check_level" = some (.ref (He.fAd K ("check_level", none)))
  g_pages_of : mg "pages_of" = some (.ref (He.fAd K ("pages_of", none)))
  g_live : mg "live" = some (.ref (He.fAd K ("live", none)))
  g_root_level : mg "root_level" = some (.ref (He.fAd K ("root_level", none)))
  g_nodes_over : mg "nodes_over" = some (.ref (He.fAd K ("nodes_over", none)))
  g_next_border : mg "next_border" = some (.ref (He.fAd K ("next_border", none)))
  g_tree_root : mg "tree_root" = some (.ref (He.fAd K ("tree_root", none)))
  g_tree_nodes : mg "tree_nodes" = some (.ref (He.fAd K ("tree_nodes", none)))
  g_tree_height : mg "tree_height" = some (.ref (He.fAd K ("tree_height", none)))
  g_check_least : mg "check_least" = some (.ref (He.fAd K ("check_least", none)))
  g_check_stretch : mg "check_stretch" = some (.ref (He.fAd K ("check_stretch", none)))
  g_count_up_to : mg "count_up_to" = some (.ref (He.fAd K ("count_up_to", none)))
  g_first_from : mg "first_from" = some (.ref (He.fAd K ("first_from", none)))
  g_height_count : mg "height_count" = some (.ref (He.fAd K ("height_count", none)))
  g_height_sum : mg "height_sum" = some (.ref (He.fAd K ("height_sum", none)))
  g_next_height : mg "next_height" = some (.ref (He.fAd K ("next_height", none)))
  g_greatest_height : mg "greatest_height" = some (.ref (He.fAd K ("greatest_height", none)))
  g_law_digits : mg "_law_digits" = some (.ref (He.fAd K ("_law_digits", none)))
  g_law_parts : mg "_law_parts" = some (.ref (He.fAd K ("_law_parts", none)))
  g_law_settings : mg "_law_settings" = some (.ref (He.fAd K ("_law_settings", none)))
  g_law_moments : mg "_law_moments" = some (.ref (He.fAd K ("_law_moments", none)))
  g_law_near_right : mg "_law_near_right" = some (.ref (He.fAd K ("_law_near_right", none)))
  g_law_stretch_right : mg "_law_stretch_right" = some (.ref (He.fAd K ("_law_stretch_right", none)))
  g_law_end_right : mg "_law_end_right" = some (.ref (He.fAd K ("_law_end_right", none)))
  g_law : mg "law" = some (.ref (He.fAd K ("law", none)))
  g_Settings : mg "Settings" = some (.ref (He.ga K "Settings"))
  g_Packing : mg "Packing" = some (.ref (He.ga K "Packing"))
  g_Heights : mg "Heights" = some (.ref (He.ga K "Heights"))
  g_StoreError : mg "StoreError" = some (.ref (He.ga K "StoreError"))
  g_InvalidSettings : mg "InvalidSettings" = some (.ref (He.ga K "InvalidSettings"))
  g_InvalidNumber : mg "InvalidNumber" = some (.ref (He.ga K "InvalidNumber"))
  c_Settings : Cls K (He.ga K "Settings")
  mk_Settings : Mk K (He.ga K "Settings") (He.fAd K ("Settings", some "__init__"))
  a_Settings_lengths : NoAttr K (He.ga K "Settings") "lengths"
  a_Settings_size : NoAttr K (He.ga K "Settings") "size"
  a_Settings_fanout : NoAttr K (He.ga K "Settings") "fanout"
  a_Settings_records : NoAttr K (He.ga K "Settings") "records"
  a_Settings_every : NoAttr K (He.ga K "Settings") "every"
  a_Settings_keep : NoAttr K (He.ga K "Settings") "keep"
  m_Settings___eq__ : Meth K (He.ga K "Settings") "__eq__" (He.fAd K ("Settings", some "__eq__"))
  m_Settings_parts : Meth K (He.ga K "Settings") "parts" (He.fAd K ("Settings", some "parts"))
  c_Packing : Cls K (He.ga K "Packing")
  mk_Packing : Mk K (He.ga K "Packing") (He.fAd K ("Packing", some "__init__"))
  a_Packing_row_lengths : NoAttr K (He.ga K "Packing") "row_lengths"
  a_Packing_room : NoAttr K (He.ga K "Packing") "room"
  a_Packing_starts : NoAttr K (He.ga K "Packing") "starts"
  a_Packing_first : NoAttr K (He.ga K "Packing") "first"
  a_Packing_pages : NoAttr K (He.ga K "Packing") "pages"
  a_Packing_rows : NoAttr K (He.ga K "Packing") "rows"
  m_Packing_length : Meth K (He.ga K "Packing") "length" (He.fAd K ("Packing", some "length"))
  m_Packing_rows_from : Meth K (He.ga K "Packing") "rows_from" (He.fAd K ("Packing", some "rows_from"))
  m_Packing_start : Meth K (He.ga K "Packing") "start" (He.fAd K ("Packing", some "start"))
  m_Packing_holder : Meth K (He.ga K "Packing") "holder" (He.fAd K ("Packing", some "holder"))
  c_Heights : Cls K (He.ga K "Heights")
  mk_Heights : Mk K (He.ga K "Heights") (He.fAd K ("Heights", some "__init__"))
  a_Heights_packing : NoAttr K (He.ga K "Heights") "packing"
  a_Heights_most : NoAttr K (He.ga K "Heights") "most"
  a_Heights_wide : NoAttr K (He.ga K "Heights") "wide"
  m_Heights_border_start : Meth K (He.ga K "Heights") "border_start" (He.fAd K ("Heights", some "border_start"))
  m_Heights_times_of : Meth K (He.ga K "Heights") "times_of" (He.fAd K ("Heights", some "times_of"))
  m_Heights_borders : Meth K (He.ga K "Heights") "borders" (He.fAd K ("Heights", some "borders"))
  m_Heights_sum_of : Meth K (He.ga K "Heights") "sum_of" (He.fAd K ("Heights", some "sum_of"))
  m_Heights_count : Meth K (He.ga K "Heights") "count" (He.fAd K ("Heights", some "count"))
  m_Heights_next_one : Meth K (He.ga K "Heights") "next_one" (He.fAd K ("Heights", some "next_one"))
  n_int : mg "int" = none
  n_len : mg "len" = none
  n_range : mg "range" = none
  n_isinstance : mg "isinstance" = none
  n_list : mg "list" = none
  n_tuple : mg "tuple" = none
  n_bool : mg "bool" = none
  n_set : mg "set" = none
  n_max : mg "max" = none
  n_min : mg "min" = none
  n_sum : mg "sum" = none
  n_sorted : mg "sorted" = none
  n_divmod : mg "divmod" = none
  i_MOST_ROW : ∃ t, mg "MOST_ROW" = some (.int (1000000000000000000000000000000) t)
  i_MOST_LENGTHS : ∃ t, mg "MOST_LENGTHS" = some (.int (6) t)
  i_MOST_SIZE : ∃ t, mg "MOST_SIZE" = some (.int (64) t)
  i_MOST_FANOUT : ∃ t, mg "MOST_FANOUT" = some (.int (8) t)
  i_MOST_RECORDS : ∃ t, mg "MOST_RECORDS" = some (.int (16) t)
  i_MOST_EVERY : ∃ t, mg "MOST_EVERY" = some (.int (40) t)
  i_MOST_KEEP : ∃ t, mg "MOST_KEEP" = some (.int (100) t)
  i_MOST_LEVEL : ∃ t, mg "MOST_LEVEL" = some (.int (110) t)
  i_MOST_HEIGHT : ∃ t, mg "MOST_HEIGHT" = some (.int (111) t)
  eq_Settings : EqC K (He.ga K "Settings")
  ic_Settings : IsC K (He.ga K "Settings")
  kc_Settings_int : PySem.W.kitOne K (.ref (He.ga K "Settings")) (.type "int") = some false
  kc_Settings_bool : PySem.W.kitOne K (.ref (He.ga K "Settings")) (.type "bool") = some false
  kc_Settings_list : PySem.W.kitOne K (.ref (He.ga K "Settings")) (.type "list") = some false
  kb_int_Settings : PySem.W.kitOne K (.type "int") (.ref (He.ga K "Settings")) = some false
  kb_bool_Settings : PySem.W.kitOne K (.type "bool") (.ref (He.ga K "Settings")) = some false
  kb_str_Settings : PySem.W.kitOne K (.type "str") (.ref (He.ga K "Settings")) = some false
  kb_list_Settings : PySem.W.kitOne K (.type "list") (.ref (He.ga K "Settings")) = some false
  kb_tuple_Settings : PySem.W.kitOne K (.type "tuple") (.ref (He.ga K "Settings")) = some false
  kb_dict_Settings : PySem.W.kitOne K (.type "dict") (.ref (He.ga K "Settings")) = some false
  kb_NoneType_Settings : PySem.W.kitOne K (.type "NoneType") (.ref (He.ga K "Settings")) = some false
  kk_Settings_Settings : PySem.W.kitOne K (.ref (He.ga K "Settings")) (.ref (He.ga K "Settings")) = some true
  kk_Packing_Settings : PySem.W.kitOne K (.ref (He.ga K "Packing")) (.ref (He.ga K "Settings")) = some false
  kk_Heights_Settings : PySem.W.kitOne K (.ref (He.ga K "Heights")) (.ref (He.ga K "Settings")) = some false
  ic_Packing : IsC K (He.ga K "Packing")
  kc_Packing_int : PySem.W.kitOne K (.ref (He.ga K "Packing")) (.type "int") = some false
  kc_Packing_bool : PySem.W.kitOne K (.ref (He.ga K "Packing")) (.type "bool") = some false
  kc_Packing_list : PySem.W.kitOne K (.ref (He.ga K "Packing")) (.type "list") = some false
  ic_Heights : IsC K (He.ga K "Heights")
  kc_Heights_int : PySem.W.kitOne K (.ref (He.ga K "Heights")) (.type "int") = some false
  kc_Heights_bool : PySem.W.kitOne K (.ref (He.ga K "Heights")) (.type "bool") = some false
  kc_Heights_list : PySem.W.kitOne K (.ref (He.ga K "Heights")) (.type "list") = some false
def fnl : List He.DefD := [dd_is_integer, dd_is_between, dd_check_part, dd_Settings___init__, dd_Settings___eq__, dd_Settings_parts, dd_check_settings, dd_check_moment, dd_Packing___init__, dd_Packing_length, dd_Packing_rows_from, dd_Packing_start, dd_Packing_holder, dd_page_at, dd_first_at, dd_multiplied, dd_common_factor, dd_check_level, dd_pages_of, dd_live, dd_root_level, dd_nodes_over, dd_next_border, dd_tree_root, dd_tree_nodes, dd_tree_height, dd_check_least, dd_check_stretch, dd_Heights___init__, dd_Heights_border_start, dd_Heights_times_of, dd_Heights_borders, dd_Heights_sum_of, dd_Heights_count, dd_Heights_next_one, dd_count_up_to, dd_first_from, dd_height_count, dd_height_sum, dd_next_height, dd_greatest_height, dd_law_digits, dd_law_parts, dd_law_settings, dd_law_moments, dd_law_near_right, dd_law_stretch_right, dd_law_end_right, dd_law, dd_InvalidSettings___init__, dd_InvalidNumber___init__]
def fal : List He.Fa := [.glo "is_integer", .glo "is_between", .glo "check_part", .glo "check_settings", .glo "check_moment", .glo "page_at", .glo "first_at", .glo "multiplied", .glo "common_factor", .glo "check_level", .glo "pages_of", .glo "live", .glo "root_level", .glo "nodes_over", .glo "next_border", .glo "tree_root", .glo "tree_nodes", .glo "tree_height", .glo "check_least", .glo "check_stretch", .glo "count_up_to", .glo "first_from", .glo "height_count", .glo "height_sum", .glo "next_height", .glo "greatest_height", .glo "_law_digits", .glo "_law_parts", .glo "_law_settings", .glo "_law_moments", .glo "_law_near_right", .glo "_law_stretch_right", .glo "_law_end_right", .glo "law", .glo "Settings", .glo "Packing", .glo "Heights", .glo "StoreError", .glo "InvalidSettings", .glo "InvalidNumber", .cls "Settings", .mkr "Settings", .noat "Settings" "lengths", .noat "Settings" "size", .noat "Settings" "fanout", .noat "Settings" "records", .noat "Settings" "every", .noat "Settings" "keep", .meth "Settings" "__eq__", .meth "Settings" "parts", .cls "Packing", .mkr "Packing", .noat "Packing" "row_lengths", .noat "Packing" "room", .noat "Packing" "starts", .noat "Packing" "first", .noat "Packing" "pages", .noat "Packing" "rows", .meth "Packing" "length", .meth "Packing" "rows_from", .meth "Packing" "start", .meth "Packing" "holder", .cls "Heights", .mkr "Heights", .noat "Heights" "packing", .noat "Heights" "most", .noat "Heights" "wide", .meth "Heights" "border_start", .meth "Heights" "times_of", .meth "Heights" "borders", .meth "Heights" "sum_of", .meth "Heights" "count", .meth "Heights" "next_one", .free "int", .free "len", .free "range", .free "isinstance", .free "list", .free "tuple", .free "bool", .free "set", .free "max", .free "min", .free "sum", .free "sorted", .free "divmod", .int "MOST_ROW" (1000000000000000000000000000000), .int "MOST_LENGTHS" (6), .int "MOST_SIZE" (64), .int "MOST_FANOUT" (8), .int "MOST_RECORDS" (16), .int "MOST_EVERY" (40), .int "MOST_KEEP" (100), .int "MOST_LEVEL" (110), .int "MOST_HEIGHT" (111)]
def D_is_integer : Nat := 0
def D_is_between : Nat := 1
def D_check_part : Nat := 2
def D_Settings___init__ : Nat := 3
def D_Settings___eq__ : Nat := 4
def D_Settings_parts : Nat := 5
def D_check_settings : Nat := 6
def D_check_moment : Nat := 7
def D_Packing___init__ : Nat := 8
def D_Packing_length : Nat := 9
def D_Packing_rows_from : Nat := 10
def D_Packing_start : Nat := 11
def D_Packing_holder : Nat := 12
def D_page_at : Nat := 13
def D_first_at : Nat := 14
def D_multiplied : Nat := 15
def D_common_factor : Nat := 16
def D_check_level : Nat := 17
def D_pages_of : Nat := 18
def D_live : Nat := 19
def D_root_level : Nat := 20
def D_nodes_over : Nat := 21
def D_next_border : Nat := 22
def D_tree_root : Nat := 23
def D_tree_nodes : Nat := 24
def D_tree_height : Nat := 25
def D_check_least : Nat := 26
def D_check_stretch : Nat := 27
def D_Heights___init__ : Nat := 28
def D_Heights_border_start : Nat := 29
def D_Heights_times_of : Nat := 30
def D_Heights_borders : Nat := 31
def D_Heights_sum_of : Nat := 32
def D_Heights_count : Nat := 33
def D_Heights_next_one : Nat := 34
def D_count_up_to : Nat := 35
def D_first_from : Nat := 36
def D_height_count : Nat := 37
def D_height_sum : Nat := 38
def D_next_height : Nat := 39
def D_greatest_height : Nat := 40
def D_law_digits : Nat := 41
def D_law_parts : Nat := 42
def D_law_settings : Nat := 43
def D_law_moments : Nat := 44
def D_law_near_right : Nat := 45
def D_law_stretch_right : Nat := 46
def D_law_end_right : Nat := 47
def D_law : Nat := 48
def D_InvalidSettings___init__ : Nat := 49
def D_InvalidNumber___init__ : Nat := 50
theorem txt_of {K : PySem.W.Frag} {h : Heap} {mg : Str → Option Value} (X : K.In h) (G : h.Ns mainGlobals mg) (c : He.SaysD fal fnl K) (cx : exB K = true) : ∃ D, Txt K mg D := by
  have hx : ∀ f ∈ exl, f K = true := List.all_eq_true.mp cx
  have hd : ∀ i : Nat, ∃ fd : FuncData, ∀ d : He.DefD, fnl[i]? = some d → FunD K d.name d.qual d.params d.body d.scope (d.dvs K) (d.kws K) (He.fAd K d.at_) fd := fun i => by
    cases e : fnl[i]? with
    | none => exact ⟨PySem.W.fnOf "" "" (defArgs (topS 0)) [] (defScope (topS 0)) .none .none .none .none none .none .none, fun d h => nomatch h⟩
    | some d =>
      obtain ⟨fd, h⟩ := c.def_ i e
      exact ⟨fd, fun d2 h2 => by cases h2; exact h⟩
  have key := Classical.axiomOfChoice hd
  obtain ⟨D, hD⟩ := key
  refine ⟨D, ?_⟩
  constructor
  · exact hD 0 dd_is_integer rfl
  · exact hD 1 dd_is_between rfl
  · exact hD 2 dd_check_part rfl
  · exact hD 3 dd_Settings___init__ rfl
  · exact hD 4 dd_Settings___eq__ rfl
  · exact hD 5 dd_Settings_parts rfl
  · exact hD 6 dd_check_settings rfl
  · exact hD 7 dd_check_moment rfl
  · exact hD 8 dd_Packing___init__ rfl
  · exact hD 9 dd_Packing_length rfl
  · exact hD 10 dd_Packing_rows_from rfl
  · exact hD 11 dd_Packing_start rfl
  · exact hD 12 dd_Packing_holder rfl
  · exact hD 13 dd_page_at rfl
  · exact hD 14 dd_first_at rfl
  · exact hD 15 dd_multiplied rfl
  · exact hD 16 dd_common_factor rfl
  · exact hD 17 dd_check_level rfl
  · exact hD 18 dd_pages_of rfl
  · exact hD 19 dd_live rfl
  · exact hD 20 dd_root_level rfl
  · exact hD 21 dd_nodes_over rfl
  · exact hD 22 dd_next_border rfl
  · exact hD 23 dd_tree_root rfl
  · exact hD 24 dd_tree_nodes rfl
  · exact hD 25 dd_tree_height rfl
  · exact hD 26 dd_check_least rfl
  · exact hD 27 dd_check_stretch rfl
  · exact hD 28 dd_Heights___init__ rfl
  · exact hD 29 dd_Heights_border_start rfl
  · exact hD 30 dd_Heights_times_of rfl
  · exact hD 31 dd_Heights_borders rfl
  · exact hD 32 dd_Heights_sum_of rfl
  · exact hD 33 dd_Heights_count rfl
  · exact hD 34 dd_Heights_next_one rfl
  · exact hD 35 dd_count_up_to rfl
  · exact hD 36 dd_first_from rfl
  · exact hD 37 dd_height_count rfl
  · exact hD 38 dd_height_sum rfl
  · exact hD 39 dd_next_height rfl
  · exact hD 40 dd_greatest_height rfl
  · exact hD 41 dd_law_digits rfl
  · exact hD 42 dd_law_parts rfl
  · exact hD 43 dd_law_settings rfl
  · exact hD 44 dd_law_moments rfl
  · exact hD 45 dd_law_near_right rfl
  · exact hD 46 dd_law_stretch_right rfl
  · exact hD 47 dd_law_end_right rfl
  · exact hD 48 dd_law rfl
  · exact hD 49 dd_InvalidSettings___init__ rfl
  · exact hD 50 dd_InvalidNumber___init__ rfl
  · exact He.glo_ok X G (c.fact 0 (f := .glo "is_integer") rfl)
  · exact He.glo_ok X G (c.fact 1 (f := .glo "is_between") rfl)
  · exact He.glo_ok X G (c.fact 2 (f := .glo "check_part") rfl)
  · exact He.glo_ok X G (c.fact 3 (f := .glo "check_settings") rfl)
  · exact He.glo_ok X G (c.fact 4 (f := .glo "check_moment") rfl)
  · exact He.glo_ok X G (c.fact 5 (f := .glo "page_at") rfl)
  · exact He.glo_ok X G (c.fact 6 (f := .glo "first_at") rfl)
  · exact He.glo_ok X G (c.fact 7 (f := .glo "multiplied") rfl)
  · exact He.glo_ok X G (c.fact 8 (f := .glo "common_factor") rfl)
  · exact He.glo_ok X G (c.fact 9 (f := .glo "check_level") rfl)
  · exact He.glo_ok X G (c.fact 10 (f := .glo "pages_of") rfl)
  · exact He.glo_ok X G (c.fact 11 (f := .glo "live") rfl)
  · exact He.glo_ok X G (c.fact 12 (f := .glo "root_level") rfl)
  · exact He.glo_ok X G (c.fact 13 (f := .glo "nodes_over") rfl)
  · exact He.glo_ok X G (c.fact 14 (f := .glo "next_border") rfl)
  · exact He.glo_ok X G (c.fact 15 (f := .glo "tree_root") rfl)
  · exact He.glo_ok X G (c.fact 16 (f := .glo "tree_nodes") rfl)
  · exact He.glo_ok X G (c.fact 17 (f := .glo "tree_height") rfl)
  · exact He.glo_ok X G (c.fact 18 (f := .glo "check_least") rfl)
  · exact He.glo_ok X G (c.fact 19 (f := .glo "check_stretch") rfl)
  · exact He.glo_ok X G (c.fact 20 (f := .glo "count_up_to") rfl)
  · exact He.glo_ok X G (c.fact 21 (f := .glo "first_from") rfl)
  · exact He.glo_ok X G (c.fact 22 (f := .glo "height_count") rfl)
  · exact He.glo_ok X G (c.fact 23 (f := .glo "height_sum") rfl)
  · exact He.glo_ok X G (c.fact 24 (f := .glo "next_height") rfl)
  · exact He.glo_ok X G (c.fact 25 (f := .glo "greatest_height") rfl)
  · exact He.glo_ok X G (c.fact 26 (f := .glo "_law_digits") rfl)
  · exact He.glo_ok X G (c.fact 27 (f := .glo "_law_parts") rfl)
  · exact He.glo_ok X G (c.fact 28 (f := .glo "_law_settings") rfl)
  · exact He.glo_ok X G (c.fact 29 (f := .glo "_law_moments") rfl)
  · exact He.glo_ok X G (c.fact 30 (f := .glo "_law_near_right") rfl)
  · exact He.glo_ok X G (c.fact 31 (f := .glo "_law_stretch_right") rfl)
  · exact He.glo_ok X G (c.fact 32 (f := .glo "_law_end_right") rfl)
  · exact He.glo_ok X G (c.fact 33 (f := .glo "law") rfl)
  · exact He.glo_ok X G (c.fact 34 (f := .glo "Settings") rfl)
  · exact He.glo_ok X G (c.fact 35 (f := .glo "Packing") rfl)
  · exact He.glo_ok X G (c.fact 36 (f := .glo "Heights") rfl)
  · exact He.glo_ok X G (c.fact 37 (f := .glo "StoreError") rfl)
  · exact He.glo_ok X G (c.fact 38 (f := .glo "InvalidSettings") rfl)
  · exact He.glo_ok X G (c.fact 39 (f := .glo "InvalidNumber") rfl)
  · exact He.cls_ok (c.fact 40 (f := .cls "Settings") rfl)
  · exact He.mkr_ok (c.fact 41 (f := .mkr "Settings") rfl)
  · exact He.noat_ok (c.fact 42 (f := .noat "Settings" "lengths") rfl)
  · exact He.noat_ok (c.fact 43 (f := .noat "Settings" "size") rfl)
  · exact He.noat_ok (c.fact 44 (f := .noat "Settings" "fanout") rfl)
  · exact He.noat_ok (c.fact 45 (f := .noat "Settings" "records") rfl)
  · exact He.noat_ok (c.fact 46 (f := .noat "Settings" "every") rfl)
  · exact He.noat_ok (c.fact 47 (f := .noat "Settings" "keep") rfl)
  · exact He.meth_ok (c.fact 48 (f := .meth "Settings" "__eq__") rfl)
  · exact He.meth_ok (c.fact 49 (f := .meth "Settings" "parts") rfl)
  · exact He.cls_ok (c.fact 50 (f := .cls "Packing") rfl)
  · exact He.mkr_ok (c.fact 51 (f := .mkr "Packing") rfl)
  · exact He.noat_ok (c.fact 52 (f := .noat "Packing" "row_lengths") rfl)
  · exact He.noat_ok (c.fact 53 (f := .noat "Packing" "room") rfl)
  · exact He.noat_ok (c.fact 54 (f := .noat "Packing" "starts") rfl)
  · exact He.noat_ok (c.fact 55 (f := .noat "Packing" "first") rfl)
  · exact He.noat_ok (c.fact 56 (f := .noat "Packing" "pages") rfl)
  · exact He.noat_ok (c.fact 57 (f := .noat "Packing" "rows") rfl)
  · exact He.meth_ok (c.fact 58 (f := .meth "Packing" "length") rfl)
  · exact He.meth_ok (c.fact 59 (f := .meth "Packing" "rows_from") rfl)
  · exact He.meth_ok (c.fact 60 (f := .meth "Packing" "start") rfl)
  · exact He.meth_ok (c.fact 61 (f := .meth "Packing" "holder") rfl)
  · exact He.cls_ok (c.fact 62 (f := .cls "Heights") rfl)
  · exact He.mkr_ok (c.fact 63 (f := .mkr "Heights") rfl)
  · exact He.noat_ok (c.fact 64 (f := .noat "Heights" "packing") rfl)
  · exact He.noat_ok (c.fact 65 (f := .noat "Heights" "most") rfl)
  · exact He.noat_ok (c.fact 66 (f := .noat "Heights" "wide") rfl)
  · exact He.meth_ok (c.fact 67 (f := .meth "Heights" "border_start") rfl)
  · exact He.meth_ok (c.fact 68 (f := .meth "Heights" "times_of") rfl)
  · exact He.meth_ok (c.fact 69 (f := .meth "Heights" "borders") rfl)
  · exact He.meth_ok (c.fact 70 (f := .meth "Heights" "sum_of") rfl)
  · exact He.meth_ok (c.fact 71 (f := .meth "Heights" "count") rfl)
  · exact He.meth_ok (c.fact 72 (f := .meth "Heights" "next_one") rfl)
  · exact He.free_ok X G (c.fact 73 (f := .free "int") rfl)
  · exact He.free_ok X G (c.fact 74 (f := .free "len") rfl)
  · exact He.free_ok X G (c.fact 75 (f := .free "range") rfl)
  · exact He.free_ok X G (c.fact 76 (f := .free "isinstance") rfl)
  · exact He.free_ok X G (c.fact 77 (f := .free "list") rfl)
  · exact He.free_ok X G (c.fact 78 (f := .free "tuple") rfl)
  · exact He.free_ok X G (c.fact 79 (f := .free "bool") rfl)
  · exact He.free_ok X G (c.fact 80 (f := .free "set") rfl)
  · exact He.free_ok X G (c.fact 81 (f := .free "max") rfl)
  · exact He.free_ok X G (c.fact 82 (f := .free "min") rfl)
  · exact He.free_ok X G (c.fact 83 (f := .free "sum") rfl)
  · exact He.free_ok X G (c.fact 84 (f := .free "sorted") rfl)
  · exact He.free_ok X G (c.fact 85 (f := .free "divmod") rfl)
  · exact He.int_ok X G (c.fact 86 (f := .int "MOST_ROW" (1000000000000000000000000000000)) rfl)
  · exact He.int_ok X G (c.fact 87 (f := .int "MOST_LENGTHS" (6)) rfl)
  · exact He.int_ok X G (c.fact 88 (f := .int "MOST_SIZE" (64)) rfl)
  · exact He.int_ok X G (c.fact 89 (f := .int "MOST_FANOUT" (8)) rfl)
  · exact He.int_ok X G (c.fact 90 (f := .int "MOST_RECORDS" (16)) rfl)
  · exact He.int_ok X G (c.fact 91 (f := .int "MOST_EVERY" (40)) rfl)
  · exact He.int_ok X G (c.fact 92 (f := .int "MOST_KEEP" (100)) rfl)
  · exact He.int_ok X G (c.fact 93 (f := .int "MOST_LEVEL" (110)) rfl)
  · exact He.int_ok X G (c.fact 94 (f := .int "MOST_HEIGHT" (111)) rfl)
  · exact eqCB_ok (hx (eqCB "Settings") (List.mem_of_getElem? (i := 0) rfl))
  · exact isCB_ok (hx (isCB "Settings") (List.mem_of_getElem? (i := 1) rfl))
  · exact of_decide_eq_true (hx (kitB2 "Settings" "int" false) (List.mem_of_getElem? (i := 2) rfl))
  · exact of_decide_eq_true (hx (kitB2 "Settings" "bool" false) (List.mem_of_getElem? (i := 3) rfl))
  · exact of_decide_eq_true (hx (kitB2 "Settings" "list" false) (List.mem_of_getElem? (i := 4) rfl))
  · exact of_decide_eq_true (hx (kitB1 "int" "Settings" false) (List.mem_of_getElem? (i := 5) rfl))
  · exact of_decide_eq_true (hx (kitB1 "bool" "Settings" false) (List.mem_of_getElem? (i := 6) rfl))
  · exact of_decide_eq_true (hx (kitB1 "str" "Settings" false) (List.mem_of_getElem? (i := 7) rfl))
  · exact of_decide_eq_true (hx (kitB1 "list" "Settings" false) (List.mem_of_getElem? (i := 8) rfl))
  · exact of_decide_eq_true (hx (kitB1 "tuple" "Settings" false) (List.mem_of_getElem? (i := 9) rfl))
  · exact of_decide_eq_true (hx (kitB1 "dict" "Settings" false) (List.mem_of_getElem? (i := 10) rfl))
  · exact of_decide_eq_true (hx (kitB1 "NoneType" "Settings" false) (List.mem_of_getElem? (i := 11) rfl))
  · exact of_decide_eq_true (hx (kitB3 "Settings" "Settings" true) (List.mem_of_getElem? (i := 12) rfl))
  · exact of_decide_eq_true (hx (kitB3 "Packing" "Settings" false) (List.mem_of_getElem? (i := 13) rfl))
  · exact of_decide_eq_true (hx (kitB3 "Heights" "Settings" false) (List.mem_of_getElem? (i := 14) rfl))
  · exact isCB_ok (hx (isCB "Packing") (List.mem_of_getElem? (i := 15) rfl))
  · exact of_decide_eq_true (hx (kitB2 "Packing" "int" false) (List.mem_of_getElem? (i := 16) rfl))
  · exact of_decide_eq_true (hx (kitB2 "Packing" "bool" false) (List.mem_of_getElem? (i := 17) rfl))
  · exact of_decide_eq_true (hx (kitB2 "Packing" "list" false) (List.mem_of_getElem? (i := 18) rfl))
  · exact isCB_ok (hx (isCB "Heights") (List.mem_of_getElem? (i := 19) rfl))
  · exact of_decide_eq_true (hx (kitB2 "Heights" "int" false) (List.mem_of_getElem? (i := 20) rfl))
  · exact of_decide_eq_true (hx (kitB2 "Heights" "bool" false) (List.mem_of_getElem? (i := 21) rfl))
  · exact of_decide_eq_true (hx (kitB2 "Heights" "list" false) (List.mem_of_getElem? (i := 22) rfl))
abbrev RowK : PySem.W.OpenRow := PySem.W.OpenLaw.row PySem.Challenge.rw_keeprows_k85_whole_heights_far_away
abbrev hk : PySem.W.Hook := hookB 6 fal fnl exB
def ob (s : PySem.W.SharedT) : He.AlD := obsB 6 fal fnl exB (HandSHeadRun.getT s)
theorem ob_eq (s : PySem.W.SharedT) : ob s = hk.obs s.abs := obsB_eq (HandSHeadRun.getT_eq s)
def looseN : List Str := (["_wall", "StoreError", "InvalidSettings", "InvalidNumber", "MOST_ROW", "MOST_LENGTHS", "MOST_SIZE", "MOST_FANOUT", "MOST_RECORDS", "MOST_EVERY", "MOST_KEEP", "is_integer", "is_between", "check_part", "Settings", "check_settings", "check_moment", "Packing", "page_at", "first_at", "multiplied", "common_factor", "MOST_LEVEL", "check_level", "pages_of"] : List Str) ++ (["live", "root_level", "nodes_over", "next_border", "tree_root", "tree_nodes", "tree_height", "MOST_HEIGHT", "check_least", "check_stretch", "Heights", "count_up_to", "first_from", "height_count", "height_sum", "next_height", "greatest_height", "_law_digits", "_law_parts", "_law_settings", "_law_moments", "_law_near_right", "_law_stretch_right", "_law_end_right"] : List Str)
theorem run (w : World) : HandSHeadRun.RunEq RowK (PySem.W.view RowK.prog [56]) hk ob 4000 looseN w := by
  intro os
  kernel_rfl
end KR
local macro_rules | `(tactic| walk_at "cls") => `(tactic| first
  | exact KR.Txt.c_Settings (by assumption)
  | exact KR.Txt.c_Packing (by assumption)
  | exact KR.Txt.c_Heights (by assumption))
local macro_rules | `(tactic| walk_at "noat") => `(tactic| first
  | exact KR.Txt.a_Settings_lengths (by assumption)
  | exact KR.Txt.a_Settings_size (by assumption)
  | exact KR.Txt.a_Settings_fanout (by assumption)
  | exact KR.Txt.a_Settings_records (by assumption)
  | exact KR.Txt.a_Settings_every (by assumption)
  | exact KR.Txt.a_Settings_keep (by assumption)
  | exact KR.Txt.a_Packing_row_lengths (by assumption)
  | exact KR.Txt.a_Packing_room (by assumption)
  | exact KR.Txt.a_Packing_starts (by assumption)
  | exact KR.Txt.a_Packing_first (by assumption)
  | exact KR.Txt.a_Packing_pages (by assumption)
  | exact KR.Txt.a_Packing_rows (by assumption)
  | exact KR.Txt.a_Heights_packing (by assumption)
  | exact KR.Txt.a_Heights_most (by assumption)
  | exact KR.Txt.a_Heights_wide (by assumption))
local macro_rules | `(tactic| walk_at "lk") => `(tactic| first
  | assumption
  | with_reducible exact KR.lk_Heights_3_2
  | with_reducible exact KR.lk_Heights_3_1
  | with_reducible exact KR.lk_Heights_3_0
  | with_reducible exact KR.lk_Heights_2_1
  | with_reducible exact KR.lk_Heights_2_0
  | with_reducible exact KR.lk_Heights_1_0
  | with_reducible exact KR.lk_Packing_6_5
  | with_reducible exact KR.lk_Packing_6_4
  | with_reducible exact KR.lk_Packing_6_3
  | with_reducible exact KR.lk_Packing_6_2
  | with_reducible exact KR.lk_Packing_6_1
  | with_reducible exact KR.lk_Packing_6_0
  | with_reducible exact KR.lk_Packing_5_4
  | with_reducible exact KR.lk_Packing_5_3
  | with_reducible exact KR.lk_Packing_5_2
  | with_reducible exact KR.lk_Packing_5_1
  | with_reducible exact KR.lk_Packing_5_0
  | with_reducible exact KR.lk_Packing_4_3
  | with_reducible exact KR.lk_Packing_4_2
  | with_reducible exact KR.lk_Packing_4_1
  | with_reducible exact KR.lk_Packing_4_0
  | with_reducible exact KR.lk_Packing_3_2
  | with_reducible exact KR.lk_Packing_3_1
  | with_reducible exact KR.lk_Packing_3_0
  | with_reducible exact KR.lk_Packing_2_1
  | with_reducible exact KR.lk_Packing_2_0
  | with_reducible exact KR.lk_Packing_1_0
  | with_reducible exact KR.lk_Settings_6_5
  | with_reducible exact KR.lk_Settings_6_4
  | with_reducible exact KR.lk_Settings_6_3
  | with_reducible exact KR.lk_Settings_6_2
  | with_reducible exact KR.lk_Settings_6_1
  | with_reducible exact KR.lk_Settings_6_0
  | with_reducible exact KR.lk_Settings_5_4
  | with_reducible exact KR.lk_Settings_5_3
  | with_reducible exact KR.lk_Settings_5_2
  | with_reducible exact KR.lk_Settings_5_1
  | with_reducible exact KR.lk_Settings_5_0
  | with_reducible exact KR.lk_Settings_4_3
  | with_reducible exact KR.lk_Settings_4_2
  | with_reducible exact KR.lk_Settings_4_1
  | with_reducible exact KR.lk_Settings_4_0
  | with_reducible exact KR.lk_Settings_3_2
  | with_reducible exact KR.lk_Settings_3_1
  | with_reducible exact KR.lk_Settings_3_0
  | with_reducible exact KR.lk_Settings_2_1
  | with_reducible exact KR.lk_Settings_2_0
  | with_reducible exact KR.lk_Settings_1_0
  | kernel_rfl)
local macro_rules | `(tactic| walk_at "dg") => `(tactic| first
  | exact KR.pg_lengths (by walk_at "hp")
  | exact KR.pg_size (by walk_at "hp")
  | exact KR.pg_fanout (by walk_at "hp")
  | exact KR.pg_records (by walk_at "hp")
  | exact KR.pg_every (by walk_at "hp")
  | exact KR.pg_keep (by walk_at "hp"))
local macro_rules | `(tactic| walk_at "sd") => `(tactic| first
  | omega
  | decide
  | exact KR.szl (Nat.le_of_ble_eq_true rfl)
  | ((repeat' split) <;> omega)
  | exact ⟨Nat.le_of_ble_eq_true rfl, Nat.le_of_ble_eq_true rfl⟩
  | (refine KR.cdw ?_ ?_ <;> omega)
  | (refine KR.cdv ?_ ?_ <;> omega)
  | (refine KR.cml ?_ ?_ <;> omega)
  | (refine KR.cmr ?_ ?_ <;> omega))
local macro_rules | `(tactic| walk_at "hp") => `(tactic| first
  | assumption
  | exact KR.hp_same (by assumption) (by assumption)
  | exact KR.hp_sb (by assumption) (by assumption) (by assumption))
local macro_rules | `(tactic| walk_at "s1") => `(tactic| first
  | refine ⟨_, rfl, ?_⟩
  | refine L2.iteT ?_
  | refine L2.iteF ?_
  | refine ⟨_, _, rfl, rfl, ?_⟩
  | refine Or.inl ⟨_, rfl, ?_⟩
  | (refine' ⟨_, _, _, _, rfl, rfl, L2.SqL.of ?h1, ?h2, ?_⟩; (case h1 => walk_at "hp"); (case h2 => rfl))
  | (refine' ⟨_, _, _, _, rfl, rfl, L2.SqT.of ?h1, ?h2, ?_⟩; (case h1 => walk_at "hp"); (case h2 => rfl))
  | refine ⟨rfl, ?_⟩
  | refine ⟨_, _, rfl, ?_⟩
  | refine ⟨_, _, _, rfl, ?_⟩
  | (refine' ⟨_, _, rfl, L2.SqT.of ?h1, ?h2, ?_⟩; (case h1 => walk_at "hp"); (case h2 => rfl))
  | (refine' ⟨_, _, rfl, Or.inl (L2.SqL.of ?h1), ?_⟩; (case h1 => walk_at "hp"))
  | (refine' ⟨_, _, rfl, Or.inr (L2.SqT.of ?h1), ?_⟩; (case h1 => walk_at "hp"))
  | (refine' ⟨_, _, _, _, _, rfl, ?h1, ?h2, ?h3, ?h4, ?_⟩; (case h1 => walk_at "hp"); (case h2 => walk_at "cls"); (case h3 => walk_at "noat"); (case h4 => walk_at "lk"))
  | (refine' ⟨_, _, _, _, rfl, ?h1, ?h2, ?h3, ?h4, ?_⟩; (case h1 => walk_at "hp"); (case h2 => walk_at "cls"); (case h3 => walk_at "noat"); (case h4 => exact KR.lt1000 rfl))
  | (refine' ⟨_, _, _, rfl, ?h1, ?h2, ?_⟩; (case h1 => walk_at "hp"); (case h2 => walk_at "lk"))
  | (refine' ⟨⟨_, L2.SqL.of ?h1⟩, ?_⟩; (case h1 => walk_at "hp"))
  | (refine' ⟨⟨_, L2.SqT.of ?h1⟩, ?_⟩; (case h1 => walk_at "hp"))
  | (refine' ⟨_, _, rfl, ?h1, ?_⟩; (case h1 => walk_at "dg"))
  | (refine And.intro ?h1 ?_; (case h1 => walk_at "sd")))
local macro_rules | `(tactic| walk_at "rd") => `(tactic| repeat walk_at "s1")
namespace KR
open PySem PySem.Spec PyProof.Rows L2
section
variable {P : Program} {w : World} {K : PySem.W.Frag} {mg : Str → Option Value} {base : Heap} {D : Nat → FuncData}
/-- drawn settings -/
structure Prt where
  lens : List Int
  size : Int
  fan : Int
  rec_ : Int
  every : Int
  keep : Int
structure Prt.Ok (p : Prt) : Prop where
  l0 : 0 < p.lens.length
  l1 : p.lens.length ≤ 6
  le : ∀ x ∈ p.lens, 1 ≤ x ∧ x ≤ p.size
  s0 : 1 ≤ p.size
  s1 : p.size ≤ 64
  f : 2 ≤ p.fan ∧ p.fan ≤ 8
  r : 1 ≤ p.rec_ ∧ p.rec_ ≤ 16
  e : 1 ≤ p.every ∧ p.every ≤ 40
  k : 1 ≤ p.keep ∧ p.keep ≤ 100
@[irreducible] def sp_is_integer : Sp := fun vs H Q _ => ∃ i : Int, vs = [.int i] ∧ Q (.bl true) H
theorem use_isint {i : Int} {H : Hp} {Q : VK} {E : XK} (q : Q (.bl true) H) : sp_is_integer [.int i] H Q E := by unfold sp_is_integer; exact ⟨i, rfl, q⟩
theorem b_is_integer {K : PySem.W.Frag} {fd : FuncData} (F : F_is_integer K fd) : Binds K fd P_is_integer [] := FunD.bindsN F fun _ _ _ _ _ _ us hl => match us, hl with | [_], _ => rfl
theorem ok_is_integer (T : Txt K mg D) : FnOk P w K mg base CX0 1 (He.fAd K ("is_integer", none)) (D D_is_integer) P_is_integer sp_is_integer := by
  refine T.d_is_integer.ok sc_is_integer (fun vs H Q E h => ?_) (fun cdv A outer s H vs Q E hr h => ?_)
  · unfold sp_is_integer at h
    first | (obtain ⟨rfl, _⟩ := h; rfl) | (obtain ⟨_, rfl, _⟩ := h; rfl) | (obtain ⟨_, _, rfl, _⟩ := h; rfl) | (obtain ⟨_, _, _, rfl, _⟩ := h; rfl) | (obtain ⟨_, _, _, _, rfl, _⟩ := h; rfl) | (obtain ⟨_, _, _, _, _, rfl, _⟩ := h; rfl) | (obtain ⟨_, _, _, _, _, _, rfl, _⟩ := h; rfl) | (obtain ⟨_, _, _, _, _, _, _, rfl, _⟩ := h; rfl) | (obtain ⟨_, _, _, _, _, _, _, _, rfl, _⟩ := h; rfl) | (obtain ⟨_, _, _, _, _, _, _, _, _, rfl, _⟩ := h; rfl) | (obtain ⟨_, _, _, _, _, _, _, _, _, _, rfl, _⟩ := h; rfl) | (obtain ⟨_, _, _, _, _, _, _, _, _, _, _, rfl, _⟩ := h; rfl)
  · refine ⟨_, PSs.nox (pss_one (ps_ret (pe_and (pe_callB (call_isiK2 (K := K)) (by rfl) T.n_isinstance (by decide +kernel) (pa_cons (pv 0) (pa_cons (pe_bltn (by rfl) T.n_int (by decide +kernel) (v := .ty "int") rfl) pa_nil))) (pe_one (pe_not (pe_callB (call_isiK2 (K := K)) (by rfl) T.n_isinstance (by decide +kernel) (pa_cons (pv 0) (pa_cons (pe_bltn (by rfl) T.n_bool (by decide +kernel) (v := .ty "bool") rfl) pa_nil)))))))), ?_⟩
    unfold sp_is_integer at h
    obtain ⟨i, rfl, q⟩ := h
    walk_at "rd"
    refine isi_int ?_
    walk_at "rd"
    refine isi_bool ?_
    walk_at "rd"
    exact q

@[irreducible] def sp_is_between : Sp := fun vs H Q _ => ∃ i lo hi : Int, vs = [.int i, .int lo, .int hi] ∧ Q (.bl (decide (lo ≤ i ∧ i ≤ hi))) H
theorem use_between {i lo hi : Int} {H : Hp} {Q : VK} {E : XK} (q : Q (.bl (decide (lo ≤ i ∧ i ≤ hi))) H) : sp_is_between [.int i, .int lo, .int hi] H Q E := by unfold sp_is_between; exact ⟨i, lo, hi, rfl, q⟩
theorem b_is_between {K : PySem.W.Frag} {fd : FuncData} (F : F_is_between K fd) : Binds K fd P_is_between [] := FunD.bindsN F fun _ _ _ _ _ _ us hl => match us, hl with | [_, _, _], _ => rfl
theorem ok_is_between (T : Txt K mg D) : FnOk P w K mg base CX0 2 (He.fAd K ("is_between", none)) (D D_is_between) P_is_between sp_is_between := by
  refine T.d_is_between.ok sc_is_between (fun vs H Q E h => ?_) (fun cdv A outer s H vs Q E hr h => ?_)
  · unfold sp_is_between at h
    first | (obtain ⟨rfl, _⟩ := h; rfl) | (obtain ⟨_, rfl, _⟩ := h; rfl) | (obtain ⟨_, _, rfl, _⟩ := h; rfl) | (obtain ⟨_, _, _, rfl, _⟩ := h; rfl) | (obtain ⟨_, _, _, _, rfl, _⟩ := h; rfl) | (obtain ⟨_, _, _, _, _, rfl, _⟩ := h; rfl) | (obtain ⟨_, _, _, _, _, _, rfl, _⟩ := h; rfl) | (obtain ⟨_, _, _, _, _, _, _, rfl, _⟩ := h; rfl) | (obtain ⟨_, _, _, _, _, _, _, _, rfl, _⟩ := h; rfl) | (obtain ⟨_, _, _, _, _, _, _, _, _, rfl, _⟩ := h; rfl) | (obtain ⟨_, _, _, _, _, _, _, _, _, _, rfl, _⟩ := h; rfl) | (obtain ⟨_, _, _, _, _, _, _, _, _, _, _, rfl, _⟩ := h; rfl)
  · refine ⟨_, PSs.nox (pss_one (ps_ret (pe_and (pe_call (ok_is_integer T) (hr.mono (by decide)) rfl T.g_is_integer T.d_is_integer.kp (b_is_integer T.d_is_integer) .nil pass0 (pa_cons (pv 0) pa_nil)) (pe_one (pe_chain op_le op_le (pv 1) (pv 0) (pv 2)))))), ?_⟩
    unfold sp_is_between at h
    obtain ⟨i, lo, hi, rfl, q⟩ := h
    walk_at "rd"
    refine use_isint ?_
    walk_at "rd"
    refine iteB (fun c => ?_) (fun c => ?_)
    · have c := of_decide_eq_true c
      walk_at "rd"
      have e : decide (i ≤ hi) = decide (lo ≤ i ∧ i ≤ hi) := by simp [c]
      show Q (.bl (decide (i ≤ hi))) H
      rw [e]
      exact q
    · have c := of_decide_eq_false c
      have e : false = decide (lo ≤ i ∧ i ≤ hi) := by simp [c]
      show Q (.bl false) H
      rw [e]
      exact q

@[irreducible] def sp_check_part : Sp := fun vs H Q _ => ∃ (x : Str) (i lo hi : Int), vs = [.str x, .int i, .int lo, .int hi] ∧ (lo ≤ i ∧ i ≤ hi) ∧ Q .non H
theorem use_check_part {x : Str} {i lo hi : Int} {H : Hp} {Q : VK} {E : XK} (h : lo ≤ i ∧ i ≤ hi) (q : Q .non H) : sp_check_part [.str x, .int i, .int lo, .int hi] H Q E := by unfold sp_check_part; exact ⟨x, i, lo, hi, rfl, h, q⟩
theorem b_check_part {K : PySem.W.Frag} {fd : FuncData} (F : F_check_part K fd) : Binds K fd P_check_part [] := FunD.bindsN F fun _ _ _ _ _ _ us hl => match us, hl with | [_, _, _, _], _ => rfl
theorem ok_check_part (T : Txt K mg D) : FnOk P w K mg base CX0 3 (He.fAd K ("check_part", none)) (D D_check_part) P_check_part sp_check_part := by
  refine T.d_check_part.ok sc_check_part (fun vs H Q E h => ?_) (fun cdv A outer s H vs Q E hr h => ?_)
  · unfold sp_check_part at h
    first | (obtain ⟨rfl, _⟩ := h; rfl) | (obtain ⟨_, rfl, _⟩ := h; rfl) | (obtain ⟨_, _, rfl, _⟩ := h; rfl) | (obtain ⟨_, _, _, rfl, _⟩ := h; rfl) | (obtain ⟨_, _, _, _, rfl, _⟩ := h; rfl) | (obtain ⟨_, _, _, _, _, rfl, _⟩ := h; rfl) | (obtain ⟨_, _, _, _, _, _, rfl, _⟩ := h; rfl) | (obtain ⟨_, _, _, _, _, _, _, rfl, _⟩ := h; rfl) | (obtain ⟨_, _, _, _, _, _, _, _, rfl, _⟩ := h; rfl) | (obtain ⟨_, _, _, _, _, _, _, _, _, rfl, _⟩ := h; rfl) | (obtain ⟨_, _, _, _, _, _, _, _, _, _, rfl, _⟩ := h; rfl) | (obtain ⟨_, _, _, _, _, _, _, _, _, _, _, rfl, _⟩ := h; rfl)
  · refine ⟨_, PSs.nox (pss_one (ps_if (pt_not (pt_val (pe_call (ok_is_between T) (hr.mono (by decide)) rfl T.g_is_between T.d_is_between.kp (b_is_between T.d_is_between) .nil pass0 (pa_cons (pv 1) (pa_cons (pv 2) (pa_cons (pv 3) pa_nil)))))) (pss_one ps_never) pss_nil)), ?_⟩
    unfold sp_check_part at h
    obtain ⟨x, i, lo, hi, rfl, h, q⟩ := h
    walk_at "rd"
    refine use_between ?_
    rw [decide_eq_true h]
    walk_at "rd"
    exact q

/-- settings stand at a -/
def SetAt (K : PySem.W.Frag) (H : Hp) (a : Addr) (p : Prt) : Prop := ∃ dx t, H a = some (.ins (He.ga K "Settings") dx [("lengths", .ref t), ("size", .int p.size), ("fanout", .int p.fan), ("records", .int p.rec_), ("every", .int p.every), ("keep", .int p.keep)]) ∧ H t = some (.tup (p.lens.map V.int))
theorem SetAt.same {K : PySem.W.Frag} {H H' : Hp} {a : Addr} {p : Prt} (h : SetAt K H a p) (s : Same H H') : SetAt K H' a p := let ⟨dx, l, h1, h2⟩ := h; ⟨dx, l, s _ _ h1, s _ _ h2⟩
@[irreducible] def sp_Settings_init (K : PySem.W.Frag) : Sp := fun vs H Q _ => ∃ (a dx l : Addr) (p : Prt), vs = [.ref a, .ref l, .int p.size, .int p.fan, .int p.rec_, .int p.every, .int p.keep] ∧
  H a = some (.ins (He.ga K "Settings") dx []) ∧ H l = some (.lst (p.lens.map V.int)) ∧ p.Ok ∧ ∀ H', SB a H H' → SetAt K H' a p → Q .non H'
theorem use_set_init {K : PySem.W.Frag} {a dx l : Addr} {p : Prt} {H : Hp} {Q : VK} {E : XK} (ha : H a = some (.ins (He.ga K "Settings") dx [])) (hl : H l = some (.lst (p.lens.map V.int))) (ok : p.Ok) (k : ∀ H', SB a H H' → SetAt K H' a p → Q .non H') :
  sp_Settings_init K [.ref a, .ref l, .int p.size, .int p.fan, .int p.rec_, .int p.every, .int p.keep] H Q E := by unfold sp_Settings_init; exact ⟨a, dx, l, p, rfl, ha, hl, ok, k⟩
theorem b_Settings___init__ {K : PySem.W.Frag} {fd : FuncData} (F : F_Settings___init__ K fd) : KBn K fd P_Settings___init__ 3 ["fanout", "records", "every", "keep"] (fun us ws => us ++ ws) (fun vs zs => vs ++ zs) := kb_app F 3 ["fanout", "records", "every", "keep"] fun _ _ _ _ _ _ us ws h1 h2 => match us, ws, h1, h2 with | [_, _, _], [_, _, _, _], _, _ => rfl
theorem ok_Settings___init__ (T : Txt K mg D) : FnOk P w K mg base CX0 4 (He.fAd K ("Settings", some "__init__")) (D D_Settings___init__) P_Settings___init__ (sp_Settings_init K) := by
  refine T.d_Settings___init__.ok sc_Settings___init__ (fun vs H Q E h => ?_) (fun cdv A outer s H vs Q E hr h => ?_)
  · unfold sp_Settings_init at h
    first | (obtain ⟨rfl, _⟩ := h; rfl) | (obtain ⟨_, rfl, _⟩ := h; rfl) | (obtain ⟨_, _, rfl, _⟩ := h; rfl) | (obtain ⟨_, _, _, rfl, _⟩ := h; rfl) | (obtain ⟨_, _, _, _, rfl, _⟩ := h; rfl) | (obtain ⟨_, _, _, _, _, rfl, _⟩ := h; rfl) | (obtain ⟨_, _, _, _, _, _, rfl, _⟩ := h; rfl) | (obtain ⟨_, _, _, _, _, _, _, rfl, _⟩ := h; rfl) | (obtain ⟨_, _, _, _, _, _, _, _, rfl, _⟩ := h; rfl) | (obtain ⟨_, _, _, _, _, _, _, _, _, rfl, _⟩ := h; rfl) | (obtain ⟨_, _, _, _, _, _, _, _, _, _, rfl, _⟩ := h; rfl) | (obtain ⟨_, _, _, _, _, _, _, _, _, _, _, rfl, _⟩ := h; rfl)
  · refine ⟨_, PSs.nox (pss_cons (ps_if (PW.pt (pw_or (pt_not (pt_val (pe_callB (call_isiK2 (K := K)) (by rfl) T.n_isinstance (by decide +kernel) (pa_cons (pv 1) (pa_cons (pe_bltn (by rfl) T.n_list (by decide +kernel) (v := .ty "list") rfl) pa_nil))))) (pw_or1 (pt_not (pt_chain op_le op_le pe_int (pe_callB (call_lenK (K := K)) (by rfl) T.n_len (by decide +kernel) (pa_cons (pv 1) pa_nil)) (pe_globi T.i_MOST_LENGTHS)))))) (pss_one ps_never) pss_nil)
      (pss_cons (ps_for PassesOwn.never rfl (pi_list (pv 1)) (pg_name (i := 7) sc_Settings___init__.nd rfl (Or.inl rfl)) (pss_one (ps_expr (pe_call (ok_check_part T) (hr.mono (by decide)) rfl T.g_check_part T.d_check_part.kp (b_check_part T.d_check_part) .nil pass0 (pa_cons pe_str (pa_cons (pv 7) (pa_cons pe_int (pa_cons (pe_globi T.i_MOST_SIZE) pa_nil))))))))
      (pss_cons (ps_expr (pe_call (ok_check_part T) (hr.mono (by decide)) rfl T.g_check_part T.d_check_part.kp (b_check_part T.d_check_part) .nil pass0 (pa_cons pe_str (pa_cons (pv 2) (pa_cons (pe_callB (cr_maxK (K := K) rfl) (by rfl) T.n_max (by decide +kernel) (pa_cons (pv 1) pa_nil)) (pa_cons (pe_globi T.i_MOST_SIZE) pa_nil))))))
      (pss_cons (ps_expr (pe_call (ok_check_part T) (hr.mono (by decide)) rfl T.g_check_part T.d_check_part.kp (b_check_part T.d_check_part) .nil pass0 (pa_cons pe_str (pa_cons (pv 3) (pa_cons pe_int (pa_cons (pe_globi T.i_MOST_FANOUT) pa_nil))))))
      (pss_cons (ps_expr (pe_call (ok_check_part T) (hr.mono (by decide)) rfl T.g_check_part T.d_check_part.kp (b_check_part T.d_check_part) .nil pass0 (pa_cons pe_str (pa_cons (pv 4) (pa_cons pe_int (pa_cons (pe_globi T.i_MOST_RECORDS) pa_nil))))))
      (pss_cons (ps_expr (pe_call (ok_check_part T) (hr.mono (by decide)) rfl T.g_check_part T.d_check_part.kp (b_check_part T.d_check_part) .nil pass0 (pa_cons pe_str (pa_cons (pv 5) (pa_cons pe_int (pa_cons (pe_globi T.i_MOST_EVERY) pa_nil))))))
      (pss_cons (ps_expr (pe_call (ok_check_part T) (hr.mono (by decide)) rfl T.g_check_part T.d_check_part.kp (b_check_part T.d_check_part) .nil pass0 (pa_cons pe_str (pa_cons (pv 6) (pa_cons pe_int (pa_cons (pe_globi T.i_MOST_KEEP) pa_nil))))))
      (pss_cons (ps_fld (pv 0) (pe_callTy (call_tupK (K := K)) (by rfl) T.n_tuple (by decide +kernel) (pa_cons (pv 1) pa_nil)) rfl)
      (pss_cons (ps_fld (pv 0) (pv 2) rfl)
      (pss_cons (ps_fld (pv 0) (pv 3) rfl)
      (pss_cons (ps_fld (pv 0) (pv 4) rfl)
      (pss_cons (ps_fld (pv 0) (pv 5) rfl)
      (pss_one (ps_fld (pv 0) (pv 6) rfl)))))))))))))), ?_⟩
    unfold sp_Settings_init at h
    obtain ⟨a, dx, l, p, rfl, ha, hl, ok, k⟩ := h
    walk_at "rd"
    refine isi_list hl ?_
    walk_at "rd"
    have l0 := ok.l0
    have l1 := ok.l1
    refine iteT_of (decide_eq_true (by rw [List.length_map]; omega)) ?_
    walk_at "rd"
    refine iteF_of (by rw [decide_eq_true (by rw [List.length_map]; omega)]; rfl) ?_
    walk_at "rd"
    refine for_list (xs := p.lens.map V.int) (fun i σ H' => H' = H ∧ ∃ v : Option V, σ = [some (.ref a), some (.ref l), some (.int p.size), some (.int p.fan), some (.int p.rec_), some (.int p.every), some (.int p.keep), v]) ⟨rfl, _, rfl⟩ ?_ ?_ ?_
    · rintro i σ H' _ ⟨rfl, _⟩
      exact SqL.of hl
    · rintro i x σ H' hx ⟨rfl, v, rfl⟩
      obtain ⟨z, hz, rfl⟩ := map_some hx
      have hb := ok.le z (List.mem_of_getElem? hz)
      have s1 := ok.s1
      walk_at "rd"
      refine use_check_part (by omega) ?_
      walk_at "rd"
      exact ⟨_, rfl⟩
    · rintro σ H' ⟨rfl, v, rfl⟩
      walk_at "rd"
      refine ⟨_, _, rfl, SqL.of hl, ok.l0, fun m hm _ => ?_⟩
      have hb := ok.le m hm
      have s1 := ok.s1
      walk_at "rd"
      refine use_check_part (by omega) ?_
      walk_at "rd"
      refine use_check_part ok.f ?_
      walk_at "rd"
      refine use_check_part ok.r ?_
      walk_at "rd"
      refine use_check_part ok.e ?_
      walk_at "rd"
      refine use_check_part ok.k ?_
      walk_at "rd"
      refine ⟨_, _, rfl, .inl ⟨SqL.of hl, ?_⟩⟩
      intro t n0
      generalize eG0 : upd _ t _ = G0
      obtain ⟨g0, ht⟩ := gen_new n0 eG0
      clear eG0
      have ha0 := g0 _ _ ha
      have nta : t ≠ a := (ne_of_none ha n0).symm
      walk_at "rd"
      generalize eG1 : upd _ _ _ = G1
      obtain ⟨g1, h1⟩ := gen_st eG1
      clear eG1
      try simp only [pf_Settings_0, pf_Settings_1, pf_Settings_2, pf_Settings_3, pf_Settings_4, pf_Settings_5, pf_Packing_0, pf_Packing_1, pf_Packing_2, pf_Packing_3, pf_Packing_4, pf_Packing_5, pf_Heights_0, pf_Heights_1, pf_Heights_2] at h1
      walk_at "rd"
      generalize eG2 : upd _ _ _ = G2
      obtain ⟨g2, h2⟩ := gen_st eG2
      clear eG2
      try simp only [pf_Settings_0, pf_Settings_1, pf_Settings_2, pf_Settings_3, pf_Settings_4, pf_Settings_5, pf_Packing_0, pf_Packing_1, pf_Packing_2, pf_Packing_3, pf_Packing_4, pf_Packing_5, pf_Heights_0, pf_Heights_1, pf_Heights_2] at h2
      walk_at "rd"
      generalize eG3 : upd _ _ _ = G3
      obtain ⟨g3, h3⟩ := gen_st eG3
      clear eG3
      try simp only [pf_Settings_0, pf_Settings_1, pf_Settings_2, pf_Settings_3, pf_Settings_4, pf_Settings_5, pf_Packing_0, pf_Packing_1, pf_Packing_2, pf_Packing_3, pf_Packing_4, pf_Packing_5, pf_Heights_0, pf_Heights_1, pf_Heights_2] at h3
      walk_at "rd"
      generalize eG4 : upd _ _ _ = G4
      obtain ⟨g4, h4⟩ := gen_st eG4
      clear eG4
      try simp only [pf_Settings_0, pf_Settings_1, pf_Settings_2, pf_Settings_3, pf_Settings_4, pf_Settings_5, pf_Packing_0, pf_Packing_1, pf_Packing_2, pf_Packing_3, pf_Packing_4, pf_Packing_5, pf_Heights_0, pf_Heights_1, pf_Heights_2] at h4
      walk_at "rd"
      generalize eG5 : upd _ _ _ = G5
      obtain ⟨g5, h5⟩ := gen_st eG5
      clear eG5
      try simp only [pf_Settings_0, pf_Settings_1, pf_Settings_2, pf_Settings_3, pf_Settings_4, pf_Settings_5, pf_Packing_0, pf_Packing_1, pf_Packing_2, pf_Packing_3, pf_Packing_4, pf_Packing_5, pf_Heights_0, pf_Heights_1, pf_Heights_2] at h5
      walk_at "rd"
      generalize eG6 : upd _ _ _ = G6
      obtain ⟨g6, h6⟩ := gen_st eG6
      clear eG6
      try simp only [pf_Settings_0, pf_Settings_1, pf_Settings_2, pf_Settings_3, pf_Settings_4, pf_Settings_5, pf_Packing_0, pf_Packing_1, pf_Packing_2, pf_Packing_3, pf_Packing_4, pf_Packing_5, pf_Heights_0, pf_Heights_1, pf_Heights_2] at h6
      refine k G6 ((((((g0.sb.trans g1).trans g2).trans g3).trans g4).trans g5).trans g6) ⟨dx, t, ?_, (((((g1.trans g2).trans g3).trans g4).trans g5).trans g6) _ _ nta ht⟩
      exact h6

/-! ### how rows stand on pages: the numbers -/
def lenAt (p : Prt) (r : Nat) : Int := p.lens.getD (r % p.lens.length) 0
def usum (p : Prt) (r : Nat) : Nat → Int
  | 0 => 0
  | k + 1 => usum p r k + lenAt p (r + k)
theorem lenAt_ok {p : Prt} (ok : p.Ok) (r : Nat) : 1 ≤ lenAt p r ∧ lenAt p r ≤ p.size := by
  have h : r % p.lens.length < p.lens.length := Nat.mod_lt _ ok.l0
  unfold lenAt
  rw [List.getD_eq_getElem?_getD, List.getElem?_eq_getElem h]
  exact ok.le _ (List.getElem_mem h)
theorem usum_ge {p : Prt} (ok : p.Ok) (r : Nat) : ∀ k : Nat, (k : Int) ≤ usum p r k
  | 0 => by simp [usum]
  | k + 1 => by
    have h := usum_ge ok r k
    have h2 := (lenAt_ok ok (r + k)).1
    simp only [usum]
    omega
theorem usum_mono {p : Prt} (ok : p.Ok) (r : Nat) {j k : Nat} (h : j ≤ k) : usum p r j ≤ usum p r k := by
  induction k with
  | zero => have : j = 0 := by omega
            subst this; exact Int.le_refl _
  | succ k ih =>
    by_cases e : j = k + 1
    · subst e; exact Int.le_refl _
    · have h2 := (lenAt_ok ok (r + k)).1
      have h3 := ih (by omega)
      simp only [usum]
      omega
/-- so many rows fit on a page that begins with row r -/
def Fits (p : Prt) (r k : Nat) : Prop := usum p r k ≤ p.size ∧ p.size < usum p r (k + 1)
theorem Fits.uniq {p : Prt} (ok : p.Ok) {r j k : Nat} (a : Fits p r j) (b : Fits p r k) : j = k := by
  by_cases h : j < k
  · have := usum_mono ok r (show j + 1 ≤ k by omega)
    have := a.2; have := b.1; omega
  · by_cases h2 : k < j
    · have := usum_mono ok r (show k + 1 ≤ j by omega)
      have := b.2; have := a.1; omega
    · omega
theorem Fits.le {p : Prt} (ok : p.Ok) {r k : Nat} (a : Fits p r k) : k ≤ 64 := by
  have h1 := usum_ge ok r k
  have h2 := a.1
  have h3 := ok.s1
  omega
theorem Fits.pos {p : Prt} (ok : p.Ok) {r k : Nat} (a : Fits p r k) : 1 ≤ k := by
  match k, a with
  | 0, a =>
    have h := a.2
    simp only [usum] at h
    have := (lenAt_ok ok (r + 0)).2
    omega
  | k + 1, _ => omega
theorem fits_ex {p : Prt} (ok : p.Ok) (r : Nat) : ∃ k, Fits p r k := by
  have key : ∀ n : Nat, (∃ k, Fits p r k) ∨ usum p r n ≤ p.size := by
    intro n
    induction n with
    | zero => right; simp only [usum]; have := ok.s0; omega
    | succ n ih =>
      rcases ih with h | h
      · exact .inl h
      · by_cases e : usum p r (n + 1) ≤ p.size
        · exact .inr e
        · exact .inl ⟨n, h, by omega⟩
  rcases key 65 with h | h
  · exact h
  · have h1 := usum_ge ok r 65
    have h3 := ok.s1
    omega
/-- how many rows a page that begins with row r gets -/
noncomputable def rowsF (p : Prt) (r : Nat) : Nat := open Classical in if h : ∃ k, Fits p r k then h.choose else 1
theorem rowsF_ok {p : Prt} (ok : p.Ok) (r : Nat) : Fits p r (rowsF p r) := by
  unfold rowsF
  rw [dif_pos (fits_ex ok r)]
  exact (fits_ex ok r).choose_spec
theorem rowsF_eq {p : Prt} (ok : p.Ok) {r k : Nat} (h : Fits p r k) : rowsF p r = k := (rowsF_ok ok r).uniq ok h
theorem rowsF_le {p : Prt} (ok : p.Ok) (r : Nat) : rowsF p r ≤ 64 := (rowsF_ok ok r).le ok
theorem rowsF_pos {p : Prt} (ok : p.Ok) (r : Nat) : 1 ≤ rowsF p r := (rowsF_ok ok r).pos ok
theorem lenAt_mod {p : Prt} {r q : Nat} (h : r % p.lens.length = q % p.lens.length) (i : Nat) : lenAt p (r + i) = lenAt p (q + i) := by
  unfold lenAt
  rw [Nat.add_mod, h, ← Nat.add_mod]
theorem usum_mod {p : Prt} {r q : Nat} (h : r % p.lens.length = q % p.lens.length) : ∀ k, usum p r k = usum p q k
  | 0 => rfl
  | k + 1 => by simp only [usum]; rw [usum_mod h k, lenAt_mod h]
theorem rowsF_mod {p : Prt} (ok : p.Ok) {r q : Nat} (h : r % p.lens.length = q % p.lens.length) : rowsF p r = rowsF p q := by
  refine rowsF_eq ok ?_
  have := rowsF_ok ok q
  unfold Fits at this ⊢
  rw [usum_mod h, usum_mod h]
  exact this
/-- the first row of heap page n -/
noncomputable def startN (p : Prt) : Nat → Nat
  | 0 => 0
  | n + 1 => startN p n + rowsF p (startN p n)
/-! ### the cycle -/
theorem pigeon : ∀ (L n : Nat) (f : Nat → Nat), (∀ i, i < n → f i < L) → (∀ i j, i < j → j < n → f i ≠ f j) → n ≤ L
  | 0, n, f, h, _ => by
    match n with
    | 0 => exact Nat.le_refl 0
    | n + 1 => exact absurd (h 0 (by omega)) (by omega)
  | L + 1, 0, f, _, _ => Nat.zero_le _
  | L + 1, m + 1, f, h, inj => by
    have key := pigeon L m (fun i => if f i = L then f m else f i) (fun i hi => by
      have h1 := h i (by omega)
      have h2 := h m (by omega)
      have h3 := inj i m hi (by omega)
      show (if f i = L then f m else f i) < L
      split <;> omega) (fun i j hij hj => by
      have h3 := inj i j hij (by omega)
      have h4 := inj i m (by omega) (by omega)
      have h5 := inj j m hj (by omega)
      show (if f i = L then f m else f i) ≠ (if f j = L then f m else f j)
      split <;> split <;> omega)
    omega
noncomputable def resN (p : Prt) (n : Nat) : Nat := startN p n % p.lens.length
theorem resN_lt {p : Prt} (ok : p.Ok) (n : Nat) : resN p n < p.lens.length := Nat.mod_lt _ ok.l0
structure Cyc (p : Prt) (first pages : Nat) : Prop where
  pos : 0 < pages
  eq : resN p (first + pages) = resN p first
  inj : ∀ i j, i < j → j < first + pages → resN p i ≠ resN p j
theorem Cyc.le {p : Prt} (ok : p.Ok) {first pages : Nat} (c : Cyc p first pages) : first + pages ≤ 6 :=
  Nat.le_trans (pigeon p.lens.length (first + pages) (resN p) (fun i _ => resN_lt ok i) c.inj) ok.l1
noncomputable def stL (p : Prt) (n : Nat) : List V := (List.range (n + 1)).map fun j => V.int (startN p j)
theorem stL_succ (p : Prt) (n : Nat) : stL p (n + 1) = stL p n ++ [.int (startN p (n + 1))] := by
  unfold stL
  rw [List.range_succ, List.map_append]
  rfl
theorem stL_len (p : Prt) (n : Nat) : (stL p n).length = n + 1 := by unfold stL; rw [List.length_map, List.length_range]
theorem stL_get (p : Prt) {n j : Nat} (h : j ≤ n) : (stL p n)[j]? = some (.int (startN p j)) := by
  unfold stL
  rw [List.getElem?_map, List.getElem?_range (by omega)]
  rfl
theorem stL_last (p : Prt) (n : Nat) : atI (stL p n) (-1) = some (.int (startN p n)) := by
  match n with
  | 0 => exact atI_last [] _
  | n + 1 => rw [stL_succ]; exact atI_last _ _
/-- what the seen places' dict holds -/
def Seen (p : Prt) (n : Nat) (kvs : List (Key × V)) : Prop := kvs.length ≤ n ∧ (∀ j, j < n → valV kvs (.inl (resN p j : Int)) = some (.int j)) ∧ ∀ k : Int, valV kvs (.inl k) ≠ none → ∃ j, j < n ∧ k = (resN p j : Int)
theorem Seen.put {p : Prt} {n : Nat} {kvs : List (Key × V)} (s : Seen p n kvs) (h : valV kvs (.inl (resN p n : Int)) = none) : Seen p (n + 1) (putK kvs (.inl (resN p n : Int)) (.int n)) := by
  obtain ⟨s1, s2, s3⟩ := s
  refine ⟨Nat.le_trans (length_putK _ _ _) (by omega), fun j hj => ?_, fun k hk => ?_⟩
  · rw [valV_put]
    by_cases e : (Sum.inl (resN p j : Int) : Key) = Sum.inl (resN p n : Int)
    · rw [if_pos e]
      by_cases hjn : j = n
      · subst hjn; rfl
      · have := s2 j (by omega)
        rw [e, h] at this
        cases this
    · rw [if_neg e]
      have hjn : j ≠ n := fun z => e (by rw [z])
      exact s2 j (by omega)
  · rw [valV_put] at hk
    by_cases e : (Sum.inl k : Key) = Sum.inl (resN p n : Int)
    · exact ⟨n, by omega, Sum.inl.inj e⟩
    · rw [if_neg e] at hk
      obtain ⟨j, hj, ej⟩ := s3 k hk
      exact ⟨j, by omega, ej⟩
theorem at_len {p : Prt} (ok : p.Ok) (r : Nat) : atI (p.lens.map V.int) ((r : Int) % ((p.lens.map V.int).length : Int)) = some (.int (lenAt p r)) := by
  have hlt : r % p.lens.length < p.lens.length := Nat.mod_lt _ ok.l0
  refine atI_int (j := r % p.lens.length) ?_ ?_
  · rw [List.length_map]
    exact (Int.natCast_emod r p.lens.length).symm
  · rw [List.getElem?_map, List.getElem?_eq_getElem hlt]
    unfold lenAt
    rw [List.getD_eq_getElem?_getD, List.getElem?_eq_getElem hlt]
    rfl
theorem mlen0 {p : Prt} (ok : p.Ok) : (0 : Int) < ((p.lens.map V.int).length : Int) := by rw [List.length_map]; have := ok.l0; omega
theorem res_step {p : Prt} (ok : p.Ok) {i j : Nat} (h : resN p i = resN p j) : resN p (i + 1) = resN p (j + 1) := by
  unfold resN at h ⊢
  simp only [startN]
  rw [rowsF_mod ok h, Nat.add_mod, h, ← Nat.add_mod]
theorem res_add {p : Prt} (ok : p.Ok) {i j : Nat} (h : resN p i = resN p j) : ∀ k, resN p (i + k) = resN p (j + k)
  | 0 => h
  | k + 1 => res_step ok (res_add ok h k)
theorem Cyc.per {p : Prt} (ok : p.Ok) {first pages : Nat} (c : Cyc p first pages) {n : Nat} (h : first ≤ n) : resN p (n + pages) = resN p n := by
  have e := res_add ok c.eq (n - first)
  have e1 : first + pages + (n - first) = n + pages := by omega
  have e2 : first + (n - first) = n := by omega
  rw [e1, e2] at e
  exact e
theorem Cyc.red {p : Prt} (ok : p.Ok) {first pages : Nat} (c : Cyc p first pages) : ∀ n, first ≤ n → ∃ r, first ≤ r ∧ r < first + pages ∧ resN p n = resN p r := by
  intro n
  induction n using Nat.strongRecOn with
  | ind n ih =>
    intro h
    by_cases hl : n < first + pages
    · exact ⟨n, h, hl, rfl⟩
    · have hp := c.pos
      obtain ⟨r, h1, h2, h3⟩ := ih (n - pages) (by omega) (by omega)
      refine ⟨r, h1, h2, ?_⟩
      have := c.per ok (n := n - pages) (by omega)
      rw [show n - pages + pages = n by omega] at this
      rw [this, h3]
theorem Cyc.before {p : Prt} (ok : p.Ok) {first pages : Nat} (c : Cyc p first pages) {f g : Nat} (h : f < first) (hg : 1 ≤ g) : resN p f ≠ resN p (f + g) := by
  by_cases hl : f + g < first + pages
  · exact c.inj f (f + g) (by omega) hl
  · obtain ⟨r, h1, h2, h3⟩ := c.red ok (f + g) (by have := c.pos; omega)
    rw [h3]
    exact c.inj f r (by omega) h2
theorem Cyc.less {p : Prt} {first pages : Nat} (c : Cyc p first pages) {g : Nat} (hg : 1 ≤ g) (h : g < pages) : resN p first ≠ resN p (first + g) := c.inj _ _ (by omega) (by omega)
/-! ### far pages -/
theorem start_lt {p : Prt} (ok : p.Ok) (n : Nat) : startN p n < startN p (n + 1) := by
  have := rowsF_pos ok (startN p n)
  simp only [startN]
  omega
theorem start_mono {p : Prt} (ok : p.Ok) {m n : Nat} (h : m ≤ n) : startN p m ≤ startN p n := by
  induction n with
  | zero => have : m = 0 := by omega
            subst this; exact Nat.le_refl _
  | succ n ih =>
    by_cases e : m = n + 1
    · subst e; exact Nat.le_refl _
    · exact Nat.le_trans (ih (by omega)) (Nat.le_of_lt (start_lt ok n))
theorem start_ge {p : Prt} (ok : p.Ok) : ∀ n : Nat, n ≤ startN p n
  | 0 => Nat.zero_le _
  | n + 1 => by have := start_ge ok n; have := start_lt ok n; omega
noncomputable def rowsC (p : Prt) (first pages : Nat) : Nat := startN p (first + pages) - startN p first
theorem rowsC_pos {p : Prt} (ok : p.Ok) {first pages : Nat} (c : Cyc p first pages) : 0 < rowsC p first pages := by
  have h1 := start_lt ok first
  have h2 := start_mono ok (show first + 1 ≤ first + pages by have := c.pos; omega)
  unfold rowsC
  omega
theorem start_le {p : Prt} (ok : p.Ok) : ∀ n, startN p n ≤ 64 * n
  | 0 => Nat.le_refl _
  | n + 1 => by have := start_le ok n; have := rowsF_le ok (startN p n); simp only [startN]; omega
theorem rowsC_le {p : Prt} (ok : p.Ok) {first pages : Nat} (c : Cyc p first pages) : rowsC p first pages ≤ 384 := by
  have h1 := start_le ok (first + pages)
  have h2 := c.le ok
  unfold rowsC
  omega
theorem start_per {p : Prt} (ok : p.Ok) {first pages : Nat} (c : Cyc p first pages) {n : Nat} (h : first ≤ n) : startN p (n + pages) = startN p n + rowsC p first pages := by
  have key : ∀ k, startN p (first + k + pages) = startN p (first + k) + rowsC p first pages := by
    intro k
    induction k with
    | zero =>
      have := start_mono ok (show first ≤ first + pages by omega)
      show startN p (first + pages) = startN p first + (startN p (first + pages) - startN p first)
      omega
    | succ k ih =>
      have e : rowsF p (startN p (first + k + pages)) = rowsF p (startN p (first + k)) := rowsF_mod ok (c.per ok (n := first + k) (by omega))
      have e1 : first + (k + 1) + pages = (first + k + pages) + 1 := by omega
      rw [e1]
      simp only [startN]
      rw [e, ih]
      show startN p (first + k) + rowsC p first pages + rowsF p (startN p (first + k)) = startN p (first + k) + rowsF p (startN p (first + k)) + rowsC p first pages
      omega
  have := key (n - first)
  rw [show first + (n - first) = n by omega] at this
  exact this
theorem start_times {p : Prt} (ok : p.Ok) {first pages : Nat} (c : Cyc p first pages) {n : Nat} (h : first ≤ n) : ∀ t, startN p (n + t * pages) = startN p n + t * rowsC p first pages
  | 0 => by simp
  | t + 1 => by
    have e : n + (t + 1) * pages = n + t * pages + pages := by rw [Nat.succ_mul]; omega
    rw [e, start_per ok c (by omega), start_times ok c h t, Nat.succ_mul]
    omega
/-- row r stands on page n -/
def On (p : Prt) (r n : Nat) : Prop := startN p n ≤ r ∧ r < startN p (n + 1)
theorem On.uniq {p : Prt} (ok : p.Ok) {r m n : Nat} (a : On p r m) (b : On p r n) : m = n := by
  by_cases h : m < n
  · have := start_mono ok (show m + 1 ≤ n by omega)
    have := a.2; have := b.1; omega
  · by_cases h2 : n < m
    · have := start_mono ok (show n + 1 ≤ m by omega)
      have := b.2; have := a.1; omega
    · omega
theorem On.le {p : Prt} (ok : p.Ok) {r n : Nat} (a : On p r n) : n ≤ r := Nat.le_trans (start_ge ok n) a.1
def pkMeths : List Str := ["length", "rows_from", "start", "holder", "check_page", "units_of", "first_row", "page_of", "rows_on", "units_on", "units_left", "begun", "cycle"]
/-- a Packing, as far as its first fields go -/
structure PkB (K : PySem.W.Frag) (H : Hp) (a : Addr) (p : Prt) (dx : Addr) (fs : List (Str × V)) (t : Addr) : Prop where
  h : H a = some (.ins (He.ga K "Packing") dx fs)
  l : fs.lookup ("row_lengths" : Str) = some (V.ref t)
  r : fs.lookup ("room" : Str) = some (V.int p.size)
  m : ∀ x ∈ pkMeths, fs.lookup x = none
  t : H t = some (.tup (p.lens.map V.int))
def PkBase (K : PySem.W.Frag) (H : Hp) (a : Addr) (p : Prt) : Prop := ∃ dx fs t, PkB K H a p dx fs t
theorem PkBase.same {K : PySem.W.Frag} {H H' : Hp} {a : Addr} {p : Prt} (h : PkBase K H a p) (s : Same H H') : PkBase K H' a p := let ⟨dx, fs, t, b⟩ := h; ⟨dx, fs, t, s _ _ b.h, b.l, b.r, b.m, s _ _ b.t⟩
@[irreducible] def sp_Packing_length (K : PySem.W.Frag) : Sp := fun vs H Q _ => ∃ (a : Addr) (p : Prt) (r : Nat), vs = [.ref a, .int r] ∧ PkBase K H a p ∧ p.Ok ∧ Q (.int (lenAt p r)) H
theorem use_length {K : PySem.W.Frag} {a : Addr} {p : Prt} {r : Nat} {H : Hp} {Q : VK} {E : XK} {i : Int} (hi : i = (r : Int)) (b : PkBase K H a p) (ok : p.Ok) (q : Q (.int (lenAt p r)) H) : sp_Packing_length K [.ref a, .int i] H Q E := by
  subst hi; unfold sp_Packing_length; exact ⟨a, p, r, rfl, b, ok, q⟩
theorem b_Packing_length {K : PySem.W.Frag} {fd : FuncData} (F : F_Packing_length K fd) : Binds K fd P_Packing_length [] := FunD.bindsN F fun _ _ _ _ _ _ us hl => match us, hl with | [_, _], _ => rfl
theorem ok_Packing_length (T : Txt K mg D) : FnOk P w K mg base CX0 1 (He.fAd K ("Packing", some "length")) (D D_Packing_length) P_Packing_length (sp_Packing_length K) := by
  refine T.d_Packing_length.ok sc_Packing_length (fun vs H Q E h => ?_) (fun cdv A outer s H vs Q E hr h => ?_)
  · unfold sp_Packing_length at h
    first | (obtain ⟨rfl, _⟩ := h; rfl) | (obtain ⟨_, rfl, _⟩ := h; rfl) | (obtain ⟨_, _, rfl, _⟩ := h; rfl) | (obtain ⟨_, _, _, rfl, _⟩ := h; rfl) | (obtain ⟨_, _, _, _, rfl, _⟩ := h; rfl) | (obtain ⟨_, _, _, _, _, rfl, _⟩ := h; rfl) | (obtain ⟨_, _, _, _, _, _, rfl, _⟩ := h; rfl) | (obtain ⟨_, _, _, _, _, _, _, rfl, _⟩ := h; rfl) | (obtain ⟨_, _, _, _, _, _, _, _, rfl, _⟩ := h; rfl) | (obtain ⟨_, _, _, _, _, _, _, _, _, rfl, _⟩ := h; rfl) | (obtain ⟨_, _, _, _, _, _, _, _, _, _, rfl, _⟩ := h; rfl) | (obtain ⟨_, _, _, _, _, _, _, _, _, _, _, rfl, _⟩ := h; rfl)
  · refine ⟨_, PSs.nox (pss_one (ps_ret (pe_ix (ix_tupK (K := K)) (pe_fldK (K := K) (pv 0) rfl) (pe_op op_mod (pv 1) (pe_callB (call_lenK (K := K)) (by rfl) T.n_len (by decide +kernel) (pa_cons (pe_fldK (K := K) (pv 0) rfl) pa_nil))) (fun _ _ => rfl)))), ?_⟩
    unfold sp_Packing_length at h
    obtain ⟨a, p, r, rfl, ⟨dx, fs, t, hb⟩, ok, q⟩ := h
    have h1 := hb.h
    have h2 := hb.l
    have h3 := hb.t
    have hl := ok.l0
    walk_at "rd"
    refine ⟨(by show (0 : Int) < ((p.lens.map V.int).length : Nat); rw [List.length_map]; omega), ?_⟩
    have hlt : r % p.lens.length < p.lens.length := Nat.mod_lt _ hl
    refine ⟨_, _, _, .int (lenAt p r), rfl, rfl, SqT.of h3, atI_int (j := r % p.lens.length) ?_ ?_, q⟩
    · rw [List.length_map]
      exact (Int.natCast_emod r p.lens.length).symm
    · rw [List.getElem?_map, List.getElem?_eq_getElem hlt]
      unfold lenAt
      rw [List.getD_eq_getElem?_getD, List.getElem?_eq_getElem hlt]
      rfl

@[irreducible] def sp_Packing_rows_from (K : PySem.W.Frag) : Sp := fun vs H Q _ => ∃ (a : Addr) (p : Prt) (r : Nat), vs = [.ref a, .int r] ∧ PkBase K H a p ∧ p.Ok ∧ ∀ H', Same H H' → Q (.int (rowsF p r)) H'
theorem use_rows_from {K : PySem.W.Frag} {a : Addr} {p : Prt} {r : Nat} {H : Hp} {Q : VK} {E : XK} {i : Int} (hi : i = (r : Int)) (b : PkBase K H a p) (ok : p.Ok) (q : ∀ H', Same H H' → Q (.int (rowsF p r)) H') : sp_Packing_rows_from K [.ref a, .int i] H Q E := by
  subst hi; unfold sp_Packing_rows_from; exact ⟨a, p, r, rfl, b, ok, q⟩
theorem b_Packing_rows_from {K : PySem.W.Frag} {fd : FuncData} (F : F_Packing_rows_from K fd) : Binds K fd P_Packing_rows_from [] := FunD.bindsN F fun _ _ _ _ _ _ us hl => match us, hl with | [_, _], _ => rfl
theorem ok_Packing_rows_from (T : Txt K mg D) : FnOk P w K mg base CX0 2 (He.fAd K ("Packing", some "rows_from")) (D D_Packing_rows_from) P_Packing_rows_from (sp_Packing_rows_from K) := by
  refine T.d_Packing_rows_from.ok sc_Packing_rows_from (fun vs H Q E h => ?_) (fun cdv A outer s H vs Q E hr h => ?_)
  · unfold sp_Packing_rows_from at h
    first | (obtain ⟨rfl, _⟩ := h; rfl) | (obtain ⟨_, rfl, _⟩ := h; rfl) | (obtain ⟨_, _, rfl, _⟩ := h; rfl) | (obtain ⟨_, _, _, rfl, _⟩ := h; rfl) | (obtain ⟨_, _, _, _, rfl, _⟩ := h; rfl) | (obtain ⟨_, _, _, _, _, rfl, _⟩ := h; rfl) | (obtain ⟨_, _, _, _, _, _, rfl, _⟩ := h; rfl) | (obtain ⟨_, _, _, _, _, _, _, rfl, _⟩ := h; rfl) | (obtain ⟨_, _, _, _, _, _, _, _, rfl, _⟩ := h; rfl) | (obtain ⟨_, _, _, _, _, _, _, _, _, rfl, _⟩ := h; rfl) | (obtain ⟨_, _, _, _, _, _, _, _, _, _, rfl, _⟩ := h; rfl) | (obtain ⟨_, _, _, _, _, _, _, _, _, _, _, rfl, _⟩ := h; rfl)
  · refine ⟨_, PSs.nox (pss_cons (ps_asg (pe_tup (pa_cons pe_int (pa_cons pe_int pa_nil))) (pg_tup rfl (pgs_cons (pg_name (i := 2) sc_Packing_rows_from.nd rfl (Or.inl rfl)) (pgs_cons (pg_name (i := 3) sc_Packing_rows_from.nd rfl (Or.inl rfl)) pgs_nil))))
      (pss_cons (ps_while PassesOwn.never (pt_cmpR op_le (pe_op op_add (pv 3) (pe_meth (pv 0) T.c_Packing T.m_Packing_length (ok_Packing_length T) (hr.mono (by decide)) (b_Packing_length T.d_Packing_length) .nil pass0 (pa_cons (pe_op op_add (pv 1) (pv 2)) pa_nil))) (pe_fldK (K := K) (pv 0) rfl) (nomark _)) (pss_cons (ps_aug (i := 3) sc_Packing_rows_from.nd rfl (Or.inl rfl) (pe_meth (pv 0) T.c_Packing T.m_Packing_length (ok_Packing_length T) (hr.mono (by decide)) (b_Packing_length T.d_Packing_length) .nil pass0 (pa_cons (pe_op op_add (pv 1) (pv 2)) pa_nil)) ip_add)
      (pss_one (ps_aug (i := 2) sc_Packing_rows_from.nd rfl (Or.inl rfl) pe_int ip_add))))
      (pss_one (ps_ret (pv 2))))), ?_⟩
    unfold sp_Packing_rows_from at h
    obtain ⟨a, p, r, rfl, b, ok, q⟩ := h
    obtain ⟨dx, fs, t, hb⟩ := id b
    have h1 := hb.h
    have h2 := hb.r
    have h3 := hb.m "length" (by decide)
    walk_at "rd"
    intro t0 n0
    generalize eH0 : upd _ t0 _ = H0
    obtain ⟨s0, ht0⟩ := gen_new n0 eH0
    clear eH0
    have h1 := s0 _ _ h1
    have b := b.same s0
    have q : Q (.int (rowsF p r)) H0 := q H0 s0
    walk_at "rd"
    refine ⟨fun m σ H' => ∃ k : Nat, H' = H0 ∧ σ = [some (.ref a), some (.int r), some (.int k), some (.int (usum p r k))] ∧ usum p r k ≤ p.size ∧ m = 65 - k, ⟨65, 0, rfl, rfl, by simp only [usum]; have := ok.s0; omega, rfl⟩, ?_⟩
    rintro m σ H' ⟨k, rfl, rfl, hk, rfl⟩
    walk_at "rd"
    refine use_length (r := r + k) (by omega) b ok ?_
    walk_at "rd"
    refine iteB (fun c => ?_) (fun c => ?_)
    · have c := of_decide_eq_true c
      have hk2 : usum p r (k + 1) ≤ p.size := c
      have hk3 := usum_ge ok r (k + 1)
      have hs := ok.s1
      refine ⟨fun σ' H'' => ∃ m', m' < 65 - k ∧ ∃ k : Nat, H'' = H' ∧ σ' = [some (.ref a), some (.int r), some (.int k), some (.int (usum p r k))] ∧ usum p r k ≤ p.size ∧ m' = 65 - k, fun _ _ h => h, ?_⟩
      walk_at "rd"
      refine use_length (r := r + k) (by omega) b ok ?_
      walk_at "rd"
      exact ⟨65 - (k + 1), by omega, k + 1, rfl, rfl, hk2, rfl⟩
    · have c := of_decide_eq_false c
      walk_at "rd"
      have e : rowsF p r = k := rowsF_eq ok ⟨hk, by simp only [usum]; omega⟩
      rw [e] at q
      exact q

@[irreducible] def sp_check_settings (K : PySem.W.Frag) : Sp := fun vs H Q _ => ∃ (a dx : Addr) (fs : List (Str × V)), vs = [.ref a] ∧ H a = some (.ins (He.ga K "Settings") dx fs) ∧ Q .non H
theorem use_check_settings {K : PySem.W.Frag} {a dx : Addr} {fs : List (Str × V)} {H : Hp} {Q : VK} {E : XK} (h : H a = some (.ins (He.ga K "Settings") dx fs)) (q : Q .non H) : sp_check_settings K [.ref a] H Q E := by
  unfold sp_check_settings; exact ⟨a, dx, fs, rfl, h, q⟩
theorem b_check_settings {K : PySem.W.Frag} {fd : FuncData} (F : F_check_settings K fd) : Binds K fd P_check_settings [] := FunD.bindsN F fun _ _ _ _ _ _ us hl => match us, hl with | [_], _ => rfl
theorem ok_check_settings (T : Txt K mg D) : FnOk P w K mg base CX0 1 (He.fAd K ("check_settings", none)) (D D_check_settings) P_check_settings (sp_check_settings K) := by
  refine T.d_check_settings.ok sc_check_settings (fun vs H Q E h => ?_) (fun cdv A outer s H vs Q E hr h => ?_)
  · unfold sp_check_settings at h
    first | (obtain ⟨rfl, _⟩ := h; rfl) | (obtain ⟨_, rfl, _⟩ := h; rfl) | (obtain ⟨_, _, rfl, _⟩ := h; rfl) | (obtain ⟨_, _, _, rfl, _⟩ := h; rfl) | (obtain ⟨_, _, _, _, rfl, _⟩ := h; rfl) | (obtain ⟨_, _, _, _, _, rfl, _⟩ := h; rfl) | (obtain ⟨_, _, _, _, _, _, rfl, _⟩ := h; rfl) | (obtain ⟨_, _, _, _, _, _, _, rfl, _⟩ := h; rfl) | (obtain ⟨_, _, _, _, _, _, _, _, rfl, _⟩ := h; rfl) | (obtain ⟨_, _, _, _, _, _, _, _, _, rfl, _⟩ := h; rfl) | (obtain ⟨_, _, _, _, _, _, _, _, _, _, rfl, _⟩ := h; rfl) | (obtain ⟨_, _, _, _, _, _, _, _, _, _, _, rfl, _⟩ := h; rfl)
  · refine ⟨_, PSs.nox (pss_one (ps_if (pt_not (pt_val (pe_callB (call_isiK2 (K := K)) (by rfl) T.n_isinstance (by decide +kernel) (pa_cons (pv 0) (pa_cons (pe_glob (v := .ref (He.ga K "Settings")) rfl T.g_Settings rfl) pa_nil))))) (pss_one ps_never) pss_nil)), ?_⟩
    unfold sp_check_settings at h
    obtain ⟨a, dx, fs, rfl, ha, q⟩ := h
    walk_at "rd"
    refine isi_own ha T.c_Settings T.ic_Settings T.kk_Settings_Settings ?_
    walk_at "rd"
    exact q

/-- a whole Packing -/
def PkAt (K : PySem.W.Frag) (H : Hp) (a : Addr) (p : Prt) (first pages : Nat) : Prop := ∃ dx t l, H a = some (.ins (He.ga K "Packing") dx [("row_lengths", .ref t), ("room", .int p.size), ("starts", .ref l), ("first", .int first), ("pages", .int pages), ("rows", .int ((startN p (first + pages) : Int) - startN p first))]) ∧
  H t = some (.tup (p.lens.map V.int)) ∧ H l = some (.lst (stL p (first + pages)))
theorem PkAt.same {K : PySem.W.Frag} {H H' : Hp} {a : Addr} {p : Prt} {first pages : Nat} (h : PkAt K H a p first pages) (s : Same H H') : PkAt K H' a p first pages := let ⟨dx, t, l, h1, h2, h3⟩ := h; ⟨dx, t, l, s _ _ h1, s _ _ h2, s _ _ h3⟩
@[irreducible] def sp_Packing_init (K : PySem.W.Frag) : Sp := fun vs H Q _ => ∃ (a dx b : Addr) (p : Prt), vs = [.ref a, .ref b] ∧ H a = some (.ins (He.ga K "Packing") dx []) ∧ SetAt K H b p ∧ p.Ok ∧
  ∀ H' first pages, SB a H H' → Cyc p first pages → PkAt K H' a p first pages → (∀ s xs H'', H s = some (.lst xs) → SB s H' H'' → PkAt K H'' a p first pages) → Q .non H'
theorem use_packing_init {K : PySem.W.Frag} {a dx b : Addr} {p : Prt} {H : Hp} {Q : VK} {E : XK} (h : H a = some (.ins (He.ga K "Packing") dx [])) (hb : SetAt K H b p) (ok : p.Ok)
  (k : ∀ H' first pages, SB a H H' → Cyc p first pages → PkAt K H' a p first pages → (∀ s xs H'', H s = some (.lst xs) → SB s H' H'' → PkAt K H'' a p first pages) → Q .non H') : sp_Packing_init K [.ref a, .ref b] H Q E := by
  unfold sp_Packing_init; exact ⟨a, dx, b, p, rfl, h, hb, ok, k⟩
theorem b_Packing___init__ {K : PySem.W.Frag} {fd : FuncData} (F : F_Packing___init__ K fd) : Binds K fd P_Packing___init__ [] := FunD.bindsN F fun _ _ _ _ _ _ us hl => match us, hl with | [_, _], _ => rfl
theorem ok_Packing___init__ (T : Txt K mg D) : FnOk P w K mg base CX0 3 (He.fAd K ("Packing", some "__init__")) (D D_Packing___init__) P_Packing___init__ (sp_Packing_init K) := by
  refine T.d_Packing___init__.ok sc_Packing___init__ (fun vs H Q E h => ?_) (fun cdv A outer s H vs Q E hr h => ?_)
  · unfold sp_Packing_init at h
    first | (obtain ⟨rfl, _⟩ := h; rfl) | (obtain ⟨_, rfl, _⟩ := h; rfl) | (obtain ⟨_, _, rfl, _⟩ := h; rfl) | (obtain ⟨_, _, _, rfl, _⟩ := h; rfl) | (obtain ⟨_, _, _, _, rfl, _⟩ := h; rfl) | (obtain ⟨_, _, _, _, _, rfl, _⟩ := h; rfl) | (obtain ⟨_, _, _, _, _, _, rfl, _⟩ := h; rfl) | (obtain ⟨_, _, _, _, _, _, _, rfl, _⟩ := h; rfl) | (obtain ⟨_, _, _, _, _, _, _, _, rfl, _⟩ := h; rfl) | (obtain ⟨_, _, _, _, _, _, _, _, _, rfl, _⟩ := h; rfl) | (obtain ⟨_, _, _, _, _, _, _, _, _, _, rfl, _⟩ := h; rfl) | (obtain ⟨_, _, _, _, _, _, _, _, _, _, _, rfl, _⟩ := h; rfl)
  · refine ⟨_, PSs.nox (pss_cons (ps_expr (pe_call (ok_check_settings T) (hr.mono (by decide)) rfl T.g_check_settings T.d_check_settings.kp (b_check_settings T.d_check_settings) .nil pass0 (pa_cons (pv 1) pa_nil)))
      (pss_cons (ps_fld (pv 0) (pe_fldK (K := K) (pv 1) rfl) rfl)
      (pss_cons (ps_fld (pv 0) (pe_fldK (K := K) (pv 1) rfl) rfl)
      (pss_cons (ps_fld (pv 0) (pe_lst (pa_cons pe_int pa_nil)) rfl)
      (pss_cons (ps_set (i := 2) sc_Packing___init__.nd rfl (Or.inl rfl) pe_dnewK)
      (pss_cons (ps_while PassesOwn.never (pt_cmp (pc_dnotin (hu_of hr) (pe_op op_mod (pe_ix (ix_listK (K := K)) (pe_fldK (K := K) (pv 0) rfl) (pe_un un_neg pe_int) (fun _ _ => rfl)) (pe_callB (call_lenK (K := K)) (by rfl) T.n_len (by decide +kernel) (pa_cons (pe_fldK (K := K) (pv 0) rfl) pa_nil))) (pv 2))) (pss_cons (ps_dput (hu_of hr) (pv 2) (pe_op op_mod (pe_ix (ix_listK (K := K)) (pe_fldK (K := K) (pv 0) rfl) (pe_un un_neg pe_int) (fun _ _ => rfl)) (pe_callB (call_lenK (K := K)) (by rfl) T.n_len (by decide +kernel) (pa_cons (pe_fldK (K := K) (pv 0) rfl) pa_nil))) (pe_op op_sub (pe_callB (call_lenK (K := K)) (by rfl) T.n_len (by decide +kernel) (pa_cons (pe_fldK (K := K) (pv 0) rfl) pa_nil)) pe_int) rfl)
      (pss_one (ps_expr (pe_bm PySem.F.plainAttrs_list PySem.F.slot_list_append PySem.F.type_list_append mt_append (pe_fldK (K := K) (pv 0) rfl) (pa_cons (pe_op op_add (pe_ix (ix_listK (K := K)) (pe_fldK (K := K) (pv 0) rfl) (pe_un un_neg pe_int) (fun _ _ => rfl)) (pe_meth (pv 0) T.c_Packing T.m_Packing_rows_from (ok_Packing_rows_from T) (hr.mono (by decide)) (b_Packing_rows_from T.d_Packing_rows_from) .nil pass0 (pa_cons (pe_ix (ix_listK (K := K)) (pe_fldK (K := K) (pv 0) rfl) (pe_un un_neg pe_int) (fun _ _ => rfl)) pa_nil))) pa_nil))))))
      (pss_cons (ps_fld (pv 0) (pe_dget (hu_of hr) (pv 2) (pe_op op_mod (pe_ix (ix_listK (K := K)) (pe_fldK (K := K) (pv 0) rfl) (pe_un un_neg pe_int) (fun _ _ => rfl)) (pe_callB (call_lenK (K := K)) (by rfl) T.n_len (by decide +kernel) (pa_cons (pe_fldK (K := K) (pv 0) rfl) pa_nil))) (fun _ _ => rfl)) rfl)
      (pss_cons (ps_fld (pv 0) (pe_op op_sub (pe_op op_sub (pe_callB (call_lenK (K := K)) (by rfl) T.n_len (by decide +kernel) (pa_cons (pe_fldK (K := K) (pv 0) rfl) pa_nil)) pe_int) (pe_fldK (K := K) (pv 0) rfl)) rfl)
      (pss_one (ps_fld (pv 0) (pe_op op_sub (pe_ix (ix_listK (K := K)) (pe_fldK (K := K) (pv 0) rfl) (pe_un un_neg pe_int) (fun _ _ => rfl)) (pe_ix (ix_listK (K := K)) (pe_fldK (K := K) (pv 0) rfl) (pe_fldK (K := K) (pv 0) rfl) (fun _ _ => rfl))) rfl)))))))))), ?_⟩
    unfold sp_Packing_init at h
    obtain ⟨a, dx, b, p, rfl, ha, ⟨dy, t, hb, ht⟩, ok, k⟩ := h
    have l0 := ok.l0
    have l1 := ok.l1
    have nab : a ≠ b := ne_of ha hb (by intro z; injection z with _ _ z3; cases z3)
    have nat : t ≠ a := ne_of ht ha (by intro z; cases z)
    walk_at "rd"
    refine use_check_settings hb ?_
    walk_at "rd"
    generalize eG1 : upd _ _ _ = G1
    obtain ⟨g1, h1⟩ := gen_st eG1
    clear eG1
    try simp only [pf_Settings_0, pf_Settings_1, pf_Settings_2, pf_Settings_3, pf_Settings_4, pf_Settings_5, pf_Packing_0, pf_Packing_1, pf_Packing_2, pf_Packing_3, pf_Packing_4, pf_Packing_5, pf_Heights_0, pf_Heights_1, pf_Heights_2] at h1
    have hb1 := g1 _ _ nab.symm hb
    walk_at "rd"
    generalize eG2 : upd _ _ _ = G2
    obtain ⟨g2, h2⟩ := gen_st eG2
    clear eG2
    try simp only [pf_Settings_0, pf_Settings_1, pf_Settings_2, pf_Settings_3, pf_Settings_4, pf_Settings_5, pf_Packing_0, pf_Packing_1, pf_Packing_2, pf_Packing_3, pf_Packing_4, pf_Packing_5, pf_Heights_0, pf_Heights_1, pf_Heights_2] at h2
    walk_at "rd"
    intro l n3
    generalize eG3 : upd _ l _ = G3
    obtain ⟨g3, h3⟩ := gen_new n3 eG3
    clear eG3
    have h23 := g3 _ _ h2
    have nla : l ≠ a := (ne_of_none h2 n3).symm
    walk_at "rd"
    generalize eG4 : upd _ _ _ = G4
    obtain ⟨g4, h4⟩ := gen_st eG4
    clear eG4
    try simp only [pf_Settings_0, pf_Settings_1, pf_Settings_2, pf_Settings_3, pf_Settings_4, pf_Settings_5, pf_Packing_0, pf_Packing_1, pf_Packing_2, pf_Packing_3, pf_Packing_4, pf_Packing_5, pf_Heights_0, pf_Heights_1, pf_Heights_2] at h4
    have h34 := g4 _ _ nla h3
    walk_at "rd"
    intro d n5
    generalize eG5 : upd _ d _ = G5
    obtain ⟨g5, h5⟩ := gen_new n5 eG5
    clear eG5
    have h45 := g5 _ _ h4
    have h35 := g5 _ _ h34
    have nda : d ≠ a := (ne_of_none h4 n5).symm
    have ndl : d ≠ l := (ne_of_none h34 n5).symm
    have ht5 := g5 _ _ (g4 _ _ nat (g3 _ _ (g2 _ _ nat (g1 _ _ nat ht))))
    have ntl : t ≠ l := ne_of ht5 h35 (by intro z; cases z)
    have ntd : t ≠ d := ne_of ht5 h5 (by intro z; cases z)
    have fro : ∀ H', SX [l, d] G5 H' → H' a = some (.ins (He.ga K "Packing") dx [(("row_lengths" : Str), V.ref t), (("room" : Str), V.int p.size), (("starts" : Str), V.ref l)]) ∧ H' t = some (.tup (p.lens.map V.int)) := fun H' f => ⟨f _ _ (by simp [nla.symm, nda.symm]) h45, f _ _ (by simp [ntl, ntd]) ht5⟩
    walk_at "rd"
    refine ⟨fun m σ H' => ∃ (n : Nat) (kvs : List (Key × V)), σ = [some (.ref a), some (.ref b), some (.ref d)] ∧ SX [l, d] G5 H' ∧ H' l = some (.lst (stL p n)) ∧ H' d = some (.dK kvs) ∧ Seen p n kvs ∧
      (∀ i j, i < j → j < n → resN p i ≠ resN p j) ∧ n ≤ 6 ∧ m = 7 - n, ⟨7, 0, [], rfl, SX.refl, h35, h5, ⟨Nat.le_refl _, fun j hj => absurd hj (by omega), fun k hk => absurd rfl hk⟩, fun i j _ hj => absurd hj (by omega), by omega, rfl⟩, ?_⟩
    rintro m σ H' ⟨n, kvs, rfl, fx, hl, hd, hs, inj, hn, rfl⟩
    obtain ⟨ha', ht'⟩ := fro _ fx
    have base : ∀ G, Same H' G → PkBase K G a p := fun G g => ⟨dx, _, t, g _ _ ha', by kernel_rfl, by kernel_rfl, none_all (by kernel_rfl), g _ _ ht'⟩
    walk_at "rd"
    have elen : ((p.lens.map V.int).length : Int) = (p.lens.length : Int) := by rw [List.length_map]
    have eres : (startN p n : Int) % ((p.lens.map V.int).length : Int) = (resN p n : Int) := by rw [elen]; exact (Int.natCast_emod _ _).symm
    have e0 : (0 : Int) < ((p.lens.map V.int).length : Int) := by rw [elen]; omega
    refine ⟨_, _, _, _, rfl, rfl, SqL.of hl, stL_last p n, ?_⟩
    walk_at "rd"
    have hg : ∀ G, G d = some (.dK kvs) → DGet G d (.int ((startN p n : Int) % ((p.lens.map V.int).length : Int))) (valV kvs (Sum.inl (resN p n : Int))) := fun G h => by
      rw [eres]; exact DGet.k (k := Sum.inl (resN p n : Int)) h
    refine ⟨_, _, rfl, hg _ hd, ?_⟩
    walk_at "rd"
    cases hv : valV kvs (Sum.inl (resN p n : Int)) with
    | none =>
      refine iteT ?_
      have inj2 : ∀ i j, i < j → j < n + 1 → resN p i ≠ resN p j := fun i j hij hj => by
        by_cases hjn : j = n
        · subst hjn
          intro z
          have := hs.2.1 i hij
          rw [z, hv] at this
          cases this
        · exact inj i j hij (by omega)
      have hn7 : n + 1 ≤ 6 := Nat.le_trans (pigeon p.lens.length (n + 1) (resN p) (fun i _ => resN_lt ok i) inj2) ok.l1
      refine ⟨fun σ' H'' => ∃ m', m' < 7 - n ∧ ∃ (n : Nat) (kvs : List (Key × V)), σ' = [some (.ref a), some (.ref b), some (.ref d)] ∧ SX [l, d] G5 H'' ∧ H'' l = some (.lst (stL p n)) ∧ H'' d = some (.dK kvs) ∧ Seen p n kvs ∧
        (∀ i j, i < j → j < n → resN p i ≠ resN p j) ∧ n ≤ 6 ∧ m' = 7 - n, fun _ _ h => h, ?_⟩
      walk_at "rd"
      refine ⟨_, _, _, _, rfl, rfl, SqL.of hl, stL_last p n, ?_⟩
      walk_at "rd"
      have hput : DPut H' d (.int ((startN p n : Int) % ((p.lens.map V.int).length : Int))) (.int (((stL p n).length : Int) - 1)) (upd H' d (.dK (putK kvs (Sum.inl (resN p n : Int)) (.int n)))) := by
        have e2 : ((stL p n).length : Int) - 1 = (n : Int) := by rw [stL_len]; omega
        rw [eres, e2]
        exact DPut.k (k := Sum.inl (resN p n : Int)) hd (szlt (Nat.le_trans hs.1 (by omega)))
      refine ⟨_, _, rfl, hput, ?_⟩
      generalize eG7 : upd _ _ _ = G7
      obtain ⟨g7, h7⟩ := gen_st eG7
      clear eG7
      try simp only [pf_Settings_0, pf_Settings_1, pf_Settings_2, pf_Settings_3, pf_Settings_4, pf_Settings_5, pf_Packing_0, pf_Packing_1, pf_Packing_2, pf_Packing_3, pf_Packing_4, pf_Packing_5, pf_Heights_0, pf_Heights_1, pf_Heights_2] at h7
      have hl7 := g7 _ _ ndl.symm hl
      have ha7 := g7 _ _ nda.symm ha'
      have ht7 := g7 _ _ ntd ht'
      walk_at "rd"
      refine ⟨.inl ⟨rfl, _, SqL.of hl7⟩, ?_⟩
      walk_at "rd"
      refine ⟨_, _, _, _, rfl, rfl, SqL.of hl7, stL_last p n, ?_⟩
      walk_at "rd"
      refine ⟨_, _, _, _, rfl, rfl, SqL.of hl7, stL_last p n, ?_⟩
      walk_at "rd"
      refine use_rows_from (r := startN p n) rfl ⟨dx, _, t, ha7, by kernel_rfl, by kernel_rfl, none_all (by kernel_rfl), ht7⟩ ok fun G8 g8 => ?_
      walk_at "rd"
      refine ⟨_, _, _, rfl, rfl, g8 _ _ hl7, szlt (by rw [stL_len]; omega), ?_⟩
      generalize eG9 : upd _ _ _ = G9
      obtain ⟨g9, h9⟩ := gen_st eG9
      clear eG9
      try simp only [pf_Settings_0, pf_Settings_1, pf_Settings_2, pf_Settings_3, pf_Settings_4, pf_Settings_5, pf_Packing_0, pf_Packing_1, pf_Packing_2, pf_Packing_3, pf_Packing_4, pf_Packing_5, pf_Heights_0, pf_Heights_1, pf_Heights_2] at h9
      refine ⟨7 - (n + 1), by omega, n + 1, putK kvs (Sum.inl (resN p n : Int)) (.int n), rfl, ?_, ?_, g9 _ _ ndl (g8 _ _ h7), hs.put hv, inj2, hn7, rfl⟩
      · exact ((fx.trans (g7.sx (by simp))).trans g8.sx).trans (g9.sx (by simp))
      · rw [h9, stL_succ]
        exact congrArg (fun z => some (HO.lst (stL p n ++ [V.int z]))) (Int.natCast_add _ _).symm
    | some v =>
      refine iteF ?_
      obtain ⟨j, hj, ej⟩ := hs.2.2 (resN p n : Int) (by rw [hv]; simp)
      have hvj := hs.2.1 j hj
      have hv0 := hv
      rw [← ej, hv] at hvj
      cases hvj
      have ejn : resN p n = resN p j := by omega
      walk_at "rd"
      refine ⟨_, _, _, _, rfl, rfl, SqL.of hl, stL_last p n, ?_⟩
      walk_at "rd"
      refine ⟨_, .int j, rfl, ?_, ?_⟩
      · have := hg _ hd
        rw [hv0] at this
        exact this
      walk_at "rd"
      generalize eK1 : upd _ _ _ = K1
      obtain ⟨k1, e1⟩ := gen_st eK1
      clear eK1
      try simp only [pf_Settings_0, pf_Settings_1, pf_Settings_2, pf_Settings_3, pf_Settings_4, pf_Settings_5, pf_Packing_0, pf_Packing_1, pf_Packing_2, pf_Packing_3, pf_Packing_4, pf_Packing_5, pf_Heights_0, pf_Heights_1, pf_Heights_2] at e1
      have hl1 := k1 _ _ nla hl
      walk_at "rd"
      generalize eK2 : upd _ _ _ = K2
      obtain ⟨k2, e2⟩ := gen_st eK2
      clear eK2
      try simp only [pf_Settings_0, pf_Settings_1, pf_Settings_2, pf_Settings_3, pf_Settings_4, pf_Settings_5, pf_Packing_0, pf_Packing_1, pf_Packing_2, pf_Packing_3, pf_Packing_4, pf_Packing_5, pf_Heights_0, pf_Heights_1, pf_Heights_2] at e2
      have hl2 := k2 _ _ nla hl1
      walk_at "rd"
      refine ⟨_, _, _, _, rfl, rfl, SqL.of hl2, stL_last p n, ?_⟩
      walk_at "rd"
      refine ⟨_, _, _, _, rfl, rfl, SqL.of hl2, atI_int (j := j) rfl (stL_get p (show j ≤ n by omega)), ?_⟩
      walk_at "rd"
      generalize eK3 : upd _ _ _ = K3
      obtain ⟨k3, e3⟩ := gen_st eK3
      clear eK3
      try simp only [pf_Settings_0, pf_Settings_1, pf_Settings_2, pf_Settings_3, pf_Settings_4, pf_Settings_5, pf_Packing_0, pf_Packing_1, pf_Packing_2, pf_Packing_3, pf_Packing_4, pf_Packing_5, pf_Heights_0, pf_Heights_1, pf_Heights_2] at e3
      have eN : j + (n - j) = n := by omega
      have e7 : ((stL p n).length : Int) - 1 - (j : Int) = ((n - j : Nat) : Int) := by rw [stL_len]; omega
      have q1 : K3 a = some (.ins (He.ga K "Packing") dx [("row_lengths", .ref t), ("room", .int p.size), ("starts", .ref l), ("first", .int j), ("pages", .int (n - j : Nat)), ("rows", .int ((startN p (j + (n - j)) : Int) - startN p j))]) := by
        rw [eN, ← e7]
        exact e3
      have q2 : K3 t = some (.tup (p.lens.map V.int)) := k3 _ _ nat (k2 _ _ nat (k1 _ _ nat ht'))
      have q3 : K3 l = some (.lst (stL p (j + (n - j)))) := by
        rw [eN]
        exact k3 _ _ nla hl2
      refine k K3 j (n - j) ?_ ⟨by omega, by rw [eN]; exact ejn, fun x y hxy hy => inj x y hxy (by omega)⟩ ⟨dx, t, l, q1, q2, q3⟩ fun s xs H'' hs0 e => ?_
      · intro c o hc ho
        have o2 := g2 _ _ hc (g1 _ _ hc ho)
        have o4 := g4 _ _ hc (g3 _ _ o2)
        exact k3 _ _ hc (k2 _ _ hc (k1 _ _ hc (fx _ _ (by simp [ne_of_none o2 n3, ne_of_none o4 n5]) (g5 _ _ o4))))
      · have nsa : s ≠ a := ne_of hs0 ha (by intro z; cases z)
        have nst : s ≠ t := ne_of hs0 ht (by intro z; cases z)
        have nsl : s ≠ l := ne_of_none (g2 _ _ nsa (g1 _ _ nsa hs0)) n3
        exact ⟨dx, t, l, e _ _ nsa.symm q1, e _ _ nst.symm q2, e _ _ nsl.symm q3⟩

@[irreducible] def sp_Packing_start (K : PySem.W.Frag) : Sp := fun vs H Q _ => ∃ (a : Addr) (p : Prt) (first pages n : Nat), vs = [.ref a, .int n] ∧ PkAt K H a p first pages ∧ p.Ok ∧ Cyc p first pages ∧ ∀ H', Same H H' → Q (.int (startN p n)) H'
theorem use_start {K : PySem.W.Frag} {a : Addr} {p : Prt} {first pages n : Nat} {H : Hp} {Q : VK} {E : XK} {i : Int} (hi : i = (n : Int)) (h : PkAt K H a p first pages) (ok : p.Ok) (c : Cyc p first pages) (k : ∀ H', Same H H' → Q (.int (startN p n)) H') :
  sp_Packing_start K [.ref a, .int i] H Q E := by subst hi; unfold sp_Packing_start; exact ⟨a, p, first, pages, n, rfl, h, ok, c, k⟩
theorem b_Packing_start {K : PySem.W.Frag} {fd : FuncData} (F : F_Packing_start K fd) : Binds K fd P_Packing_start [] := FunD.bindsN F fun _ _ _ _ _ _ us hl => match us, hl with | [_, _], _ => rfl
theorem ok_Packing_start (T : Txt K mg D) : FnOk P w K mg base CX0 1 (He.fAd K ("Packing", some "start")) (D D_Packing_start) P_Packing_start (sp_Packing_start K) := by
  refine T.d_Packing_start.ok sc_Packing_start (fun vs H Q E h => ?_) (fun cdv A outer s H vs Q E hr h => ?_)
  · unfold sp_Packing_start at h
    first | (obtain ⟨rfl, _⟩ := h; rfl) | (obtain ⟨_, rfl, _⟩ := h; rfl) | (obtain ⟨_, _, rfl, _⟩ := h; rfl) | (obtain ⟨_, _, _, rfl, _⟩ := h; rfl) | (obtain ⟨_, _, _, _, rfl, _⟩ := h; rfl) | (obtain ⟨_, _, _, _, _, rfl, _⟩ := h; rfl) | (obtain ⟨_, _, _, _, _, _, rfl, _⟩ := h; rfl) | (obtain ⟨_, _, _, _, _, _, _, rfl, _⟩ := h; rfl) | (obtain ⟨_, _, _, _, _, _, _, _, rfl, _⟩ := h; rfl) | (obtain ⟨_, _, _, _, _, _, _, _, _, rfl, _⟩ := h; rfl) | (obtain ⟨_, _, _, _, _, _, _, _, _, _, rfl, _⟩ := h; rfl) | (obtain ⟨_, _, _, _, _, _, _, _, _, _, _, rfl, _⟩ := h; rfl)
  · refine ⟨_, PSs.nox (pss_cons (ps_if (pt_cmpR op_lt (pv 1) (pe_fldK (K := K) (pv 0) rfl) (nomark _)) (pss_one (ps_ret (pe_ix (ix_listK (K := K)) (pe_fldK (K := K) (pv 0) rfl) (pv 1) (fun _ _ => rfl)))) pss_nil)
      (pss_cons (ps_asg (pe_callB call_divmod (by rfl) T.n_divmod (by decide +kernel) (pa_cons (pe_op op_sub (pv 1) (pe_fldK (K := K) (pv 0) rfl)) (pa_cons (pe_fldK (K := K) (pv 0) rfl) pa_nil))) (pg_tup rfl (pgs_cons (pg_name (i := 2) sc_Packing_start.nd rfl (Or.inl rfl)) (pgs_cons (pg_name (i := 3) sc_Packing_start.nd rfl (Or.inl rfl)) pgs_nil))))
      (pss_one (ps_ret (pe_op op_add (pe_ix (ix_listK (K := K)) (pe_fldK (K := K) (pv 0) rfl) (pe_op op_add (pe_fldK (K := K) (pv 0) rfl) (pv 3)) (fun _ _ => rfl)) (pe_op op_mul (pv 2) (pe_fldK (K := K) (pv 0) rfl))))))), ?_⟩
    unfold sp_Packing_start at h
    obtain ⟨a, p, first, pages, n, rfl, ⟨dx, t, l, h1, h2, h3⟩, ok, c, k⟩ := h
    have hle := c.le ok
    have hpos := c.pos
    walk_at "rd"
    refine iteB (fun d => ?_) (fun d => ?_)
    · have d := of_decide_eq_true d
      walk_at "rd"
      refine ⟨_, _, _, _, rfl, rfl, SqL.of h3, atI_int (j := n) rfl (stL_get p (by omega)), ?_⟩
      exact k H (Same.refl H)
    · have d := of_decide_eq_false d
      walk_at "rd"
      intro q n1
      generalize eG1 : upd _ q _ = G1
      obtain ⟨s1, c1⟩ := gen_new n1 eG1
      clear eG1
      have h31 := s1 _ _ h3
      have h11 := s1 _ _ h1
      walk_at "rd"
      have e1 : ((n : Int) - (first : Int)) / (pages : Int) = (((n - first) / pages : Nat) : Int) := by rw [← Int.ofNat_sub (by omega)]; rfl
      have e2 : ((n : Int) - (first : Int)) % (pages : Int) = (((n - first) % pages : Nat) : Int) := by rw [← Int.ofNat_sub (by omega)]; rfl
      have hm : (n - first) % pages < pages := Nat.mod_lt _ hpos
      refine ⟨_, _, _, _, rfl, rfl, SqL.of h31, atI_int (j := first + (n - first) % pages) (by rw [e2]; omega) (stL_get p (by omega)), ?_⟩
      walk_at "rd"
      have hr := rowsC_le ok c
      have hsp := start_mono ok (show first ≤ first + pages by omega)
      have er : (startN p (first + pages) : Int) - (startN p first : Int) = (rowsC p first pages : Int) := by unfold rowsC; omega
      refine ⟨cmr (by rw [er]; omega) (by rw [er]; omega), ?_⟩
      walk_at "rd"
      have e3 : (startN p n : Int) = (startN p (first + (n - first) % pages) : Int) + (((n : Int) - (first : Int)) / (pages : Int)) * ((startN p (first + pages) : Int) - (startN p first : Int)) := by
        rw [e1, er, ← Int.natCast_mul, ← Int.natCast_add, ← start_times ok c (show first ≤ first + (n - first) % pages by omega)]
        have := Nat.mod_add_div (n - first) pages
        rw [show first + (n - first) % pages + (n - first) / pages * pages = n by rw [Nat.mul_comm]; omega]
      have q1 := k G1 s1
      rw [e3] at q1
      exact q1

@[irreducible] def sp_Packing_holder (K : PySem.W.Frag) : Sp := fun vs H Q _ => ∃ (a : Addr) (p : Prt) (first pages r : Nat), vs = [.ref a, .int r] ∧ PkAt K H a p first pages ∧ p.Ok ∧ Cyc p first pages ∧ ∀ n H', On p r n → Same H H' → Q (.int n) H'
theorem use_holder {K : PySem.W.Frag} {a : Addr} {p : Prt} {first pages r : Nat} {H : Hp} {Q : VK} {E : XK} {i : Int} (hi : i = (r : Int)) (h : PkAt K H a p first pages) (ok : p.Ok) (c : Cyc p first pages) (k : ∀ n H', On p r n → Same H H' → Q (.int n) H') :
  sp_Packing_holder K [.ref a, .int i] H Q E := by subst hi; unfold sp_Packing_holder; exact ⟨a, p, first, pages, r, rfl, h, ok, c, k⟩
/-- the first row of the cycle that is like row r, and how many cycles lie between -/
theorem near_of {p : Prt} (ok : p.Ok) {first pages : Nat} (c : Cyc p first pages) (r : Nat) : ∃ t near, r = near + t * rowsC p first pages ∧ near < startN p (first + pages) ∧ (t = 0 ∨ startN p first ≤ near) ∧
    (startN p first ≤ r → t = (r - startN p first) / rowsC p first pages) ∧ (r < startN p first → t = 0) := by
  have h1 := rowsC_pos ok c
  have h2 := start_mono ok (show first ≤ first + pages by omega)
  have er : rowsC p first pages = startN p (first + pages) - startN p first := rfl
  by_cases h : startN p first ≤ r
  · refine ⟨(r - startN p first) / rowsC p first pages, startN p first + (r - startN p first) % rowsC p first pages, ?_, ?_, .inr (by omega), fun _ => rfl, fun z => by omega⟩
    · have := Nat.mod_add_div (r - startN p first) (rowsC p first pages)
      rw [Nat.mul_comm] at this
      omega
    · have := Nat.mod_lt (r - startN p first) h1
      omega
  · exact ⟨0, r, by omega, by omega, .inl rfl, fun z => absurd z h, fun _ => rfl⟩
theorem par6 {A B : Option V} {x y : Int} (h : x = y) {l : List (Option V)} : A :: B :: some (V.int x) :: l = A :: B :: some (V.int y) :: l := by subst h; rfl
theorem b_Packing_holder {K : PySem.W.Frag} {fd : FuncData} (F : F_Packing_holder K fd) : Binds K fd P_Packing_holder [] := FunD.bindsN F fun _ _ _ _ _ _ us hl => match us, hl with | [_, _], _ => rfl
theorem ok_Packing_holder (T : Txt K mg D) : FnOk P w K mg base CX0 1 (He.fAd K ("Packing", some "holder")) (D D_Packing_holder) P_Packing_holder (sp_Packing_holder K) := by
  refine T.d_Packing_holder.ok sc_Packing_holder (fun vs H Q E h => ?_) (fun cdv A outer s H vs Q E hr h => ?_)
  · unfold sp_Packing_holder at h
    first | (obtain ⟨rfl, _⟩ := h; rfl) | (obtain ⟨_, rfl, _⟩ := h; rfl) | (obtain ⟨_, _, rfl, _⟩ := h; rfl) | (obtain ⟨_, _, _, rfl, _⟩ := h; rfl) | (obtain ⟨_, _, _, _, rfl, _⟩ := h; rfl) | (obtain ⟨_, _, _, _, _, rfl, _⟩ := h; rfl) | (obtain ⟨_, _, _, _, _, _, rfl, _⟩ := h; rfl) | (obtain ⟨_, _, _, _, _, _, _, rfl, _⟩ := h; rfl) | (obtain ⟨_, _, _, _, _, _, _, _, rfl, _⟩ := h; rfl) | (obtain ⟨_, _, _, _, _, _, _, _, _, rfl, _⟩ := h; rfl) | (obtain ⟨_, _, _, _, _, _, _, _, _, _, rfl, _⟩ := h; rfl) | (obtain ⟨_, _, _, _, _, _, _, _, _, _, _, rfl, _⟩ := h; rfl)
  · refine ⟨_, PSs.nox (pss_cons (ps_set (i := 2) sc_Packing_holder.nd rfl (Or.inl rfl) pe_int)
      (Evl.pss_cut (ps_if (pt_cmpR op_ge (pv 1) (pe_ix (ix_listK (K := K)) (pe_fldK (K := K) (pv 0) rfl) (pe_fldK (K := K) (pv 0) rfl) (fun _ _ => rfl)) (nomark _)) (pss_one (ps_set (i := 2) sc_Packing_holder.nd rfl (Or.inl rfl) (pe_op op_fdivW (pe_op op_sub (pv 1) (pe_ix (ix_listK (K := K)) (pe_fldK (K := K) (pv 0) rfl) (pe_fldK (K := K) (pv 0) rfl) (fun _ _ => rfl))) (pe_fldK (K := K) (pv 0) rfl)))) pss_nil)
      (pss_cons (ps_set (i := 3) sc_Packing_holder.nd rfl (Or.inr rfl) (pe_op op_sub (pv 1) (pe_op op_mul (pv 2) (pe_fldK (K := K) (pv 0) rfl))))
      (pss_cons (ps_set (i := 4) sc_Packing_holder.nd rfl (Or.inl rfl) (pe_ix (ix_listK (K := K)) (pe_lc (own := [("place", 5)]) rfl sc_Packing_holder.nd (pi_range1 (by rfl) T.n_range (pa_cons (pe_callB (call_lenK (K := K)) (by rfl) T.n_len (by decide +kernel) (pa_cons (pe_fldK (K := K) (pv 0) rfl) pa_nil)) pa_nil)) (blkOk_by (N := N_Packing_holder) (sc := defScope s_Packing_holder) (by decide +kernel)) (fun _ _ _ _ _ => (pg_name (i := 5) sc_Packing_holder.nd rfl (Or.inl rfl))) (fun _ _ _ _ _ => (pts_one (pt_cmpR op_le (pe_ix (ix_listK (K := K)) (pe_fldK (K := K) (pv 0) rfl) (pv 5) (fun _ _ => rfl)) (pv 3) (nomark _)))) (fun _ _ _ _ _ => (pv 5))) (pe_un un_neg pe_int) (fun _ _ => rfl)))
      (pss_one (ps_ret (pe_op op_add (pv 4) (pe_op op_mul (pv 2) (pe_fldK (K := K) (pv 0) rfl))))))))), ?_⟩
    unfold sp_Packing_holder at h
    obtain ⟨a, p, first, pages, r, rfl, ⟨dx, t, l, h1, h2, h3⟩, ok, c, k⟩ := h
    have hle := c.le ok
    have hpos := c.pos
    have hsp := start_mono ok (show first ≤ first + pages by omega)
    have er : (startN p (first + pages) : Int) - (startN p first : Int) = (rowsC p first pages : Int) := by unfold rowsC; omega
    have hr0 := rowsC_pos ok c
    have hr1 := rowsC_le ok c
    obtain ⟨tm, near, en, hn, ht, hu, hv⟩ := near_of ok c r
    have hsl := stL_len p (first + pages)
    walk_at "rd"
    refine ⟨fun σ' H' => H' = H ∧ σ' = [some (.ref a), some (.int r), some (.int tm), none, none, none], ?_, ?_⟩
    · walk_at "rd"
      refine ⟨_, _, _, _, rfl, rfl, SqL.of h3, atI_int (j := first) rfl (stL_get p (by omega)), ?_⟩
      walk_at "rd"
      refine iteB (fun d => ?_) (fun d => ?_)
      · have d := of_decide_eq_true d
        have d2 : startN p first ≤ r := by omega
        walk_at "rd"
        refine ⟨_, _, _, _, rfl, rfl, SqL.of h3, atI_int (j := first) rfl (stL_get p (by omega)), ?_⟩
        walk_at "rd"
        have e9 : ((r : Int) - (startN p first : Int)) / ((startN p (first + pages) : Int) - (startN p first : Int)) = (tm : Int) := by
          rw [er, ← Int.ofNat_sub d2, hu d2]; rfl
        exact par6 e9
      · have d := of_decide_eq_false d
        walk_at "rd"
        have e9 := hv (by omega)
        subst e9
        rfl
    rintro σ H' ⟨rfl, rfl⟩
    walk_at "rd"
    have hs0 : startN p 0 = 0 := rfl
    have enear : (r : Int) - (tm : Int) * ((startN p (first + pages) : Int) - (startN p first : Int)) = (near : Int) := by
      rw [er, ← Int.natCast_mul]; omega
    intro D1 n1
    have nl : l ≠ D1 := ne_of_none h3 n1
    refine lc_range (lo := 0) (n := Int.toNat _) (fun i G => ∃ c, G D1 = some (.lst ((List.range c).map fun (j : Nat) => V.int (j : Int))) ∧ SX [D1] H' G ∧ (∀ j, j < i → (startN p j ≤ near ↔ j < c)) ∧ c ≤ i) ⟨0, upd_same, SX.refl.mut n1, fun j hj => absurd hj (by omega), Nat.le_refl _⟩ ?_ ?_
    · rintro i G hi ⟨m, hD, f, hc, hm⟩
      have hi2 : i ≤ first + pages := by omega
      refine ⟨rfl, ?_⟩
      have h3' := f _ _ (by simp [nl]) h3
      have h1' := f _ _ (by simp [ne_of_none h1 n1]) h1
      walk_at "rd"
      refine ⟨_, _, _, _, rfl, rfl, SqL.of h3', atI_int (j := i) (by omega) (stL_get p hi2), ?_⟩
      walk_at "rd"
      refine iteB (fun d => ?_) (fun d => ?_)
      · have d := of_decide_eq_true d
        have d : startN p i ≤ near := by
          have d2 : (startN p i : Int) ≤ (r : Int) - (tm : Int) * ((startN p (first + pages) : Int) - (startN p first : Int)) := d
          omega
        walk_at "rd"
        have hmi : m = i := by
          by_cases h : m = i
          · exact h
          · have z := (hc m (by omega)).mp (Nat.le_trans (start_mono ok (by omega)) d)
            omega
        subst hmi
        refine ⟨_, hD, szlt (by rw [List.length_map, List.length_range]; omega), m + 1, ?_, f.upd (by simp), fun j hj => ⟨fun _ => hj, fun _ => Nat.le_trans (start_mono ok (by omega)) d⟩, Nat.le_refl _⟩
        rw [upd_same, List.range_succ, List.map_append]
        exact congrArg (fun z => some (HO.lst (List.map (fun (j : Nat) => V.int (j : Int)) (List.range m) ++ [V.int z]))) (Int.zero_add _)
      · have d := of_decide_eq_false d
        have d : ¬ startN p i ≤ near := by
          have d2 : ¬ (startN p i : Int) ≤ (r : Int) - (tm : Int) * ((startN p (first + pages) : Int) - (startN p first : Int)) := d
          omega
        refine ⟨m, hD, f, fun j hj => ?_, by omega⟩
        by_cases h : j = i
        · subst h
          exact ⟨fun z => absurd z d, fun z => by omega⟩
        · exact hc j (by omega)
    · rintro G ⟨m, hD, f, hc, hm⟩
      have hlen : (Int.toNat (((stL p (first + pages)).length : Nat) : Int)) = first + pages + 1 := by rw [stL_len]; omega
      rw [hlen] at hc hm
      have m1 : 0 < m := (hc 0 (by omega)).mp (by rw [hs0]; omega)
      have m2 : m ≤ first + pages := by
        by_cases h : m ≤ first + pages
        · exact h
        · have := (hc (first + pages) (by omega)).mpr (by omega)
          omega
      obtain ⟨m, rfl⟩ : ∃ m', m = m' + 1 := ⟨m - 1, by omega⟩
      have b1 := (hc m (by omega)).mpr (by omega)
      have b2 : near < startN p (m + 1) := by
        by_cases h : startN p (m + 1) ≤ near
        · have := (hc (m + 1) (by omega)).mp h
          omega
        · omega
      have hat : atI ((List.range (m + 1)).map fun (j : Nat) => V.int (j : Int)) (-1) = some (.int (m : Int)) := by
        rw [List.range_succ, List.map_append]
        exact atI_last _ _
      have sG : Same H' G := fun b o ho => f _ _ (by simp [ne_of_none ho n1]) ho
      have h11 := sG _ _ h1
      walk_at "rd"
      refine ⟨_, _, _, _, rfl, rfl, SqL.of hD, hat, ?_⟩
      walk_at "rd"
      have ePn : (m : Int) + (tm : Int) * (pages : Int) = ((m + tm * pages : Nat) : Int) := by rw [← Int.natCast_mul]; omega
      have on : On p r (m + tm * pages) := by
        rcases ht with ht | ht
        · subst ht
          simp only [Nat.zero_mul, Nat.add_zero] at en ⊢
          rw [en]
          exact ⟨b1, b2⟩
        · have hmf : first ≤ m := by
            by_cases h : first ≤ m
            · exact h
            · have := start_mono ok (show m + 1 ≤ first by omega)
              omega
          have e1 := start_times ok c hmf tm
          have e2 := start_times ok c (show first ≤ m + 1 by omega) tm
          refine ⟨?_, ?_⟩
          · rw [e1, en]; omega
          · rw [show m + tm * pages + 1 = m + 1 + tm * pages by omega, e2, en]; omega
      have q := k _ G on sG
      rw [← ePn] at q
      exact q

@[irreducible] def sp_check_row : Sp := fun vs H Q _ => ∃ i m : Int, vs = [.int i, .int m] ∧ (0 ≤ i ∧ i ≤ m - 1) ∧ Q .non H
theorem use_check_row {i m : Int} {H : Hp} {Q : VK} {E : XK} (h : 0 ≤ i ∧ i ≤ m - 1) (q : Q .non H) : sp_check_row [.int i, .int m] H Q E := by unfold sp_check_row; exact ⟨i, m, rfl, h, q⟩
@[irreducible] def sp_check_moment : Sp := fun vs H Q _ => ∃ i : Int, vs = [.int i] ∧ (0 ≤ i ∧ i ≤ 1000000000000000000000000000000) ∧ Q .non H
theorem use_check_moment {i : Int} {H : Hp} {Q : VK} {E : XK} (h : 0 ≤ i ∧ i ≤ 1000000000000000000000000000000) (q : Q .non H) : sp_check_moment [.int i] H Q E := by unfold sp_check_moment; exact ⟨i, rfl, h, q⟩
theorem b_check_moment {K : PySem.W.Frag} {fd : FuncData} (F : F_check_moment K fd) : Binds K fd P_check_moment [] := FunD.bindsN F fun _ _ _ _ _ _ us hl => match us, hl with | [_], _ => rfl
theorem ok_check_moment (T : Txt K mg D) : FnOk P w K mg base CX0 3 (He.fAd K ("check_moment", none)) (D D_check_moment) P_check_moment sp_check_moment := by
  refine T.d_check_moment.ok sc_check_moment (fun vs H Q E h => ?_) (fun cdv A outer s H vs Q E hr h => ?_)
  · unfold sp_check_moment at h
    first | (obtain ⟨rfl, _⟩ := h; rfl) | (obtain ⟨_, rfl, _⟩ := h; rfl) | (obtain ⟨_, _, rfl, _⟩ := h; rfl) | (obtain ⟨_, _, _, rfl, _⟩ := h; rfl) | (obtain ⟨_, _, _, _, rfl, _⟩ := h; rfl) | (obtain ⟨_, _, _, _, _, rfl, _⟩ := h; rfl) | (obtain ⟨_, _, _, _, _, _, rfl, _⟩ := h; rfl) | (obtain ⟨_, _, _, _, _, _, _, rfl, _⟩ := h; rfl) | (obtain ⟨_, _, _, _, _, _, _, _, rfl, _⟩ := h; rfl) | (obtain ⟨_, _, _, _, _, _, _, _, _, rfl, _⟩ := h; rfl) | (obtain ⟨_, _, _, _, _, _, _, _, _, _, rfl, _⟩ := h; rfl) | (obtain ⟨_, _, _, _, _, _, _, _, _, _, _, rfl, _⟩ := h; rfl)
  · refine ⟨_, PSs.nox (pss_one (ps_if (pt_not (pt_val (pe_call (ok_is_between T) (hr.mono (by decide)) rfl T.g_is_between T.d_is_between.kp (b_is_between T.d_is_between) .nil pass0 (pa_cons (pv 0) (pa_cons pe_int (pa_cons (pe_globi T.i_MOST_ROW) pa_nil)))))) (pss_one ps_never) pss_nil)), ?_⟩
    unfold sp_check_moment at h
    obtain ⟨i, rfl, h, q⟩ := h
    walk_at "rd"
    refine use_between ?_
    rw [decide_eq_true h]
    walk_at "rd"
    exact q

@[irreducible] def sp_Packing_check_page (K : PySem.W.Frag) : Sp := fun vs H Q _ => ∃ (a : Addr) (p : Prt) (first pages n : Nat), vs = [.ref a, .int n] ∧ PkAt K H a p first pages ∧ p.Ok ∧ Cyc p first pages ∧ startN p n < 1000000000000000000000000000000 ∧ ∀ H', Same H H' → Q .non H'
theorem use_check_page {K : PySem.W.Frag} {a : Addr} {p : Prt} {first pages n : Nat} {H : Hp} {Q : VK} {E : XK} {i : Int} (hi : i = (n : Int)) (h : PkAt K H a p first pages) (ok : p.Ok) (c : Cyc p first pages) (hn : startN p n < 1000000000000000000000000000000)
  (k : ∀ H', Same H H' → Q .non H') : sp_Packing_check_page K [.ref a, .int i] H Q E := by subst hi; unfold sp_Packing_check_page; exact ⟨a, p, first, pages, n, rfl, h, ok, c, hn, k⟩
@[irreducible] def sp_Packing_units_of (K : PySem.W.Frag) : Sp := fun vs H Q _ => ∃ (a : Addr) (p : Prt) (r k : Nat), vs = [.ref a, .int r, .int ((r : Int) + k)] ∧ PkBase K H a p ∧ p.Ok ∧ k ≤ 1000 ∧ ∀ H', Same H H' → Q (.int (usum p r k)) H'
theorem use_units_of {K : PySem.W.Frag} {a : Addr} {p : Prt} {r k : Nat} {H : Hp} {Q : VK} {E : XK} {i j : Int} (hi : i = (r : Int)) (hj : j = (r : Int) + k) (h : PkBase K H a p) (ok : p.Ok) (hk : k ≤ 1000) (q : ∀ H', Same H H' → Q (.int (usum p r k)) H') :
  sp_Packing_units_of K [.ref a, .int i, .int j] H Q E := by subst hi hj; unfold sp_Packing_units_of; exact ⟨a, p, r, k, rfl, h, ok, hk, q⟩
def lensL (p : Prt) (r k : Nat) : List Int := (List.range k).map fun i => lenAt p (r + i)
theorem lensL_succ (p : Prt) (r k : Nat) : lensL p r (k + 1) = lensL p r k ++ [lenAt p (r + k)] := by
  unfold lensL
  rw [List.range_succ, List.map_append]
  rfl
theorem lensL_sum (p : Prt) (r : Nat) : ∀ k, (lensL p r k).sum = usum p r k
  | 0 => rfl
  | k + 1 => by rw [lensL_succ, List.sum_append, lensL_sum p r k]; simp [usum]
theorem pk_base {K : PySem.W.Frag} {H : Hp} {a : Addr} {p : Prt} {first pages : Nat} (h : PkAt K H a p first pages) : PkBase K H a p := by
  obtain ⟨dx, t, l, h1, h2, h3⟩ := h
  exact ⟨dx, _, t, h1, by kernel_rfl, by kernel_rfl, none_all (by kernel_rfl), h2⟩
theorem ne_eq {i j : Int} {A B : Prop} (h : i = j) (b : B) : if (!decide (V.int i = V.int j)) = true then A else B := by
  subst h
  rw [decide_eq_true rfl]
  exact iteF b
@[irreducible] def sp_Packing_page_of (K : PySem.W.Frag) : Sp := fun vs H Q _ => ∃ (a : Addr) (p : Prt) (first pages r : Nat), vs = [.ref a, .int r] ∧ PkAt K H a p first pages ∧ p.Ok ∧ Cyc p first pages ∧ r < 1000000000000000000000000000000 ∧ ∀ n H', On p r n → Same H H' → Q (.int n) H'
theorem use_page_of {K : PySem.W.Frag} {a : Addr} {p : Prt} {first pages r : Nat} {H : Hp} {Q : VK} {E : XK} {i : Int} (hi : i = (r : Int)) (h : PkAt K H a p first pages) (ok : p.Ok) (c : Cyc p first pages) (hr : r < 1000000000000000000000000000000)
  (k : ∀ n H', On p r n → Same H H' → Q (.int n) H') : sp_Packing_page_of K [.ref a, .int i] H Q E := by subst hi; unfold sp_Packing_page_of; exact ⟨a, p, first, pages, r, rfl, h, ok, c, hr, k⟩
@[irreducible] def sp_Packing_begun (K : PySem.W.Frag) : Sp := fun vs H Q _ => ∃ (a : Addr) (p : Prt) (first pages r : Nat), vs = [.ref a, .int r] ∧ PkAt K H a p first pages ∧ p.Ok ∧ Cyc p first pages ∧ r ≤ 1000000000000000000000000000000 ∧
  (r = 0 → ∀ H', Same H H' → Q (.int 0) H') ∧ ∀ n H', 0 < r → On p (r - 1) n → Same H H' → Q (.int ((n : Int) + 1)) H'
theorem use_begun {K : PySem.W.Frag} {a : Addr} {p : Prt} {first pages r : Nat} {H : Hp} {Q : VK} {E : XK} {i : Int} (hi : i = (r : Int)) (h : PkAt K H a p first pages) (ok : p.Ok) (c : Cyc p first pages) (hr : r ≤ 1000000000000000000000000000000)
  (k0 : r = 0 → ∀ H', Same H H' → Q (.int 0) H') (k : ∀ n H', 0 < r → On p (r - 1) n → Same H H' → Q (.int ((n : Int) + 1)) H') : sp_Packing_begun K [.ref a, .int i] H Q E := by subst hi; unfold sp_Packing_begun; exact ⟨a, p, first, pages, r, rfl, h, ok, c, hr, k0, k⟩
@[irreducible] def sp_Packing_first_row (K : PySem.W.Frag) : Sp := fun vs H Q _ => ∃ (a : Addr) (p : Prt) (first pages n : Nat), vs = [.ref a, .int n] ∧ PkAt K H a p first pages ∧ p.Ok ∧ Cyc p first pages ∧ startN p n < 1000000000000000000000000000000 ∧ ∀ H', Same H H' → Q (.int (startN p n)) H'
theorem use_first_row {K : PySem.W.Frag} {a : Addr} {p : Prt} {first pages n : Nat} {H : Hp} {Q : VK} {E : XK} {i : Int} (hi : i = (n : Int)) (h : PkAt K H a p first pages) (ok : p.Ok) (c : Cyc p first pages) (hn : startN p n < 1000000000000000000000000000000)
  (k : ∀ H', Same H H' → Q (.int (startN p n)) H') : sp_Packing_first_row K [.ref a, .int i] H Q E := by subst hi; unfold sp_Packing_first_row; exact ⟨a, p, first, pages, n, rfl, h, ok, c, hn, k⟩
@[irreducible] def sp_Packing_rows_on (K : PySem.W.Frag) : Sp := fun vs H Q _ => ∃ (a : Addr) (p : Prt) (first pages n : Nat), vs = [.ref a, .int n] ∧ PkAt K H a p first pages ∧ p.Ok ∧ Cyc p first pages ∧ startN p n < 1000000000000000000000000000000 ∧ ∀ H', Same H H' → Q (.int (rowsF p (startN p n))) H'
theorem use_rows_on {K : PySem.W.Frag} {a : Addr} {p : Prt} {first pages n : Nat} {H : Hp} {Q : VK} {E : XK} {i : Int} (hi : i = (n : Int)) (h : PkAt K H a p first pages) (ok : p.Ok) (c : Cyc p first pages) (hn : startN p n < 1000000000000000000000000000000)
  (k : ∀ H', Same H H' → Q (.int (rowsF p (startN p n))) H') : sp_Packing_rows_on K [.ref a, .int i] H Q E := by subst hi; unfold sp_Packing_rows_on; exact ⟨a, p, first, pages, n, rfl, h, ok, c, hn, k⟩
@[irreducible] def sp_Packing_units_on (K : PySem.W.Frag) : Sp := fun vs H Q _ => ∃ (a : Addr) (p : Prt) (first pages n : Nat), vs = [.ref a, .int n] ∧ PkAt K H a p first pages ∧ p.Ok ∧ Cyc p first pages ∧ startN p n < 1000000000000000000000000000000 ∧ ∀ H', Same H H' → Q (.int (usum p (startN p n) (rowsF p (startN p n)))) H'
theorem use_units_on {K : PySem.W.Frag} {a : Addr} {p : Prt} {first pages n : Nat} {H : Hp} {Q : VK} {E : XK} {i : Int} (hi : i = (n : Int)) (h : PkAt K H a p first pages) (ok : p.Ok) (c : Cyc p first pages) (hn : startN p n < 1000000000000000000000000000000)
  (k : ∀ H', Same H H' → Q (.int (usum p (startN p n) (rowsF p (startN p n)))) H') : sp_Packing_units_on K [.ref a, .int i] H Q E := by subst hi; unfold sp_Packing_units_on; exact ⟨a, p, first, pages, n, rfl, h, ok, c, hn, k⟩
@[irreducible] def sp_Packing_units_left (K : PySem.W.Frag) : Sp := fun vs H Q _ => ∃ (a : Addr) (p : Prt) (first pages r : Nat), vs = [.ref a, .int r] ∧ PkAt K H a p first pages ∧ p.Ok ∧ Cyc p first pages ∧ r < 1000000000000000000000000000000 ∧
  ∀ n H', On p r n → Same H H' → Q (.int (p.size - usum p (startN p n) (r + 1 - startN p n))) H'
theorem use_units_left {K : PySem.W.Frag} {a : Addr} {p : Prt} {first pages r : Nat} {H : Hp} {Q : VK} {E : XK} {i : Int} (hi : i = (r : Int)) (h : PkAt K H a p first pages) (ok : p.Ok) (c : Cyc p first pages) (hr : r < 1000000000000000000000000000000)
  (k : ∀ n H', On p r n → Same H H' → Q (.int (p.size - usum p (startN p n) (r + 1 - startN p n))) H') : sp_Packing_units_left K [.ref a, .int i] H Q E := by subst hi; unfold sp_Packing_units_left; exact ⟨a, p, first, pages, r, rfl, h, ok, c, hr, k⟩
def dgL (f : Nat → Int) : List V := [.int (f 0), .int (f 1), .int (f 2), .int (f 3), .int (f 4), .int (f 5), .int (f 6), .int (f 7), .int (f 8), .int (f 9), .int (f 10), .int (f 11), .int (f 12), .int (f 13), .int (f 14), .int (f 15), .int (f 16), .int (f 17), .int (f 18), .int (f 19), .int (f 20), .int (f 21), .int (f 22), .int (f 23), .int (f 24), .int (f 25), .int (f 26), .int (f 27), .int (f 28), .int (f 29), .int (f 30), .int (f 31), .int (f 32), .int (f 33), .int (f 34), .int (f 35), .int (f 36), .int (f 37), .int (f 38), .int (f 39)]
theorem dgL_eq (f : Nat → Int) : dgL f = (List.range 40).map fun j => V.int (f j) := rfl
def DgOk (f : Nat → Int) : Prop := ∀ j, 0 ≤ f j ∧ f j < 1009
theorem dgL_of {xs : List Int} (h : xs.length = 40) : dgL (fun j => xs.getD j 0) = xs.map V.int := by
  rw [dgL_eq]
  apply List.ext_getElem
  · rw [List.length_map, List.length_range, List.length_map, h]
  · intro i h1 h2
    rw [List.getElem_map, List.getElem_map, List.getElem_range]
    have : i < xs.length := by simpa using h2
    simp [List.getD_eq_getElem?_getD, this]
theorem dg_at {f : Nat → Int} {j : Nat} {i : Int} (hi : i = (j : Int)) (h : j < 40) : atI (dgL f) i = some (.int (f j)) := by
  refine atI_int hi ?_
  rw [dgL_eq, List.getElem?_map, List.getElem?_range h]
  rfl
@[irreducible] def sp_law_digits : Sp := fun vs H Q _ => ∃ c : Int, vs = [.int c, .int 40] ∧ ∀ q f H', H q = none → Same H H' → DgOk f → H' q = some (.lst (dgL f)) → Q (.ref q) H'
theorem use_digits {c : Int} {H : Hp} {Q : VK} {E : XK} (k : ∀ q f H', H q = none → Same H H' → DgOk f → H' q = some (.lst (dgL f)) → Q (.ref q) H') : sp_law_digits [.int c, .int 40] H Q E := by unfold sp_law_digits; exact ⟨c, rfl, k⟩
theorem b_law_digits {K : PySem.W.Frag} {fd : FuncData} (F : F_law_digits K fd) : Binds K fd P_law_digits [] := FunD.bindsN F fun _ _ _ _ _ _ us hl => match us, hl with | [_, _], _ => rfl
theorem ok_law_digits (T : Txt K mg D) : FnOk P w K mg base CX0 1 (He.fAd K ("_law_digits", none)) (D D_law_digits) P_law_digits sp_law_digits := by
  refine T.d_law_digits.ok sc_law_digits (fun vs H Q E h => ?_) (fun cdv A outer s H vs Q E hr h => ?_)
  · unfold sp_law_digits at h
    first | (obtain ⟨rfl, _⟩ := h; rfl) | (obtain ⟨_, rfl, _⟩ := h; rfl) | (obtain ⟨_, _, rfl, _⟩ := h; rfl) | (obtain ⟨_, _, _, rfl, _⟩ := h; rfl) | (obtain ⟨_, _, _, _, rfl, _⟩ := h; rfl) | (obtain ⟨_, _, _, _, _, rfl, _⟩ := h; rfl) | (obtain ⟨_, _, _, _, _, _, rfl, _⟩ := h; rfl) | (obtain ⟨_, _, _, _, _, _, _, rfl, _⟩ := h; rfl) | (obtain ⟨_, _, _, _, _, _, _, _, rfl, _⟩ := h; rfl) | (obtain ⟨_, _, _, _, _, _, _, _, _, rfl, _⟩ := h; rfl) | (obtain ⟨_, _, _, _, _, _, _, _, _, _, rfl, _⟩ := h; rfl) | (obtain ⟨_, _, _, _, _, _, _, _, _, _, _, rfl, _⟩ := h; rfl)
  · refine ⟨_, PSs.nox (pss_cons (ps_set (i := 2) sc_law_digits.nd rfl (Or.inl rfl) (pe_lst pa_nil))
      (pss_cons (ps_set (i := 3) sc_law_digits.nd rfl (Or.inl rfl) pe_int)
      (Evl.pss_cut (ps_if (pt_cmpR op_ge (pv 0) (pe_powc (c := 1000000000000000000) (by decide)) (nomark _)) (pss_one (ps_set (i := 3) sc_law_digits.nd rfl (Or.inl rfl) (pv 0))) pss_nil)
      (pss_cons (ps_set (i := 4) sc_law_digits.nd rfl (Or.inl rfl) (pe_op op_mod (pe_callTy call_int1 (by rfl) T.n_int (by decide +kernel) (pa_cons (pv 0) pa_nil)) pe_int))
      (pss_cons (ps_for PassesOwn.never rfl (pi_range1 (by rfl) T.n_range (pa_cons (pv 1) pa_nil)) (pg_name (i := 5) sc_law_digits.nd rfl (Or.inl rfl)) (pss_cons (ps_set (i := 4) sc_law_digits.nd rfl (Or.inl rfl) (pe_op op_mod (pe_callTy call_int1 (by rfl) T.n_int (by decide +kernel) (pa_cons (pe_op op_add (pe_op op_add (pe_op op_mul (pv 4) pe_int) (pe_op op_mul pe_int (pv 5))) pe_int) pa_nil)) pe_int))
      (pss_cons (ps_set (i := 4) sc_law_digits.nd rfl (Or.inl rfl) (pe_op op_mod (pe_callTy call_int1 (by rfl) T.n_int (by decide +kernel) (pa_cons (pe_op op_mul (pv 4) (pe_op op_add (pe_op op_fdivW (pv 4) pe_int) pe_int)) pa_nil)) pe_int))
      (pss_one (ps_if (pt_cmpR op_gt (pv 3) pe_int (nomark _)) (pss_cons (ps_expr (pe_bm PySem.F.plainAttrs_list PySem.F.slot_list_append PySem.F.type_list_append mt_append (pv 2) (pa_cons (pe_op op_mod (pe_callTy call_int1 (by rfl) T.n_int (by decide +kernel) (pa_cons (pv 3) pa_nil)) pe_int) pa_nil)))
      (pss_one (ps_set (i := 3) sc_law_digits.nd rfl (Or.inl rfl) (pe_op op_fdivW (pv 3) pe_int)))) (pss_one (ps_expr (pe_bm PySem.F.plainAttrs_list PySem.F.slot_list_append PySem.F.type_list_append mt_append (pv 2) (pa_cons (pe_op op_mod (pe_callTy call_int1 (by rfl) T.n_int (by decide +kernel) (pa_cons (pe_op op_fdivW (pv 4) pe_int) pa_nil)) pe_int) pa_nil)))))))))
      (pss_one (ps_ret (pv 2)))))))), ?_⟩
    unfold sp_law_digits at h
    obtain ⟨c, rfl, k⟩ := h
    walk_at "rd"
    intro q n0
    generalize eG0 : upd _ q _ = G0
    obtain ⟨g0, c0⟩ := gen_new n0 eG0
    clear eG0
    walk_at "rd"
    refine ⟨fun σ' H' => H' = G0 ∧ ∃ z : Int, σ' = [some (.int c), some (.int 40), some (.ref q), some (.int z), none, none], ?_, ?_⟩
    · walk_at "rd"
      refine ite2 (fun _ => ?_) (fun _ => ?_)
      · walk_at "rd"
        exact ⟨_, rfl⟩
      · walk_at "rd"
        exact ⟨_, rfl⟩
    rintro σ H' ⟨rfl, z, rfl⟩
    walk_at "rd"
    refine for_range (lo := 0) (n := 40) (fun i σ G => ∃ (xs : List Int) (z n : Int) (v : Option V), σ = [some (.int c), some (.int 40), some (.ref q), some (.int z), some (.int n), v] ∧ (0 ≤ n ∧ n < 2147483647) ∧ xs.length = i ∧ (∀ x ∈ xs, 0 ≤ x ∧ x < 1009) ∧ G q = some (.lst (xs.map V.int)) ∧ SX [q] H' G)
      ⟨[], _, _, _, rfl, ⟨Int.emod_nonneg _ (by decide), Int.emod_lt_of_pos _ (by decide)⟩, rfl, fun x hx => (nomatch hx), c0, SX.refl⟩ ?_ ?_
    · rintro i σ G hi ⟨xs, z, n, v, rfl, ⟨m0, m1⟩, hl, hb, hq, f⟩
      walk_at "rd"
      have b0 := Int.emod_nonneg (n * 48271 + 30103 * (0 + (i : Int)) + 11) (show (2147483647 : Int) ≠ 0 by decide)
      have b1 := Int.emod_lt_of_pos (n * 48271 + 30103 * (0 + (i : Int)) + 11) (show (0 : Int) < 2147483647 by decide)
      generalize (n * 48271 + 30103 * (0 + (i : Int)) + 11) % 2147483647 = y at b0 b1 ⊢
      walk_at "rd"
      have e0 := Int.emod_nonneg (y * (y / 1009 + 69621)) (show (2147483629 : Int) ≠ 0 by decide)
      have e1 := Int.emod_lt_of_pos (y * (y / 1009 + 69621)) (show (0 : Int) < 2147483629 by decide)
      have app : ∀ w : Int, 0 ≤ w → w < 1009 → (∀ x ∈ xs ++ [w], 0 ≤ x ∧ x < 1009) := fun w w0 w1 x hx => by
        rcases List.mem_append.mp hx with h | h
        · exact hb x h
        · rw [List.mem_singleton.mp h]; exact ⟨w0, w1⟩
      refine ite2 (fun _ => ?_) (fun _ => ?_)
      · walk_at "rd"
        refine ⟨.inl ⟨rfl, _, SqL.of hq⟩, ?_⟩
        walk_at "rd"
        refine ⟨_, _, _, rfl, rfl, hq, szlt (by rw [List.length_map]; omega), ?_⟩
        walk_at "rd"
        refine ⟨xs ++ [z % 1009], _, _, _, rfl, ⟨e0, by omega⟩, by rw [List.length_append, hl]; rfl, app _ (Int.emod_nonneg _ (by decide)) (Int.emod_lt_of_pos _ (by decide)), by rw [upd_same, List.map_append]; rfl, f.upd (by simp)⟩
      · walk_at "rd"
        refine ⟨.inl ⟨rfl, _, SqL.of hq⟩, ?_⟩
        walk_at "rd"
        refine ⟨_, _, _, rfl, rfl, hq, szlt (by rw [List.length_map]; omega), ?_⟩
        refine ⟨xs ++ [y * (y / 1009 + 69621) % 2147483629 / 7 % 1009], _, _, _, rfl, ⟨e0, by omega⟩, by rw [List.length_append, hl]; rfl, app _ (Int.emod_nonneg _ (by decide)) (Int.emod_lt_of_pos _ (by decide)), by rw [upd_same, List.map_append]; rfl, f.upd (by simp)⟩
    · rintro σ G ⟨xs, z, n, v, rfl, _, hl, hb, hq, f⟩
      walk_at "rd"
      refine k q (fun j => xs.getD j 0) G n0 (fun b o ho => f _ _ (by simp [ne_of_none ho n0]) (g0 _ _ ho)) (fun j => ?_) (by rw [dgL_of hl]; exact hq)
      by_cases hj : j < xs.length
      · show 0 ≤ xs.getD j 0 ∧ xs.getD j 0 < 1009
        rw [List.getD_eq_getElem?_getD, List.getElem?_eq_getElem hj]
        exact hb _ (List.getElem_mem hj)
      · show 0 ≤ xs.getD j 0 ∧ xs.getD j 0 < 1009
        rw [List.getD_eq_getElem?_getD, List.getElem?_eq_none (by omega)]
        exact ⟨by decide, by decide⟩

/-- drawn settings as a dict -/
def pdL (l : Addr) (p : Prt) : List (Key × V) := [(.inr "lengths", .ref l), (.inr "size", .int p.size), (.inr "fanout", .int p.fan), (.inr "records", .int p.rec_), (.inr "every", .int p.every), (.inr "keep", .int p.keep)]
def PdAt (H : Hp) (a : Addr) (p : Prt) : Prop := ∃ l, H a = some (.dK (pdL l p)) ∧ H l = some (.lst (p.lens.map V.int))
theorem PdAt.same {H H' : Hp} {a : Addr} {p : Prt} (h : PdAt H a p) (s : Same H H') : PdAt H' a p := let ⟨l, h1, h2⟩ := h; ⟨l, s _ _ h1, s _ _ h2⟩
theorem pg_lengths {H : Hp} {a l : Addr} {p : Prt} (h : H a = some (.dK (pdL l p))) : DGet H a (.str "lengths") (some (.ref l)) := (show valV (pdL l p) (Sum.inr "lengths") = some (.ref l) from by kernel_rfl) ▸ DGet.k (k := Sum.inr "lengths") h
theorem pg_size {H : Hp} {a l : Addr} {p : Prt} (h : H a = some (.dK (pdL l p))) : DGet H a (.str "size") (some (.int p.size)) := (show valV (pdL l p) (Sum.inr "size") = some (.int p.size) from by kernel_rfl) ▸ DGet.k (k := Sum.inr "size") h
theorem pg_fanout {H : Hp} {a l : Addr} {p : Prt} (h : H a = some (.dK (pdL l p))) : DGet H a (.str "fanout") (some (.int p.fan)) := (show valV (pdL l p) (Sum.inr "fanout") = some (.int p.fan) from by kernel_rfl) ▸ DGet.k (k := Sum.inr "fanout") h
theorem pg_records {H : Hp} {a l : Addr} {p : Prt} (h : H a = some (.dK (pdL l p))) : DGet H a (.str "records") (some (.int p.rec_)) := (show valV (pdL l p) (Sum.inr "records") = some (.int p.rec_) from by kernel_rfl) ▸ DGet.k (k := Sum.inr "records") h
theorem pg_every {H : Hp} {a l : Addr} {p : Prt} (h : H a = some (.dK (pdL l p))) : DGet H a (.str "every") (some (.int p.every)) := (show valV (pdL l p) (Sum.inr "every") = some (.int p.every) from by kernel_rfl) ▸ DGet.k (k := Sum.inr "every") h
theorem pg_keep {H : Hp} {a l : Addr} {p : Prt} (h : H a = some (.dK (pdL l p))) : DGet H a (.str "keep") (some (.int p.keep)) := (show valV (pdL l p) (Sum.inr "keep") = some (.int p.keep) from by kernel_rfl) ▸ DGet.k (k := Sum.inr "keep") h
@[irreducible] def sp_law_parts : Sp := fun vs H Q _ => ∃ (d : Addr) (f : Nat → Int), vs = [.ref d] ∧ DgOk f ∧ H d = some (.lst (dgL f)) ∧ ∀ a p H', H a = none → Same H H' → p.Ok → p.size ≤ 6 → PdAt H' a p → Q (.ref a) H'
theorem use_pd {d : Addr} {f : Nat → Int} {H : Hp} {Q : VK} {E : XK} (hf : DgOk f) (h : H d = some (.lst (dgL f))) (k : ∀ a p H', H a = none → Same H H' → p.Ok → p.size ≤ 6 → PdAt H' a p → Q (.ref a) H') : sp_law_parts [.ref d] H Q E := by
  unfold sp_law_parts; exact ⟨d, f, rfl, hf, h, k⟩
theorem put_k {H : Hp} {a : Addr} {kvs kvs2 : List (Key × V)} {x : Str} {v : V} (e : H a = some (.dK kvs)) (hl : kvs.length ≤ 100) (h2 : putK kvs (Sum.inr x) v = kvs2) : DPut H a (.str x) v (upd H a (.dK kvs2)) := by
  subst h2; exact DPut.k (k := Sum.inr x) e (szlt (by omega))
theorem pd_put1 {a b c : V} : putK ([(.inr "lengths", a), (.inr "size", b)] : List (Key × V)) (Sum.inr "fanout") c = [(.inr "lengths", a), (.inr "size", b), (.inr "fanout", c)] := by kernel_rfl
theorem pd_put2 {a b c d : V} : putK ([(.inr "lengths", a), (.inr "size", b), (.inr "fanout", c)] : List (Key × V)) (Sum.inr "records") d = [(.inr "lengths", a), (.inr "size", b), (.inr "fanout", c), (.inr "records", d)] := by kernel_rfl
theorem pd_put3 {a b c d e : V} : putK ([(.inr "lengths", a), (.inr "size", b), (.inr "fanout", c), (.inr "records", d)] : List (Key × V)) (Sum.inr "every") e = [(.inr "lengths", a), (.inr "size", b), (.inr "fanout", c), (.inr "records", d), (.inr "every", e)] := by kernel_rfl
theorem pd_put4 {a b c d e g : V} : putK ([(.inr "lengths", a), (.inr "size", b), (.inr "fanout", c), (.inr "records", d), (.inr "every", e)] : List (Key × V)) (Sum.inr "keep") g = [(.inr "lengths", a), (.inr "size", b), (.inr "fanout", c), (.inr "records", d), (.inr "every", e), (.inr "keep", g)] := by kernel_rfl
theorem pd_merge {a b : V} : mergeK [] ([(.inr "lengths", a), (.inr "size", b)] : List (Key × V)) = [(.inr "lengths", a), (.inr "size", b)] := by kernel_rfl
/-- one of two written moduli -/
theorem two_at {a b r : Int} (h0 : 0 ≤ r) (h1 : r < 2) : ∃ m, (m = a ∨ m = b) ∧ atI ([.int a, .int b] : List V) r = some (V.int m) := by
  obtain rfl | rfl : r = 0 ∨ r = 1 := by omega
  · exact ⟨a, .inl rfl, rfl⟩
  · exact ⟨b, .inr rfl, rfl⟩
theorem mod_bd {x m k : Int} (h : 0 < m) (hk : m ≤ k) : 0 ≤ x % m ∧ x % m < k := ⟨Int.emod_nonneg _ (by omega), by have := Int.emod_lt_of_pos x h; omega⟩
local macro_rules | `(tactic| walk_at "dg") => `(tactic| first
  | exact KR.pg_lengths (by walk_at "hp")
  | exact KR.pg_size (by walk_at "hp")
  | exact KR.pg_fanout (by walk_at "hp")
  | exact KR.pg_records (by walk_at "hp")
  | exact KR.pg_every (by walk_at "hp")
  | exact KR.pg_keep (by walk_at "hp"))
theorem pd_merge3 {a b c : V} : mergeK [] ([(.inr "lengths", a), (.inr "size", b), (.inr "fanout", c)] : List (Key × V)) = [(.inr "lengths", a), (.inr "size", b), (.inr "fanout", c)] := by kernel_rfl
theorem three_at {a b c r : Int} (h0 : 0 ≤ r) (h1 : r < 3) : ∃ m, (m = a ∨ m = b ∨ m = c) ∧ atI ([.int a, .int b, .int c] : List V) r = some (V.int m) := by
  obtain rfl | rfl | rfl : r = 0 ∨ r = 1 ∨ r = 2 := by omega
  · exact ⟨a, .inl rfl, rfl⟩
  · exact ⟨b, .inr (.inl rfl), rfl⟩
  · exact ⟨c, .inr (.inr rfl), rfl⟩
theorem b_law_parts {K : PySem.W.Frag} {fd : FuncData} (F : F_law_parts K fd) : Binds K fd P_law_parts [] := FunD.bindsN F fun _ _ _ _ _ _ us hl => match us, hl with | [_], _ => rfl
theorem ok_law_parts (T : Txt K mg D) : FnOk P w K mg base CX0 1 (He.fAd K ("_law_parts", none)) (D D_law_parts) P_law_parts sp_law_parts := by
  refine T.d_law_parts.ok sc_law_parts (fun vs H Q E h => ?_) (fun cdv A outer s H vs Q E hr h => ?_)
  · unfold sp_law_parts at h
    first | (obtain ⟨rfl, _⟩ := h; rfl) | (obtain ⟨_, rfl, _⟩ := h; rfl) | (obtain ⟨_, _, rfl, _⟩ := h; rfl) | (obtain ⟨_, _, _, rfl, _⟩ := h; rfl) | (obtain ⟨_, _, _, _, rfl, _⟩ := h; rfl) | (obtain ⟨_, _, _, _, _, rfl, _⟩ := h; rfl) | (obtain ⟨_, _, _, _, _, _, rfl, _⟩ := h; rfl) | (obtain ⟨_, _, _, _, _, _, _, rfl, _⟩ := h; rfl) | (obtain ⟨_, _, _, _, _, _, _, _, rfl, _⟩ := h; rfl) | (obtain ⟨_, _, _, _, _, _, _, _, _, rfl, _⟩ := h; rfl) | (obtain ⟨_, _, _, _, _, _, _, _, _, _, rfl, _⟩ := h; rfl) | (obtain ⟨_, _, _, _, _, _, _, _, _, _, _, rfl, _⟩ := h; rfl)
  · refine ⟨_, PSs.nox (pss_cons (ps_set (i := 1) sc_law_parts.nd rfl (Or.inr rfl) (pe_op op_add pe_int (pe_op op_mod (pe_callTy call_int1 (by rfl) T.n_int (by decide +kernel) (pa_cons (pe_ix (ix_listK (K := K)) (pv 0) pe_int (fun _ _ => rfl)) pa_nil)) pe_int)))
      (pss_cons (ps_setLc (i := 2) (own := [("k", 4)]) rfl sc_law_parts.nd rfl rfl (sw_true rfl rfl rfl (by decide +kernel)) (pi_range1 (by rfl) T.n_range (pa_cons (pe_op op_add pe_int (pe_op op_mod (pe_callTy call_int1 (by rfl) T.n_int (by decide +kernel) (pa_cons (pe_ix (ix_listK (K := K)) (pv 0) pe_int (fun _ _ => rfl)) pa_nil)) pe_int)) pa_nil)) (blkOk_by (N := N_law_parts) (sc := defScope s_law_parts) (by decide +kernel)) (fun _ _ _ _ _ => (pg_name (i := 4) sc_law_parts.nd rfl (Or.inl rfl))) (fun _ _ _ _ _ => pts_nil) (fun _ _ _ _ _ => (pe_op op_add pe_int (pe_op op_mod (pe_callTy call_int1 (by rfl) T.n_int (by decide +kernel) (pa_cons (pe_ix (ix_listK (K := K)) (pv 0) (pe_op op_add pe_int (pv 4)) (fun _ _ => rfl)) pa_nil)) (pv 1)))))
      (pss_cons (ps_set (i := 3) sc_law_parts.nd rfl (Or.inl rfl) (pe_disp (pps_cons pe_str (pv 2) (pps_cons pe_str (pv 1) (pps_cons pe_str (pe_op op_add pe_int (pe_op op_mod (pe_callTy call_int1 (by rfl) T.n_int (by decide +kernel) (pa_cons (pe_ix (ix_listK (K := K)) (pv 0) pe_int (fun _ _ => rfl)) pa_nil)) pe_int)) pps_nil))) (by rfl) (by rfl) (fun z => by cases z) (by decide)))
      (pss_cons (ps_dput (hu_of hr) (pv 3) pe_str (pe_op op_add pe_int (pe_op op_mod (pe_callTy call_int1 (by rfl) T.n_int (by decide +kernel) (pa_cons (pe_ix (ix_listK (K := K)) (pv 0) pe_int (fun _ _ => rfl)) pa_nil)) (pe_ix (ix_listK (K := K)) (pe_lst (pa_cons pe_int (pa_cons pe_int (pa_cons pe_int pa_nil)))) (pe_op op_mod (pe_callTy call_int1 (by rfl) T.n_int (by decide +kernel) (pa_cons (pe_ix (ix_listK (K := K)) (pv 0) pe_int (fun _ _ => rfl)) pa_nil)) pe_int) (fun _ _ => rfl)))) rfl)
      (pss_cons (ps_dput (hu_of hr) (pv 3) pe_str (pe_op op_add pe_int (pe_op op_mod (pe_callTy call_int1 (by rfl) T.n_int (by decide +kernel) (pa_cons (pe_ix (ix_listK (K := K)) (pv 0) pe_int (fun _ _ => rfl)) pa_nil)) (pe_ix (ix_listK (K := K)) (pe_lst (pa_cons pe_int (pa_cons pe_int pa_nil))) (pe_op op_mod (pe_callTy call_int1 (by rfl) T.n_int (by decide +kernel) (pa_cons (pe_ix (ix_listK (K := K)) (pv 0) pe_int (fun _ _ => rfl)) pa_nil)) pe_int) (fun _ _ => rfl)))) rfl)
      (pss_cons (ps_dput (hu_of hr) (pv 3) pe_str (pe_op op_add pe_int (pe_op op_mod (pe_callTy call_int1 (by rfl) T.n_int (by decide +kernel) (pa_cons (pe_ix (ix_listK (K := K)) (pv 0) pe_int (fun _ _ => rfl)) pa_nil)) (pe_ix (ix_listK (K := K)) (pe_lst (pa_cons pe_int (pa_cons pe_int pa_nil))) (pe_op op_mod (pe_callTy call_int1 (by rfl) T.n_int (by decide +kernel) (pa_cons (pe_ix (ix_listK (K := K)) (pv 0) pe_int (fun _ _ => rfl)) pa_nil)) pe_int) (fun _ _ => rfl)))) rfl)
      (pss_one (ps_ret (pv 3))))))))), ?_⟩
    unfold sp_law_parts at h
    obtain ⟨d, f, rfl, hf, hd, k⟩ := h
    have f0 := mod_bd (x := f 0) (show (0 : Int) < 6 by decide) (Int.le_refl 6)
    have f4 := mod_bd (x := f 4) (show (0 : Int) < 6 by decide) (Int.le_refl 6)
    walk_at "rd"
    intro D n1
    have ndD : d ≠ D := ne_of_none hd n1
    refine lc_range (lo := 0) (n := Int.toNat _) (fun i G => ∃ xs : List Int, xs.length = i ∧ (∀ x ∈ xs, 1 ≤ x ∧ x ≤ 1 + f 0 % 6) ∧ G D = some (.lst (xs.map V.int)) ∧ SX [D] H G) ⟨[], rfl, fun x hx => (nomatch hx), upd_same, SX.refl.mut n1⟩ ?_ ?_
    · rintro i G hi ⟨xs, hl, hb, hD, fx⟩
      refine ⟨rfl, ?_⟩
      have hdG := fx _ _ (by simp [ndD]) hd
      have hi3 : i < 6 := by omega
      walk_at "rd"
      refine ⟨_, _, _, _, rfl, rfl, SqL.of hdG, dg_at (j := 1 + i) (by omega) (by omega), ?_⟩
      walk_at "rd"
      have b := mod_bd (x := f (1 + i)) (show 0 < 1 + f 0 % 6 by omega) (Int.le_refl _)
      refine ⟨_, hD, szlt (by rw [List.length_map]; omega), xs ++ [1 + f (1 + i) % (1 + f 0 % 6)], by rw [List.length_append, hl]; rfl, fun x hx => ?_, by rw [upd_same, List.map_append]; rfl, fx.upd (by simp)⟩
      rcases List.mem_append.mp hx with h | h
      · exact hb x h
      · rw [List.mem_singleton.mp h]; omega
    · rintro G ⟨xs, hl, hb, hD, fx⟩
      have sHG : Same H G := fun b o ho => fx _ _ (by simp [ne_of_none ho n1]) ho
      have hdG := sHG _ _ hd
      walk_at "rd"
      intro P nP
      generalize e0 : upd G P _ = G0
      obtain ⟨s0, c0⟩ := gen_new nP e0
      clear e0
      have hd0 := s0 _ _ hdG
      have hD0 := s0 _ _ hD
      walk_at "rd"
      refine ⟨[(.inr "lengths", .ref D), (.inr "size", .int (1 + f 0 % 6)), (.inr "fanout", .int (2 + f 5 % 7))], rfl, Nat.le_of_ble_eq_true rfl, ?_⟩
      rw [pd_merge3]
      generalize e1 : upd G0 P _ = G3
      obtain ⟨s3', c3⟩ := gen_st e1
      clear e1
      have npd : d ≠ P := ne_of_none hdG nP
      have npD : D ≠ P := ne_of_none hD nP
      have s3 : Same G G3 := fun b o ho => s3' _ _ (ne_of_none ho nP) (s0 _ _ ho)
      have hd3 := s3 _ _ hdG
      have hD3 := s3 _ _ hD
      walk_at "rd"
      intro q4 n4
      generalize eG4 : upd _ q4 _ = G4
      obtain ⟨s4, c4⟩ := gen_new n4 eG4
      clear eG4
      obtain ⟨m6, hm6, at6⟩ := three_at (a := 4) (b := 4) (c := 16) (r := f 9 % 3) (Int.emod_nonneg _ (by decide)) (Int.emod_lt_of_pos _ (by decide))
      walk_at "rd"
      refine ⟨_, _, _, _, rfl, rfl, SqL.of c4, at6, ?_⟩
      walk_at "rd"
      refine ⟨_, _, rfl, put_k (s4 _ _ c3) (Nat.le_of_ble_eq_true rfl) pd_put2, ?_⟩
      generalize e5 : upd G4 P _ = G5
      obtain ⟨s5, c5⟩ := gen_st e5
      clear e5
      have hd5 := s5 _ _ npd (s4 _ _ hd3)
      walk_at "rd"
      intro q6 n6
      generalize eG6 : upd _ q6 _ = G6
      obtain ⟨s6, c6⟩ := gen_new n6 eG6
      clear eG6
      obtain ⟨m7, hm7, at7⟩ := two_at (a := 10) (b := 40) (r := f 10 % 2) (Int.emod_nonneg _ (by decide)) (Int.emod_lt_of_pos _ (by decide))
      walk_at "rd"
      refine ⟨_, _, _, _, rfl, rfl, SqL.of c6, at7, ?_⟩
      walk_at "rd"
      refine ⟨_, _, rfl, put_k (s6 _ _ c5) (Nat.le_of_ble_eq_true rfl) pd_put3, ?_⟩
      generalize e7 : upd G6 P _ = G7
      obtain ⟨s7, c7⟩ := gen_st e7
      clear e7
      have hd7 := s7 _ _ npd (s6 _ _ hd5)
      walk_at "rd"
      intro q8 n8
      generalize eG8 : upd _ q8 _ = G8
      obtain ⟨s8, c8⟩ := gen_new n8 eG8
      clear eG8
      obtain ⟨m8, hm8, at8⟩ := two_at (a := 3) (b := 100) (r := f 11 % 2) (Int.emod_nonneg _ (by decide)) (Int.emod_lt_of_pos _ (by decide))
      walk_at "rd"
      refine ⟨_, _, _, _, rfl, rfl, SqL.of c8, at8, ?_⟩
      walk_at "rd"
      refine ⟨_, _, rfl, put_k (s8 _ _ c7) (Nat.le_of_ble_eq_true rfl) pd_put4, ?_⟩
      generalize e9 : upd G8 P _ = G9
      obtain ⟨s9, c9⟩ := gen_st e9
      clear e9
      walk_at "rd"
      have nPH : H P = none := sHG.free nP
      have hD9 := s9 _ _ npD (s8 _ _ (s7 _ _ npD (s6 _ _ (s5 _ _ npD (s4 _ _ hD3)))))
      have b5 := mod_bd (x := f 5) (show (0 : Int) < 7 by decide) (Int.le_refl 7)
      have b6 := mod_bd (x := f 6) (show 0 < m6 by omega) (show m6 ≤ 16 by omega)
      have b7 := mod_bd (x := f 7) (show 0 < m7 by omega) (show m7 ≤ 40 by omega)
      have b8 := mod_bd (x := f 8) (show 0 < m8 by omega) (show m8 ≤ 100 by omega)
      refine k P ⟨xs, 1 + f 0 % 6, 2 + f 5 % 7, 1 + f 6 % m6, 1 + f 7 % m7, 1 + f 8 % m8⟩ G9 nPH ?_ ⟨?_, ?_, hb, ?_, ?_, ⟨?_, ?_⟩, ⟨?_, ?_⟩, ⟨?_, ?_⟩, ⟨?_, ?_⟩⟩ ?_ ⟨D, c9, hD9⟩
      · intro b o ho
        have nb : b ≠ P := ne_of_none ho nPH
        exact s9 _ _ nb (s8 _ _ (s7 _ _ nb (s6 _ _ (s5 _ _ nb (s4 _ _ (s3 _ _ (sHG _ _ ho)))))))
      all_goals simp only []
      all_goals omega

@[irreducible] def sp_law_settings (K : PySem.W.Frag) : Sp := fun vs H Q _ => ∃ (a : Addr) (p : Prt), vs = [.ref a] ∧ PdAt H a p ∧ p.Ok ∧ ∀ b H', H b = none → Same H H' → SetAt K H' b p → Q (.ref b) H'
theorem use_settings {K : PySem.W.Frag} {a : Addr} {p : Prt} {H : Hp} {Q : VK} {E : XK} (h : PdAt H a p) (ok : p.Ok) (k : ∀ b H', H b = none → Same H H' → SetAt K H' b p → Q (.ref b) H') : sp_law_settings K [.ref a] H Q E := by
  unfold sp_law_settings; exact ⟨a, p, rfl, h, ok, k⟩
theorem b_law_settings {K : PySem.W.Frag} {fd : FuncData} (F : F_law_settings K fd) : Binds K fd P_law_settings [] := FunD.bindsN F fun _ _ _ _ _ _ us hl => match us, hl with | [_], _ => rfl
theorem ok_law_settings (T : Txt K mg D) : FnOk P w K mg base CX0 6 (He.fAd K ("_law_settings", none)) (D D_law_settings) P_law_settings (sp_law_settings K) := by
  refine T.d_law_settings.ok sc_law_settings (fun vs H Q E h => ?_) (fun cdv A outer s H vs Q E hr h => ?_)
  · unfold sp_law_settings at h
    first | (obtain ⟨rfl, _⟩ := h; rfl) | (obtain ⟨_, rfl, _⟩ := h; rfl) | (obtain ⟨_, _, rfl, _⟩ := h; rfl) | (obtain ⟨_, _, _, rfl, _⟩ := h; rfl) | (obtain ⟨_, _, _, _, rfl, _⟩ := h; rfl) | (obtain ⟨_, _, _, _, _, rfl, _⟩ := h; rfl) | (obtain ⟨_, _, _, _, _, _, rfl, _⟩ := h; rfl) | (obtain ⟨_, _, _, _, _, _, _, rfl, _⟩ := h; rfl) | (obtain ⟨_, _, _, _, _, _, _, _, rfl, _⟩ := h; rfl) | (obtain ⟨_, _, _, _, _, _, _, _, _, rfl, _⟩ := h; rfl) | (obtain ⟨_, _, _, _, _, _, _, _, _, _, rfl, _⟩ := h; rfl) | (obtain ⟨_, _, _, _, _, _, _, _, _, _, _, rfl, _⟩ := h; rfl)
  · refine ⟨_, PSs.nox (pss_cons (ps_asg (pe_lc (own := [("word", 5)]) rfl sc_law_settings.nd (pi_list (pe_lst (pa_cons pe_str (pa_cons pe_str (pa_cons pe_str (pa_cons pe_str pa_nil)))))) (blkOk_by (N := N_law_settings) (sc := defScope s_law_settings) (by decide +kernel)) (fun _ _ _ _ _ => (pg_name (i := 5) sc_law_settings.nd rfl (Or.inl rfl))) (fun _ _ _ _ _ => pts_nil) (fun _ _ _ _ _ => (pe_dget (hu_of hr) (pv 0) (pv 5) (fun _ _ => rfl)))) (pg_unl rfl (pgs_cons (pg_name (i := 1) sc_law_settings.nd rfl (Or.inl rfl)) (pgs_cons (pg_name (i := 2) sc_law_settings.nd rfl (Or.inl rfl)) (pgs_cons (pg_name (i := 3) sc_law_settings.nd rfl (Or.inl rfl)) (pgs_cons (pg_name (i := 4) sc_law_settings.nd rfl (Or.inl rfl)) pgs_nil))))))
      (pss_one (ps_ret (pe_makeK T.mk_Settings (ok_Settings___init__ T) (hr.mono (by decide)) rfl T.g_Settings (b_Settings___init__ T.d_Settings___init__) pass0 (pa_cons (pe_dget (hu_of hr) (pv 0) pe_str (fun _ _ => rfl)) (pa_cons (pe_dget (hu_of hr) (pv 0) pe_str (fun _ _ => rfl)) pa_nil)) (pk_cons (pv 1) (pk_cons (pv 2) (pk_cons (pv 3) (pk_cons (pv 4) pk_nil)))))))), ?_⟩
    unfold sp_law_settings at h
    obtain ⟨a, p, rfl, ⟨l, ha, hl⟩, ok, k⟩ := h
    walk_at "rd"
    intro q n1
    generalize eH1 : upd _ q _ = H1
    obtain ⟨s1, c1⟩ := gen_new n1 eH1
    clear eH1
    walk_at "rd"
    have ha1 := s1 _ _ ha
    intro D n2
    have naD : a ≠ D := ne_of_none ha1 n2
    refine lc_list (K := K) (a := q) (xs := [.str "fanout", .str "records", .str "every", .str "keep"]) (fun i G => SX [D] H1 G ∧ G D = some (.lst (([.int p.fan, .int p.rec_, .int p.every, .int p.keep] : List V).take i))) ⟨SX.refl.mut n2, upd_same⟩ ?_ ?_ ?_
    · rintro i G _ ⟨f, _⟩
      exact SqL.of (f _ _ (by simp [ne_of_none c1 n2]) c1)
    · rintro i x G hx ⟨f, hD⟩
      have haG := f _ _ (by simp [naD]) ha1
      refine ⟨rfl, ?_⟩
      match i, hx with
      | 0, hx =>
        cases hx
        walk_at "rd"
        exact ⟨_, hD, szlt (Nat.le_of_ble_eq_true rfl), f.upd (by simp), upd_same⟩
      | 1, hx =>
        cases hx
        walk_at "rd"
        exact ⟨_, hD, szlt (Nat.le_of_ble_eq_true rfl), f.upd (by simp), upd_same⟩
      | 2, hx =>
        cases hx
        walk_at "rd"
        exact ⟨_, hD, szlt (Nat.le_of_ble_eq_true rfl), f.upd (by simp), upd_same⟩
      | 3, hx =>
        cases hx
        walk_at "rd"
        exact ⟨_, hD, szlt (Nat.le_of_ble_eq_true rfl), f.upd (by simp), upd_same⟩
      | i + 4, hx => simp at hx
    rintro G ⟨f, hD⟩
    have sG : Same H G := fun b o ho => f _ _ (by simp [ne_of_none (s1 _ _ ho) n2]) (s1 _ _ ho)
    have hDG : G D = some (.lst [.int p.fan, .int p.rec_, .int p.every, .int p.keep]) := hD
    have haG := sG _ _ ha
    have hlG := sG _ _ hl
    refine ⟨_, _, rfl, SqL.of hDG, rfl, ?_⟩
    walk_at "rd"
    intro b dx n ndb neb
    generalize eG2 : upd (upd _ dx _) b _ = G2
    obtain ⟨s, c⟩ := gen_mk n ndb eG2
    clear eG2
    refine use_set_init c (s _ _ hlG) ok fun H2 s2 st => ?_
    walk_at "rd"
    exact k b H2 (sG.free n) (sG.trans (same_sb_new s s2 n)) st

theorem on_ex {p : Prt} (ok : p.Ok) : ∀ r, ∃ n, On p r n
  | 0 => ⟨0, Nat.le_refl _, start_lt ok 0⟩
  | r + 1 => by
    obtain ⟨n, h1, h2⟩ := on_ex ok r
    by_cases h : r + 1 < startN p (n + 1)
    · exact ⟨n, by omega, h⟩
    · exact ⟨n + 1, by omega, by have := start_lt ok (n + 1); omega⟩
/-- the page of row r -/
noncomputable def pgN (p : Prt) (r : Nat) : Nat := open Classical in if h : ∃ n, On p r n then h.choose else 0
theorem pgN_on {p : Prt} (ok : p.Ok) (r : Nat) : On p r (pgN p r) := by
  unfold pgN
  rw [dif_pos (on_ex ok r)]
  exact (on_ex ok r).choose_spec
theorem pgN_eq {p : Prt} (ok : p.Ok) {r n : Nat} (h : On p r n) : pgN p r = n := (pgN_on ok r).uniq ok h
theorem pgN_le {p : Prt} (ok : p.Ok) (r : Nat) : pgN p r ≤ r := (pgN_on ok r).le ok
theorem pgN_mono {p : Prt} (ok : p.Ok) {r q : Nat} (h : r ≤ q) : pgN p r ≤ pgN p q := by
  by_cases c : pgN p r ≤ pgN p q
  · exact c
  · have h1 := (pgN_on ok r).1
    have h2 := (pgN_on ok q).2
    have := start_mono ok (show pgN p q + 1 ≤ pgN p r by omega)
    omega
theorem start_diff {p : Prt} (ok : p.Ok) (m : Nat) : ∀ k, startN p m + k ≤ startN p (m + k)
  | 0 => Nat.le_refl _
  | k + 1 => by have := start_diff ok m k; have := start_lt ok (m + k); rw [show m + (k + 1) = m + k + 1 by omega]; omega
theorem pgN_diff {p : Prt} (ok : p.Ok) {r q : Nat} (h : r ≤ q) : pgN p q ≤ pgN p r + (q - r) := by
  by_cases c : pgN p q ≤ pgN p r + (q - r)
  · exact c
  · have h1 := (pgN_on ok r).2
    have h2 := (pgN_on ok q).1
    have h3 := start_diff ok (pgN p r + 1) (q - r)
    have := start_mono ok (show pgN p r + 1 + (q - r) ≤ pgN p q by omega)
    omega
theorem pgN_start {p : Prt} (ok : p.Ok) (n : Nat) : pgN p (startN p n) = n := pgN_eq ok ⟨Nat.le_refl _, start_lt ok n⟩
theorem usum_hi {p : Prt} (ok : p.Ok) (r k : Nat) (h : k ≤ rowsF p r) : (k : Int) ≤ p.size := by
  have h1 := usum_ge ok r (rowsF p r)
  have h2 := (rowsF_ok ok r).1
  omega
theorem start_le_size {p : Prt} (ok : p.Ok) : ∀ n : Nat, (startN p n : Int) ≤ p.size * (n : Int)
  | 0 => by simp [startN]
  | n + 1 => by
    have h1 := start_le_size ok n
    have h2 := usum_hi ok (startN p n) _ (Nat.le_refl _)
    have e : p.size * ((n + 1 : Nat) : Int) = p.size * (n : Int) + p.size := by push_cast; rw [Int.mul_add, Int.mul_one]
    rw [e]
    simp only [startN]
    push_cast
    omega
@[irreducible] def sp_page_at (K : PySem.W.Frag) : Sp := fun vs H Q _ => ∃ (b : Addr) (p : Prt) (r : Nat), vs = [.ref b, .int r] ∧ SetAt K H b p ∧ p.Ok ∧ ∀ H', Same H H' → Q (.int (pgN p r)) H'
theorem use_page_at {K : PySem.W.Frag} {b : Addr} {p : Prt} {r : Nat} {H : Hp} {Q : VK} {E : XK} {i : Int} (hi : i = (r : Int)) (h : SetAt K H b p) (ok : p.Ok) (k : ∀ H', Same H H' → Q (.int (pgN p r)) H') : sp_page_at K [.ref b, .int i] H Q E := by
  subst hi; unfold sp_page_at; exact ⟨b, p, r, rfl, h, ok, k⟩
theorem b_page_at {K : PySem.W.Frag} {fd : FuncData} (F : F_page_at K fd) : Binds K fd P_page_at [] := FunD.bindsN F fun _ _ _ _ _ _ us hl => match us, hl with | [_, _], _ => rfl
theorem ok_page_at (T : Txt K mg D) : FnOk P w K mg base CX0 5 (He.fAd K ("page_at", none)) (D D_page_at) P_page_at (sp_page_at K) := by
  refine T.d_page_at.ok sc_page_at (fun vs H Q E h => ?_) (fun cdv A outer s H vs Q E hr h => ?_)
  · unfold sp_page_at at h
    first | (obtain ⟨rfl, _⟩ := h; rfl) | (obtain ⟨_, rfl, _⟩ := h; rfl) | (obtain ⟨_, _, rfl, _⟩ := h; rfl) | (obtain ⟨_, _, _, rfl, _⟩ := h; rfl) | (obtain ⟨_, _, _, _, rfl, _⟩ := h; rfl) | (obtain ⟨_, _, _, _, _, rfl, _⟩ := h; rfl) | (obtain ⟨_, _, _, _, _, _, rfl, _⟩ := h; rfl) | (obtain ⟨_, _, _, _, _, _, _, rfl, _⟩ := h; rfl) | (obtain ⟨_, _, _, _, _, _, _, _, rfl, _⟩ := h; rfl) | (obtain ⟨_, _, _, _, _, _, _, _, _, rfl, _⟩ := h; rfl) | (obtain ⟨_, _, _, _, _, _, _, _, _, _, rfl, _⟩ := h; rfl) | (obtain ⟨_, _, _, _, _, _, _, _, _, _, _, rfl, _⟩ := h; rfl)
  · refine ⟨_, PSs.nox (pss_one (ps_ret (pe_meth (pe_make T.mk_Packing (ok_Packing___init__ T) (hr.mono (by decide)) rfl T.g_Packing (b_Packing___init__ T.d_Packing___init__) .nil pass0 (pa_cons (pv 0) pa_nil)) T.c_Packing T.m_Packing_holder (ok_Packing_holder T) (hr.mono (by decide)) (b_Packing_holder T.d_Packing_holder) .nil pass0 (pa_cons (pv 1) pa_nil)))), ?_⟩
    unfold sp_page_at at h
    obtain ⟨b, p, r, rfl, hs, ok, k⟩ := h
    walk_at "rd"
    intro e de n6 nde nee
    generalize eH6 : upd (upd _ de _) e _ = H6
    obtain ⟨s6, c6⟩ := gen_mk n6 nde eH6
    clear eH6
    refine use_packing_init c6 (hs.same s6) ok fun H7 f1 p1 s7 cyc hpk _ => ?_
    obtain ⟨dx, t, l, h1, _, _⟩ := id hpk
    walk_at "rd"
    refine use_holder rfl hpk ok cyc fun n H8 on s8 => ?_
    rw [← pgN_eq ok on]
    exact k H8 ((same_sb_new s6 s7 n6).trans s8)

@[irreducible] def sp_first_at (K : PySem.W.Frag) : Sp := fun vs H Q _ => ∃ (b : Addr) (p : Prt) (n : Nat), vs = [.ref b, .int n] ∧ SetAt K H b p ∧ p.Ok ∧ ∀ H', Same H H' → Q (.int (startN p n)) H'
theorem use_first_at {K : PySem.W.Frag} {b : Addr} {p : Prt} {n : Nat} {H : Hp} {Q : VK} {E : XK} {i : Int} (hi : i = (n : Int)) (h : SetAt K H b p) (ok : p.Ok) (k : ∀ H', Same H H' → Q (.int (startN p n)) H') : sp_first_at K [.ref b, .int i] H Q E := by
  subst hi; unfold sp_first_at; exact ⟨b, p, n, rfl, h, ok, k⟩
theorem b_first_at {K : PySem.W.Frag} {fd : FuncData} (F : F_first_at K fd) : Binds K fd P_first_at [] := FunD.bindsN F fun _ _ _ _ _ _ us hl => match us, hl with | [_, _], _ => rfl
theorem ok_first_at (T : Txt K mg D) : FnOk P w K mg base CX0 5 (He.fAd K ("first_at", none)) (D D_first_at) P_first_at (sp_first_at K) := by
  refine T.d_first_at.ok sc_first_at (fun vs H Q E h => ?_) (fun cdv A outer s H vs Q E hr h => ?_)
  · unfold sp_first_at at h
    first | (obtain ⟨rfl, _⟩ := h; rfl) | (obtain ⟨_, rfl, _⟩ := h; rfl) | (obtain ⟨_, _, rfl, _⟩ := h; rfl) | (obtain ⟨_, _, _, rfl, _⟩ := h; rfl) | (obtain ⟨_, _, _, _, rfl, _⟩ := h; rfl) | (obtain ⟨_, _, _, _, _, rfl, _⟩ := h; rfl) | (obtain ⟨_, _, _, _, _, _, rfl, _⟩ := h; rfl) | (obtain ⟨_, _, _, _, _, _, _, rfl, _⟩ := h; rfl) | (obtain ⟨_, _, _, _, _, _, _, _, rfl, _⟩ := h; rfl) | (obtain ⟨_, _, _, _, _, _, _, _, _, rfl, _⟩ := h; rfl) | (obtain ⟨_, _, _, _, _, _, _, _, _, _, rfl, _⟩ := h; rfl) | (obtain ⟨_, _, _, _, _, _, _, _, _, _, _, rfl, _⟩ := h; rfl)
  · refine ⟨_, PSs.nox (pss_one (ps_ret (pe_meth (pe_make T.mk_Packing (ok_Packing___init__ T) (hr.mono (by decide)) rfl T.g_Packing (b_Packing___init__ T.d_Packing___init__) .nil pass0 (pa_cons (pv 0) pa_nil)) T.c_Packing T.m_Packing_start (ok_Packing_start T) (hr.mono (by decide)) (b_Packing_start T.d_Packing_start) .nil pass0 (pa_cons (pv 1) pa_nil)))), ?_⟩
    unfold sp_first_at at h
    obtain ⟨b, p, n, rfl, hs, ok, k⟩ := h
    walk_at "rd"
    intro e de n6 nde nee
    generalize eH6 : upd (upd _ de _) e _ = H6
    obtain ⟨s6, c6⟩ := gen_mk n6 nde eH6
    clear eH6
    refine use_packing_init c6 (hs.same s6) ok fun H7 f1 p1 s7 cyc hpk _ => ?_
    obtain ⟨dx, t, l, h1, _, _⟩ := id hpk
    walk_at "rd"
    refine use_start rfl hpk ok cyc fun H8 s8 => ?_
    exact k H8 ((same_sb_new s6 s7 n6).trans s8)

theorem ip_mul {X : Cx} : PIp X .Mult (rI CMul fun i j => .int (i * j)) := iop_mul
@[irreducible] def sp_multiplied : Sp := fun vs H Q _ => ∃ (b : Int) (k : Nat), vs = [.int b, .int k] ∧ (0 ≤ b ∧ b ≤ 1000) ∧ k ≤ 1000 ∧ Q (.int (b ^ k)) H
theorem use_mult {b i : Int} {k : Nat} {H : Hp} {Q : VK} {E : XK} (hi : i = (k : Int)) (hb : 0 ≤ b ∧ b ≤ 1000) (hk : k ≤ 1000) (q : Q (.int (b ^ k)) H) : sp_multiplied [.int b, .int i] H Q E := by
  subst hi; unfold sp_multiplied; exact ⟨b, k, rfl, hb, hk, q⟩
theorem b_multiplied {K : PySem.W.Frag} {fd : FuncData} (F : F_multiplied K fd) : Binds K fd P_multiplied [] := FunD.bindsN F fun _ _ _ _ _ _ us hl => match us, hl with | [_, _], _ => rfl
theorem ok_multiplied (T : Txt K mg D) : FnOk P w K mg base CX0 1 (He.fAd K ("multiplied", none)) (D D_multiplied) P_multiplied sp_multiplied := by
  refine T.d_multiplied.ok sc_multiplied (fun vs H Q E h => ?_) (fun cdv A outer s H vs Q E hr h => ?_)
  · unfold sp_multiplied at h
    first | (obtain ⟨rfl, _⟩ := h; rfl) | (obtain ⟨_, rfl, _⟩ := h; rfl) | (obtain ⟨_, _, rfl, _⟩ := h; rfl) | (obtain ⟨_, _, _, rfl, _⟩ := h; rfl) | (obtain ⟨_, _, _, _, rfl, _⟩ := h; rfl) | (obtain ⟨_, _, _, _, _, rfl, _⟩ := h; rfl) | (obtain ⟨_, _, _, _, _, _, rfl, _⟩ := h; rfl) | (obtain ⟨_, _, _, _, _, _, _, rfl, _⟩ := h; rfl) | (obtain ⟨_, _, _, _, _, _, _, _, rfl, _⟩ := h; rfl) | (obtain ⟨_, _, _, _, _, _, _, _, _, rfl, _⟩ := h; rfl) | (obtain ⟨_, _, _, _, _, _, _, _, _, _, rfl, _⟩ := h; rfl) | (obtain ⟨_, _, _, _, _, _, _, _, _, _, _, rfl, _⟩ := h; rfl)
  · refine ⟨_, PSs.nox (pss_cons (ps_set (i := 2) sc_multiplied.nd rfl (Or.inl rfl) pe_int)
      (pss_cons (ps_for PassesOwn.never rfl (pi_range1 (by rfl) T.n_range (pa_cons (pv 1) pa_nil)) (pg_name (i := 3) sc_multiplied.nd rfl (Or.inl rfl)) (pss_one (ps_aug (i := 2) sc_multiplied.nd rfl (Or.inl rfl) (pv 0) ip_mul)))
      (pss_one (ps_ret (pv 2))))), ?_⟩
    unfold sp_multiplied at h
    obtain ⟨b, n, rfl, hb, hn, q⟩ := h
    walk_at "rd"
    refine for_range (lo := 0) (n := n) (fun i σ G => G = H ∧ ∃ v, σ = [some (.int b), some (.int n), some (.int (b ^ i)), v]) ⟨rfl, _, by rw [Int.pow_zero]; rfl⟩ ?_ ?_
    · rintro i σ G hi ⟨rfl, v, rfl⟩
      walk_at "rd"
      refine ⟨some (.int (0 + (i : Int))), ?_⟩
      rw [Int.pow_succ]
      rfl
    · rintro σ G ⟨rfl, v, rfl⟩
      walk_at "rd"
      exact q

theorem start_iff {p : Prt} (ok : p.Ok) {m r : Nat} : startN p m ≤ r ↔ m ≤ pgN p r := by
  have h := pgN_on ok r
  constructor
  · intro h1
    by_cases c : m ≤ pgN p r
    · exact c
    · have := start_mono ok (show pgN p r + 1 ≤ m by omega)
      have := h.2
      omega
  · intro h1
    exact Nat.le_trans (start_mono ok h1) h.1
/-- the first row of border k of the multiples of w -/
noncomputable def sW (p : Prt) (w k : Nat) : Nat := startN p (k * w)
theorem bn_iff {p : Prt} (ok : p.Ok) {w n r : Nat} (hw : 0 < w) : n ≤ pgN p r / w ↔ sW p w n ≤ r := by
  rw [Nat.le_div_iff_mul_le hw]
  exact (start_iff ok).symm
theorem sW_lt {p : Prt} (ok : p.Ok) {w : Nat} (hw : 0 < w) (k : Nat) : sW p w k < sW p w (k + 1) := by
  unfold sW
  rw [Nat.add_mul, Nat.one_mul]
  have := start_diff ok (k * w) w
  omega
noncomputable def mnI (a b : Int) : Int := if b < a then b else a
noncomputable def tW (p : Prt) (w k : Nat) : Int := mnI (p.keep - 1) ((sW p w (k + 1) : Int) - (sW p w k : Int))
noncomputable def SW (p : Prt) (w : Nat) : Nat → Int
  | 0 => 0
  | n + 1 => SW p w n + tW p w (n + 1)
/-- moment j has a border of w's multiples among its live pages but the first -/
def hiW (p : Prt) (w j : Nat) : Prop := 1 ≤ j ∧ 1 ≤ pgN p (j - 1) / w ∧ j < sW p w (pgN p (j - 1) / w) + p.keep.toNat
noncomputable def cnt (P : Nat → Prop) : Nat → Nat
  | 0 => 0
  | m + 1 => cnt P m + open Classical in (if P m then 1 else 0)
theorem cnt_pos {P : Nat → Prop} {m : Nat} (h : P m) : cnt P (m + 1) = cnt P m + 1 := by simp only [cnt]; rw [if_pos h]
theorem cnt_neg {P : Nat → Prop} {m : Nat} (h : ¬ P m) : cnt P (m + 1) = cnt P m := by simp only [cnt]; rw [if_neg h, Nat.add_zero]
noncomputable def fW (p : Prt) (w m : Nat) : Int := if m < 2 then 0 else if pgN p (m - 2) / w = 0 then 0 else SW p w (pgN p (m - 2) / w - 1) + mnI (p.keep - 1) ((m : Int) - 1 - (sW p w (pgN p (m - 2) / w) : Int))
theorem pgN_zero {p : Prt} (ok : p.Ok) : pgN p 0 = 0 := by have := pgN_le ok 0; omega
theorem cnt_f {p : Prt} (ok : p.Ok) {w : Nat} (hw : 0 < w) : ∀ m, (cnt (hiW p w) m : Int) = fW p w m
  | 0 => rfl
  | m + 1 => by
    have ih := cnt_f ok hw m
    have hk := ok.k
    match m, ih with
    | 0, ih =>
      rw [cnt_neg (fun h => absurd h.1 (by omega)), ih]
      rfl
    | 1, ih =>
      have h0 : pgN p 0 / w = 0 := by rw [pgN_zero ok]; exact Nat.zero_div w
      rw [cnt_neg (fun h => by have := h.2.1; rw [show 1 - 1 = 0 by rfl, h0] at this; omega), ih]
      unfold fW
      rw [if_pos (by omega), if_neg (by omega), show 1 + 1 - 2 = 0 by rfl, if_pos h0]
    | m + 2, ih =>
      have e1 : fW p w (m + 2) = if pgN p m / w = 0 then 0 else SW p w (pgN p m / w - 1) + mnI (p.keep - 1) (((m + 2 : Nat) : Int) - 1 - (sW p w (pgN p m / w) : Int)) := by
        unfold fW
        rw [if_neg (by omega), show m + 2 - 2 = m by omega]
      have e2 : fW p w (m + 2 + 1) = if pgN p (m + 1) / w = 0 then 0 else SW p w (pgN p (m + 1) / w - 1) + mnI (p.keep - 1) (((m + 2 + 1 : Nat) : Int) - 1 - (sW p w (pgN p (m + 1) / w) : Int)) := by
        unfold fW
        rw [if_neg (by omega), show m + 2 + 1 - 2 = m + 1 by omega]
      have eh : hiW p w (m + 2) ↔ (1 ≤ pgN p (m + 1) / w ∧ m + 2 < sW p w (pgN p (m + 1) / w) + p.keep.toNat) := by
        unfold hiW
        rw [show m + 2 - 1 = m + 1 by omega]
        exact ⟨fun h => h.2, fun h => ⟨by omega, h⟩⟩
      rw [e2]
      rw [e1] at ih
      generalize hn : pgN p m / w = n at ih
      generalize hn2 : pgN p (m + 1) / w = n2 at eh ⊢
      have a1 : sW p w n ≤ m := (bn_iff ok hw).mp (by omega)
      have a2 : ¬ sW p w (n + 1) ≤ m := fun h => by have := (bn_iff ok hw).mpr h; omega
      have b1 : sW p w n2 ≤ m + 1 := (bn_iff ok hw).mp (by omega)
      have b2 : ¬ sW p w (n2 + 1) ≤ m + 1 := fun h => by have := (bn_iff ok hw).mpr h; omega
      have c1 : n ≤ n2 := by
        have := (bn_iff ok (n := n) (r := m + 1) hw).mpr (by omega)
        omega
      by_cases c : n2 = n
      · subst c
        by_cases hz : n2 = 0
        · rw [if_pos hz]
          rw [if_pos hz] at ih
          rw [cnt_neg (fun h => by have := (eh.mp h).1; omega)]
          exact ih
        · rw [if_neg hz]
          rw [if_neg hz] at ih
          by_cases h : hiW p w (m + 2)
          · rw [cnt_pos h]
            have h2 := (eh.mp h).2
            unfold mnI at ih ⊢
            push_cast at ih ⊢
            rw [ih]
            split <;> split <;> omega
          · rw [cnt_neg h, ih]
            have h2 : ¬ m + 2 < sW p w n2 + p.keep.toNat := fun z => h (eh.mpr ⟨by omega, z⟩)
            unfold mnI
            push_cast
            split <;> split <;> omega
      · have e3 : sW p w (n + 1) = m + 1 := by
          have := (bn_iff ok (n := n + 1) (r := m + 1) hw).mp (by omega)
          omega
        have c2 : n2 = n + 1 := by
          by_cases z : n2 = n + 1
          · exact z
          · have := (bn_iff ok (n := n + 2) (r := m + 1) hw).mp (by omega)
            have h9 : sW p w (n + 1) < sW p w (n + 2) := sW_lt ok hw (n + 1)
            omega
        subst c2
        rw [if_neg (by omega), e3]
        have eS : (cnt (hiW p w) (m + 2) : Int) = SW p w n := by
          rw [ih]
          by_cases hz : n = 0
          · subst hz; rfl
          · rw [if_neg hz]
            obtain ⟨q, rfl⟩ : ∃ q, n = q + 1 := ⟨n - 1, by omega⟩
            show SW p w q + _ = SW p w q + tW p w (q + 1)
            unfold tW
            rw [e3, show ((m + 2 : Nat) : Int) - 1 = ((m + 1 : Nat) : Int) by omega]
        rw [show n + 1 - 1 = n by omega]
        by_cases h : hiW p w (m + 2)
        · rw [cnt_pos h]
          have h2 := (eh.mp h).2
          rw [e3] at h2
          push_cast
          rw [eS]
          unfold mnI
          push_cast
          split <;> omega
        · rw [cnt_neg h, eS]
          have h2 : ¬ m + 2 < sW p w (n + 1) + p.keep.toNat := fun z => h (eh.mpr ⟨by omega, z⟩)
          rw [e3] at h2
          unfold mnI
          push_cast
          split <;> omega
/-! sums by periods -/
noncomputable def seg (p : Prt) (w k : Nat) : Nat → Int
  | 0 => 0
  | n + 1 => seg p w k n + tW p w (k + n)
theorem SW_seg (p : Prt) (w k : Nat) : ∀ n, SW p w (k + n) = SW p w k + seg p w (k + 1) n
  | 0 => by simp [seg]
  | n + 1 => by
    show SW p w (k + n) + tW p w (k + n + 1) = _
    rw [SW_seg p w k n]
    simp only [seg]
    rw [show k + 1 + n = k + n + 1 by omega]
    omega
theorem tW_per {p : Prt} (ok : p.Ok) {first pages w k q t : Nat} (c : Cyc p first pages) (h : first ≤ k * w) (hq : q * w = t * pages) : tW p w (k + q) = tW p w k := by
  have e : ∀ j, first ≤ j * w → sW p w (j + q) = sW p w j + t * rowsC p first pages := fun j hj => by
    unfold sW
    rw [Nat.add_mul, hq]
    exact start_times ok c hj t
  have e1 := e k h
  have e2 := e (k + 1) (by rw [Nat.add_mul]; omega)
  unfold tW
  rw [show k + q + 1 = k + 1 + q by omega, e1, e2]
  congr 1
  push_cast
  omega
theorem seg_add (p : Prt) (w k a : Nat) : ∀ b, seg p w k (a + b) = seg p w k a + seg p w (k + a) b
  | 0 => by simp [seg]
  | b + 1 => by
    show seg p w k (a + b) + tW p w (k + (a + b)) = _
    rw [seg_add p w k a b]
    simp only [seg]
    rw [show k + a + b = k + (a + b) by omega]
    omega
theorem seg_per {p : Prt} (ok : p.Ok) {first pages w k q t : Nat} (c : Cyc p first pages) (h : first ≤ k * w) (hq : q * w = t * pages) : ∀ n, seg p w (k + q) n = seg p w k n
  | 0 => rfl
  | n + 1 => by
    simp only [seg]
    rw [seg_per ok c h hq n, show k + q + n = k + n + q by omega, tW_per ok c (by rw [Nat.add_mul]; omega) hq]
theorem seg_times {p : Prt} (ok : p.Ok) {first pages w k q t : Nat} (c : Cyc p first pages) (h : first ≤ k * w) (hq : q * w = t * pages) (b : Nat) : ∀ a : Nat, seg p w k (a * q + b) = (a : Int) * seg p w k q + seg p w k b
  | 0 => by simp
  | a + 1 => by
    rw [show (a + 1) * q + b = q + (a * q + b) by rw [Nat.succ_mul]; omega, seg_add, seg_per ok c h hq, seg_times ok c h hq b a]
    push_cast
    rw [Int.add_mul, Int.one_mul]
    omega
theorem seg_div {p : Prt} (ok : p.Ok) {first pages w k q t : Nat} (c : Cyc p first pages) (h : first ≤ k * w) (hq : q * w = t * pages) (n : Nat) : seg p w k n = ((n / q : Nat) : Int) * seg p w k q + seg p w k (n % q) := by
  have := seg_times ok c h hq (n % q) (n / q)
  rw [show n / q * q + n % q = n by rw [Nat.mul_comm]; exact Nat.div_add_mod n q] at this
  exact this
theorem seg_list (p : Prt) (w k : Nat) : ∀ n, ((List.range n).map fun i => tW p w (k + i)).foldl (· + ·) 0 = seg p w k n
  | 0 => rfl
  | n + 1 => by
    rw [List.range_succ, List.map_append, List.foldl_append, seg_list p w k n]
    rfl
theorem use_sl {K : PySem.W.Frag} {H : Hp} {a : Addr} {xs ys : List V} {lo hi : Option Int} {Q : VK} (h : SqL K H a xs) (e : cutV xs lo hi = ys) (k : ∀ p H', H p = none → Same H H' → H' p = some (.lst ys) → Q (.ref p) H') : rSlL K (.ref a) lo hi H Q := by
  subst e
  exact ⟨a, xs, rfl, h, fun p n => k p _ n (same_new n) upd_same⟩
theorem use_cat {K : PySem.W.Frag} {H : Hp} {a b : Addr} {xs zs : List V} {Q : VK} (h : SqL K H a xs) (h2 : SqL K H b zs) (hz : xs.length + zs.length ≤ 100000) (k : ∀ p H', H p = none → Same H H' → H' p = some (.lst (xs ++ zs)) → Q (.ref p) H') : rCatS K (.ref a) (.ref b) H Q :=
  ⟨a, b, xs, zs, rfl, rfl, h, h2, hz, k⟩
theorem dvi {i j : Int} (h : decide (V.int i = V.int j) = true) : i = j := by have := of_decide_eq_true h; injection this
theorem dvn {i j : Int} (h : ¬ decide (V.int i = V.int j) = true) : i ≠ j := fun z => h (decide_eq_true (congrArg V.int z))
theorem dct {p : Prop} [Decidable p] (h : decide p = true) : p := of_decide_eq_true h
theorem dcn {p : Prop} [Decidable p] (h : ¬ decide p = true) : ¬ p := fun z => h (decide_eq_true z)
theorem cut_to (xs : List V) (m : Nat) : cutV xs none (some (m : Int)) = xs.take m := by
  unfold cutV
  rw [HT.sIx_none, HT.sIx_nat, Nat.sub_zero, List.drop_zero]
  by_cases h : m ≤ xs.length
  · rw [Nat.min_eq_left h]
  · rw [Nat.min_eq_right (by omega), List.take_length, List.take_of_length_le (by omega)]
theorem cut_mid (xs : List V) (b e : Nat) (h : b ≤ xs.length) : cutV xs (some (b : Int)) (some (e : Int)) = (xs.take e).drop b := by
  unfold cutV
  rw [HT.sIx_nat, HT.sIx_nat, Nat.min_eq_left h, List.drop_take]
  by_cases he : e ≤ xs.length
  · rw [Nat.min_eq_left he]
  · rw [Nat.min_eq_right (by omega), List.take_of_length_le (by rw [List.length_drop]; omega), List.take_of_length_le (by rw [List.length_drop]; omega)]
theorem pt_ifE {X : Cx} {c a b : Expr} {pos : Pos} {t tA tB : TT} (hc : PT X c t) (ha : PT X a tA) (hb : PT X b tB) : PT X (.IfExp c a b pos) (fun σ H Q => t σ H fun d H1 => if d = true then tA σ H1 Q else tB σ H1 Q) := by
  refine ⟨fun pins s σ H Q I h => ?_⟩
  have e : PySem.isTrue (.IfExp c a b pos) X.env (eval (.IfExp c a b pos) X.env) = (PySem.isTrue c X.env (eval c X.env) >>= fun d => if d = true then PySem.isTrue a X.env (eval a X.env) else PySem.isTrue b X.env (eval b X.env)) := by rfl
  rw [e]
  refine wpAny_bind (thn (hc.run pins s σ H _ I h) fun d s1 ⟨H1, I1, q1⟩ => ?_)
  cases d with
  | true => exact ha.run pins s1 σ H1 Q I1 q1
  | false => exact hb.run pins s1 σ H1 Q I1 q1
def BIG : Nat := 2 ^ 1000
theorem big_of {k : Nat} (h : k ≤ 100000000000000000000000000000000) : k < BIG := Nat.lt_of_le_of_lt h (by decide +kernel)
theorem cmW {k w : Nat} (h : k ≤ 100000000000000000000000000000000) (hw : w < BIG) : CMulW (k : Int) (w : Int) := wide_mul (a := 1000) (b := 1000) (by rw [Int.natAbs_natCast]; exact big_of h) (by rw [Int.natAbs_natCast]; exact hw) (by decide) (by decide) (by decide)
theorem cdW {i : Int} {w : Nat} (h0 : 0 < w) (hw : w < BIG) : CDivW i (w : Int) := wide_div (b := 1000) (by omega) (by rw [Int.natAbs_natCast]; exact hw) (by decide) (by decide)
theorem mn_bd {a b : Int} (h1 : 0 ≤ a ∧ a ≤ 99) (h2 : 0 ≤ b) : 0 ≤ mnI a b ∧ mnI a b ≤ 99 := by unfold mnI; split <;> omega
theorem tW_bd {p : Prt} (ok : p.Ok) {w : Nat} (hw : 0 < w) (k : Nat) : 0 ≤ tW p w k ∧ tW p w k ≤ 99 := by
  have := ok.k
  have := sW_lt ok hw k
  exact mn_bd (by omega) (by omega)
theorem seg_bd {p : Prt} (ok : p.Ok) {w : Nat} (hw : 0 < w) (k : Nat) : ∀ n : Nat, 0 ≤ seg p w k n ∧ seg p w k n ≤ 99 * (n : Int)
  | 0 => by simp [seg]
  | n + 1 => by
    have h1 := seg_bd ok hw k n
    have h2 := tW_bd ok hw (k + n)
    simp only [seg]
    push_cast
    omega
noncomputable def sgL (p : Prt) (w k n : Nat) : List Int := (List.range n).map fun i => tW p w (k + i)
theorem sgL_succ (p : Prt) (w k n : Nat) : sgL p w k (n + 1) = sgL p w k n ++ [tW p w (k + n)] := by unfold sgL; rw [List.range_succ, List.map_append]; rfl
theorem sgL_len (p : Prt) (w k n : Nat) : (sgL p w k n).length = n := by unfold sgL; rw [List.length_map, List.length_range]
theorem sgL_sum (p : Prt) (w k : Nat) : ∀ n, (sgL p w k n).sum = seg p w k n
  | 0 => rfl
  | n + 1 => by rw [sgL_succ, List.sum_append, sgL_sum p w k n]; simp [seg]
theorem sgL_take (p : Prt) (w k : Nat) {m n : Nat} (h : m ≤ n) : (sgL p w k n).take m = sgL p w k m := by
  unfold sgL
  rw [← List.map_take, List.take_range, Nat.min_eq_left h]
@[irreducible] def sp_common_factor : Sp := fun vs H Q _ => ∃ a b : Nat, vs = [.int a, .int b] ∧ 0 < b ∧ ∀ g : Nat, 0 < g → g ∣ a → g ∣ b → Q (.int g) H
theorem use_cf {a b : Nat} {H : Hp} {Q : VK} {E : XK} {i j : Int} (hi : i = (a : Int)) (hj : j = (b : Int)) (h : 0 < b) (k : ∀ g : Nat, 0 < g → g ∣ a → g ∣ b → Q (.int g) H) : sp_common_factor [.int i, .int j] H Q E := by
  subst hi hj; unfold sp_common_factor; exact ⟨a, b, rfl, h, k⟩
theorem b_common_factor {K : PySem.W.Frag} {fd : FuncData} (F : F_common_factor K fd) : Binds K fd P_common_factor [] := FunD.bindsN F fun _ _ _ _ _ _ us hl => match us, hl with | [_, _], _ => rfl
theorem ok_common_factor (T : Txt K mg D) : FnOk P w K mg base CX0 1 (He.fAd K ("common_factor", none)) (D D_common_factor) P_common_factor sp_common_factor := by
  refine T.d_common_factor.ok sc_common_factor (fun vs H Q E h => ?_) (fun cdv A outer s H vs Q E hr h => ?_)
  · unfold sp_common_factor at h
    first | (obtain ⟨rfl, _⟩ := h; rfl) | (obtain ⟨_, rfl, _⟩ := h; rfl) | (obtain ⟨_, _, rfl, _⟩ := h; rfl) | (obtain ⟨_, _, _, rfl, _⟩ := h; rfl) | (obtain ⟨_, _, _, _, rfl, _⟩ := h; rfl) | (obtain ⟨_, _, _, _, _, rfl, _⟩ := h; rfl) | (obtain ⟨_, _, _, _, _, _, rfl, _⟩ := h; rfl) | (obtain ⟨_, _, _, _, _, _, _, rfl, _⟩ := h; rfl) | (obtain ⟨_, _, _, _, _, _, _, _, rfl, _⟩ := h; rfl) | (obtain ⟨_, _, _, _, _, _, _, _, _, rfl, _⟩ := h; rfl) | (obtain ⟨_, _, _, _, _, _, _, _, _, _, rfl, _⟩ := h; rfl) | (obtain ⟨_, _, _, _, _, _, _, _, _, _, _, rfl, _⟩ := h; rfl)
  · refine ⟨_, PSs.nox (pss_cons (ps_while PassesOwn.never (pt_cmpR op_ne (pv 1) pe_int (nomark _)) (pss_one (ps_par (i := 0) (j := 1) (by rfl) sc_common_factor.nd rfl rfl (by decide) rfl rfl (pa_cons (pv 1) (pa_cons (pe_op op_mod (pv 0) (pv 1)) pa_nil)) (by rfl))))
      (pss_one (ps_ret (pv 0)))), ?_⟩
    unfold sp_common_factor at h
    obtain ⟨a, b, rfl, hb, k⟩ := h
    walk_at "rd"
    refine ⟨fun m σ H' => H' = H ∧ ∃ x y : Nat, σ = [some (.int x), some (.int y)] ∧ (0 < x ∨ 0 < y) ∧ (∀ g, g ∣ x → g ∣ y → g ∣ a ∧ g ∣ b) ∧ m = y, ⟨_, rfl, a, b, rfl, .inr hb, fun g h1 h2 => ⟨h1, h2⟩, rfl⟩, ?_⟩
    rintro m σ H' ⟨rfl, x, y, rfl, hp, hg, rfl⟩
    walk_at "rd"
    refine iteB (fun c => ?_) (fun c => ?_)
    · have hy : 0 < m := by
        by_cases z : m = 0
        · subst z
          exact absurd c (by decide)
        · omega
      refine ⟨fun σ' H'' => ∃ m', m' < m ∧ H'' = H' ∧ ∃ x y : Nat, σ' = [some (.int x), some (.int y)] ∧ (0 < x ∨ 0 < y) ∧ (∀ g, g ∣ x → g ∣ y → g ∣ a ∧ g ∣ b) ∧ m' = y, fun _ _ h => h, ?_⟩
      walk_at "rd"
      refine ⟨x % m, Nat.mod_lt _ hy, rfl, m, x % m, ?_, .inl hy, fun g h1 h2 => hg g ?_ h1, rfl⟩
      · exact congrArg (fun z : Int => ([some (.int m), some (.int z)] : L2.St)) (Int.natCast_emod x m).symm
      · exact (Nat.dvd_mod_iff h1).mp h2
    · have hy : m = 0 := by
        by_cases z : m = 0
        · exact z
        · have c2 := of_decide_eq_true (show decide (V.int (m : Int) = V.int 0) = true by revert c; cases decide (V.int (m : Int) = V.int 0) <;> simp)
          injection c2 with c2
          omega
      subst hy
      walk_at "rd"
      have := hg x (Nat.dvd_refl x) (Nat.dvd_zero x)
      exact k x (by omega) this.1 this.2

def HtAt (K : PySem.W.Frag) (H : Hp) (h : Addr) (p : Prt) (w first pages : Nat) : Prop := ∃ dx a, H h = some (.ins (He.ga K "Heights") dx [("packing", .ref a), ("most", .int (p.keep - 1)), ("wide", .int (w : Int))]) ∧ PkAt K H a p first pages
theorem HtAt.same {K : PySem.W.Frag} {H H' : Hp} {h : Addr} {p : Prt} {w first pages : Nat} (a : HtAt K H h p w first pages) (s : Same H H') : HtAt K H' h p w first pages := let ⟨dx, b, h1, h2⟩ := a; ⟨dx, b, s _ _ h1, h2.same s⟩
@[irreducible] def sp_Heights_border_start (K : PySem.W.Frag) : Sp := fun vs H Q _ => ∃ (h : Addr) (p : Prt) (w first pages k : Nat), vs = [.ref h, .int k] ∧ HtAt K H h p w first pages ∧ p.Ok ∧ Cyc p first pages ∧ w < BIG ∧ k ≤ 100000000000000000000000000000000 ∧ ∀ H', Same H H' → Q (.int (sW p w k)) H'
theorem use_bstart {K : PySem.W.Frag} {h : Addr} {p : Prt} {w first pages k : Nat} {H : Hp} {Q : VK} {E : XK} {i : Int} (hi : i = (k : Int)) (a : HtAt K H h p w first pages) (ok : p.Ok) (c : Cyc p first pages) (hw : w < BIG) (hk : k ≤ 100000000000000000000000000000000) (q : ∀ H', Same H H' → Q (.int (sW p w k)) H') :
  sp_Heights_border_start K [.ref h, .int i] H Q E := by subst hi; unfold sp_Heights_border_start; exact ⟨h, p, w, first, pages, k, rfl, a, ok, c, hw, hk, q⟩
theorem b_Heights_border_start {K : PySem.W.Frag} {fd : FuncData} (F : F_Heights_border_start K fd) : Binds K fd P_Heights_border_start [] := FunD.bindsN F fun _ _ _ _ _ _ us hl => match us, hl with | [_, _], _ => rfl
theorem ok_Heights_border_start (T : Txt K mg D) : FnOk P w K mg base CX0 2 (He.fAd K ("Heights", some "border_start")) (D D_Heights_border_start) P_Heights_border_start (sp_Heights_border_start K) := by
  refine T.d_Heights_border_start.ok sc_Heights_border_start (fun vs H Q E h => ?_) (fun cdv A outer s H vs Q E hr h => ?_)
  · unfold sp_Heights_border_start at h
    first | (obtain ⟨rfl, _⟩ := h; rfl) | (obtain ⟨_, rfl, _⟩ := h; rfl) | (obtain ⟨_, _, rfl, _⟩ := h; rfl) | (obtain ⟨_, _, _, rfl, _⟩ := h; rfl) | (obtain ⟨_, _, _, _, rfl, _⟩ := h; rfl) | (obtain ⟨_, _, _, _, _, rfl, _⟩ := h; rfl) | (obtain ⟨_, _, _, _, _, _, rfl, _⟩ := h; rfl) | (obtain ⟨_, _, _, _, _, _, _, rfl, _⟩ := h; rfl) | (obtain ⟨_, _, _, _, _, _, _, _, rfl, _⟩ := h; rfl) | (obtain ⟨_, _, _, _, _, _, _, _, _, rfl, _⟩ := h; rfl) | (obtain ⟨_, _, _, _, _, _, _, _, _, _, rfl, _⟩ := h; rfl) | (obtain ⟨_, _, _, _, _, _, _, _, _, _, _, rfl, _⟩ := h; rfl)
  · refine ⟨_, PSs.nox (pss_one (ps_ret (pe_meth (pe_fldK (K := K) (pv 0) rfl) T.c_Packing T.m_Packing_start (ok_Packing_start T) (hr.mono (by decide)) (b_Packing_start T.d_Packing_start) .nil pass0 (pa_cons (pe_op op_mulW (pv 1) (pe_fldK (K := K) (pv 0) rfl)) pa_nil)))), ?_⟩
    unfold sp_Heights_border_start at h
    obtain ⟨h, p, w, first, pages, k, rfl, ⟨dx, a, h1, hpk⟩, ok, c, hw, hk, q⟩ := h
    obtain ⟨da, ta, la, h2, _, _⟩ := id hpk
    walk_at "rd"
    refine ⟨cmW hk hw, ?_⟩
    exact use_start (n := k * w) (Int.natCast_mul k w).symm hpk ok c q

@[irreducible] def sp_Heights_times_of (K : PySem.W.Frag) : Sp := fun vs H Q _ => ∃ (h : Addr) (p : Prt) (w first pages k : Nat), vs = [.ref h, .int k] ∧ HtAt K H h p w first pages ∧ p.Ok ∧ Cyc p first pages ∧ w < BIG ∧ k ≤ 50000000000000000000000000000000 ∧ ∀ H', Same H H' → Q (.int (tW p w k)) H'
theorem use_times {K : PySem.W.Frag} {h : Addr} {p : Prt} {w first pages k : Nat} {H : Hp} {Q : VK} {E : XK} {i : Int} (hi : i = (k : Int)) (a : HtAt K H h p w first pages) (ok : p.Ok) (c : Cyc p first pages) (hw : w < BIG) (hk : k ≤ 50000000000000000000000000000000) (q : ∀ H', Same H H' → Q (.int (tW p w k)) H') :
  sp_Heights_times_of K [.ref h, .int i] H Q E := by subst hi; unfold sp_Heights_times_of; exact ⟨h, p, w, first, pages, k, rfl, a, ok, c, hw, hk, q⟩
theorem b_Heights_times_of {K : PySem.W.Frag} {fd : FuncData} (F : F_Heights_times_of K fd) : Binds K fd P_Heights_times_of [] := FunD.bindsN F fun _ _ _ _ _ _ us hl => match us, hl with | [_, _], _ => rfl
theorem ok_Heights_times_of (T : Txt K mg D) : FnOk P w K mg base CX0 3 (He.fAd K ("Heights", some "times_of")) (D D_Heights_times_of) P_Heights_times_of (sp_Heights_times_of K) := by
  refine T.d_Heights_times_of.ok sc_Heights_times_of (fun vs H Q E h => ?_) (fun cdv A outer s H vs Q E hr h => ?_)
  · unfold sp_Heights_times_of at h
    first | (obtain ⟨rfl, _⟩ := h; rfl) | (obtain ⟨_, rfl, _⟩ := h; rfl) | (obtain ⟨_, _, rfl, _⟩ := h; rfl) | (obtain ⟨_, _, _, rfl, _⟩ := h; rfl) | (obtain ⟨_, _, _, _, rfl, _⟩ := h; rfl) | (obtain ⟨_, _, _, _, _, rfl, _⟩ := h; rfl) | (obtain ⟨_, _, _, _, _, _, rfl, _⟩ := h; rfl) | (obtain ⟨_, _, _, _, _, _, _, rfl, _⟩ := h; rfl) | (obtain ⟨_, _, _, _, _, _, _, _, rfl, _⟩ := h; rfl) | (obtain ⟨_, _, _, _, _, _, _, _, _, rfl, _⟩ := h; rfl) | (obtain ⟨_, _, _, _, _, _, _, _, _, _, rfl, _⟩ := h; rfl) | (obtain ⟨_, _, _, _, _, _, _, _, _, _, _, rfl, _⟩ := h; rfl)
  · refine ⟨_, PSs.nox (pss_one (ps_ret (pe_callB (call_min2 rfl) (by rfl) T.n_min (by decide +kernel) (pa_cons (pe_fldK (K := K) (pv 0) rfl) (pa_cons (pe_op op_sub (pe_meth (pv 0) T.c_Heights T.m_Heights_border_start (ok_Heights_border_start T) (hr.mono (by decide)) (b_Heights_border_start T.d_Heights_border_start) .nil pass0 (pa_cons (pe_op op_add (pv 1) pe_int) pa_nil)) (pe_meth (pv 0) T.c_Heights T.m_Heights_border_start (ok_Heights_border_start T) (hr.mono (by decide)) (b_Heights_border_start T.d_Heights_border_start) .nil pass0 (pa_cons (pv 1) pa_nil))) pa_nil))))), ?_⟩
    unfold sp_Heights_times_of at h
    obtain ⟨h, p, w, first, pages, k, rfl, ht, ok, c, hw, hk, q⟩ := h
    obtain ⟨dx, a, h1, hpk⟩ := id ht
    walk_at "rd"
    refine use_bstart (k := k + 1) (by omega) ht ok c hw (by omega) fun G1 g1 => ?_
    have h11 := g1 _ _ h1
    walk_at "rd"
    refine use_bstart rfl (ht.same g1) ok c hw (by omega) fun G2 g2 => ?_
    walk_at "rd"
    exact q G2 (g1.trans g2)

@[irreducible] def sp_Heights_borders (K : PySem.W.Frag) : Sp := fun vs H Q _ => ∃ (h : Addr) (p : Prt) (w first pages : Nat) (i : Int), vs = [.ref h, .int i] ∧ HtAt K H h p w first pages ∧ p.Ok ∧ Cyc p first pages ∧ (0 < w ∧ w < BIG) ∧
  ∀ H', Same H H' → Q (.int (if 0 ≤ i then ((pgN p i.toNat / w : Nat) : Int) else 0)) H'
theorem use_borders {K : PySem.W.Frag} {h : Addr} {p : Prt} {w first pages : Nat} {i : Int} {H : Hp} {Q : VK} {E : XK} (a : HtAt K H h p w first pages) (ok : p.Ok) (c : Cyc p first pages) (hw : 0 < w ∧ w < BIG) (q : ∀ H', Same H H' → Q (.int (if 0 ≤ i then ((pgN p i.toNat / w : Nat) : Int) else 0)) H') :
  sp_Heights_borders K [.ref h, .int i] H Q E := by unfold sp_Heights_borders; exact ⟨h, p, w, first, pages, i, rfl, a, ok, c, hw, q⟩
theorem b_Heights_borders {K : PySem.W.Frag} {fd : FuncData} (F : F_Heights_borders K fd) : Binds K fd P_Heights_borders [] := FunD.bindsN F fun _ _ _ _ _ _ us hl => match us, hl with | [_, _], _ => rfl
theorem ok_Heights_borders (T : Txt K mg D) : FnOk P w K mg base CX0 2 (He.fAd K ("Heights", some "borders")) (D D_Heights_borders) P_Heights_borders (sp_Heights_borders K) := by
  refine T.d_Heights_borders.ok sc_Heights_borders (fun vs H Q E h => ?_) (fun cdv A outer s H vs Q E hr h => ?_)
  · unfold sp_Heights_borders at h
    first | (obtain ⟨rfl, _⟩ := h; rfl) | (obtain ⟨_, rfl, _⟩ := h; rfl) | (obtain ⟨_, _, rfl, _⟩ := h; rfl) | (obtain ⟨_, _, _, rfl, _⟩ := h; rfl) | (obtain ⟨_, _, _, _, rfl, _⟩ := h; rfl) | (obtain ⟨_, _, _, _, _, rfl, _⟩ := h; rfl) | (obtain ⟨_, _, _, _, _, _, rfl, _⟩ := h; rfl) | (obtain ⟨_, _, _, _, _, _, _, rfl, _⟩ := h; rfl) | (obtain ⟨_, _, _, _, _, _, _, _, rfl, _⟩ := h; rfl) | (obtain ⟨_, _, _, _, _, _, _, _, _, rfl, _⟩ := h; rfl) | (obtain ⟨_, _, _, _, _, _, _, _, _, _, rfl, _⟩ := h; rfl) | (obtain ⟨_, _, _, _, _, _, _, _, _, _, _, rfl, _⟩ := h; rfl)
  · refine ⟨_, PSs.nox (pss_one (ps_ret (pe_ifExp (pt_cmpR op_ge (pv 1) pe_int (nomark _)) (pe_op op_fdivW (pe_meth (pe_fldK (K := K) (pv 0) rfl) T.c_Packing T.m_Packing_holder (ok_Packing_holder T) (hr.mono (by decide)) (b_Packing_holder T.d_Packing_holder) .nil pass0 (pa_cons (pv 1) pa_nil)) (pe_fldK (K := K) (pv 0) rfl)) pe_int))), ?_⟩
    unfold sp_Heights_borders at h
    obtain ⟨h, p, w, first, pages, i, rfl, ⟨dx, a, h1, hpk⟩, ok, c, ⟨w0, w1⟩, q⟩ := h
    obtain ⟨da, ta, la, h2, _, _⟩ := id hpk
    walk_at "rd"
    refine iteB (fun d => ?_) (fun d => ?_)
    · have d := of_decide_eq_true d
      have d : 0 ≤ i := d
      walk_at "rd"
      refine use_holder (r := i.toNat) (Int.toNat_of_nonneg d).symm hpk ok c fun n G on g => ?_
      have h11 := g _ _ h1
      walk_at "rd"
      refine ⟨cdW w0 w1, ?_⟩
      have q := q G g
      rw [if_pos d, pgN_eq ok on] at q
      exact q
    · have d := of_decide_eq_false d
      have d : ¬ 0 ≤ i := d
      have q := q H (Same.refl H)
      rw [if_neg d] at q
      exact q

@[irreducible] def sp_Heights_sum_of (K : PySem.W.Frag) : Sp := fun vs H Q _ => ∃ (h : Addr) (p : Prt) (w first pages n : Nat), vs = [.ref h, .int n] ∧ HtAt K H h p w first pages ∧ p.Ok ∧ Cyc p first pages ∧ (0 < w ∧ w < BIG) ∧ n ≤ 10000000000000000000000000000000 ∧ ∀ H', Same H H' → Q (.int (SW p w n)) H'
theorem use_sum_of {K : PySem.W.Frag} {h : Addr} {p : Prt} {w first pages n : Nat} {H : Hp} {Q : VK} {E : XK} {i : Int} (hi : i = (n : Int)) (a : HtAt K H h p w first pages) (ok : p.Ok) (c : Cyc p first pages) (hw : 0 < w ∧ w < BIG) (hk : n ≤ 10000000000000000000000000000000) (q : ∀ H', Same H H' → Q (.int (SW p w n)) H') :
  sp_Heights_sum_of K [.ref h, .int i] H Q E := by subst hi; unfold sp_Heights_sum_of; exact ⟨h, p, w, first, pages, n, rfl, a, ok, c, hw, hk, q⟩
theorem b_Heights_sum_of {K : PySem.W.Frag} {fd : FuncData} (F : F_Heights_sum_of K fd) : Binds K fd P_Heights_sum_of [] := FunD.bindsN F fun _ _ _ _ _ _ us hl => match us, hl with | [_, _], _ => rfl
theorem ok_Heights_sum_of (T : Txt K mg D) : FnOk P w K mg base CX0 4 (He.fAd K ("Heights", some "sum_of")) (D D_Heights_sum_of) P_Heights_sum_of (sp_Heights_sum_of K) := by
  refine T.d_Heights_sum_of.ok sc_Heights_sum_of (fun vs H Q E h => ?_) (fun cdv A outer s H vs Q E hr h => ?_)
  · unfold sp_Heights_sum_of at h
    first | (obtain ⟨rfl, _⟩ := h; rfl) | (obtain ⟨_, rfl, _⟩ := h; rfl) | (obtain ⟨_, _, rfl, _⟩ := h; rfl) | (obtain ⟨_, _, _, rfl, _⟩ := h; rfl) | (obtain ⟨_, _, _, _, rfl, _⟩ := h; rfl) | (obtain ⟨_, _, _, _, _, rfl, _⟩ := h; rfl) | (obtain ⟨_, _, _, _, _, _, rfl, _⟩ := h; rfl) | (obtain ⟨_, _, _, _, _, _, _, rfl, _⟩ := h; rfl) | (obtain ⟨_, _, _, _, _, _, _, _, rfl, _⟩ := h; rfl) | (obtain ⟨_, _, _, _, _, _, _, _, _, rfl, _⟩ := h; rfl) | (obtain ⟨_, _, _, _, _, _, _, _, _, _, rfl, _⟩ := h; rfl) | (obtain ⟨_, _, _, _, _, _, _, _, _, _, _, rfl, _⟩ := h; rfl)
  · refine ⟨_, PSs.nox (pss_cons (ps_asg (pe_tup (pa_cons pe_int (pa_cons pe_int pa_nil))) (pg_tup rfl (pgs_cons (pg_name (i := 2) sc_Heights_sum_of.nd rfl (Or.inl rfl)) (pgs_cons (pg_name (i := 3) sc_Heights_sum_of.nd rfl (Or.inr rfl)) pgs_nil))))
      (pss_cons (ps_while PassesOwn.never (PW.pt (pw_and (pt_cmpR op_le (pv 3) (pv 1) (nomark _)) (pw_and1 (pt_cmpR op_lt (pe_op op_mulW (pv 3) (pe_fldK (K := K) (pv 0) rfl)) (pe_fldK (K := K) (pe_fldK (K := K) (pv 0) rfl) rfl) (nomark _))))) (pss_cons (ps_aug (i := 2) sc_Heights_sum_of.nd rfl (Or.inl rfl) (pe_meth (pv 0) T.c_Heights T.m_Heights_times_of (ok_Heights_times_of T) (hr.mono (by decide)) (b_Heights_times_of T.d_Heights_times_of) .nil pass0 (pa_cons (pv 3) pa_nil)) ip_add)
      (pss_one (ps_aug (i := 3) sc_Heights_sum_of.nd rfl (Or.inr rfl) pe_int ip_add))))
      (pss_cons (ps_set (i := 4) sc_Heights_sum_of.nd rfl (Or.inl rfl) (pe_op op_add (pe_op op_sub (pv 1) (pv 3)) pe_int))
      (pss_cons (ps_if (pt_cmpR op_le (pv 4) pe_int (nomark _)) (pss_one (ps_ret (pv 2))) pss_nil)
      (pss_cons (ps_set (i := 5) sc_Heights_sum_of.nd rfl (Or.inl rfl) (pe_op op_fdivW (pe_fldK (K := K) (pe_fldK (K := K) (pv 0) rfl) rfl) (pe_call (ok_common_factor T) (hr.mono (by decide)) rfl T.g_common_factor T.d_common_factor.kp (b_common_factor T.d_common_factor) .nil pass0 (pa_cons (pe_fldK (K := K) (pv 0) rfl) (pa_cons (pe_fldK (K := K) (pe_fldK (K := K) (pv 0) rfl) rfl) pa_nil)))))
      (pss_cons (ps_setLc (i := 6) (own := [("turn", 7)]) rfl sc_Heights_sum_of.nd rfl rfl (sw_true rfl rfl rfl (by decide +kernel)) (pi_range1 (by rfl) T.n_range (pa_cons (pv 5) pa_nil)) (blkOk_by (N := N_Heights_sum_of) (sc := defScope s_Heights_sum_of) (by decide +kernel)) (fun _ _ _ _ _ => (pg_name (i := 7) sc_Heights_sum_of.nd rfl (Or.inl rfl))) (fun _ _ _ _ _ => pts_nil) (fun _ _ _ _ _ => (pe_meth (pv 0) T.c_Heights T.m_Heights_times_of (ok_Heights_times_of T) (hr.mono (by decide)) (b_Heights_times_of T.d_Heights_times_of) .nil pass0 (pa_cons (pe_op op_add (pv 3) (pv 7)) pa_nil))))
      (pss_one (ps_ret (pe_op op_add (pe_op op_add (pv 2) (pe_op op_mul (pe_op op_fdivW (pv 4) (pv 5)) (pe_callB (cr_sumK (K := K) rfl) (by rfl) T.n_sum (by decide +kernel) (pa_cons (pv 6) pa_nil)))) (pe_callB (cr_sumK (K := K) rfl) (by rfl) T.n_sum (by decide +kernel) (pa_cons (pe_slice (sl_listK (K := K)) (pv 6) po_none (po_some (pe_op op_mod (pv 4) (pv 5)))) pa_nil))))))))))), ?_⟩
    unfold sp_Heights_sum_of at h
    obtain ⟨h, p, w, first, pages, n, rfl, ht, ok, c, ⟨w0, w1⟩, hn, q⟩ := h
    obtain ⟨dx, a, h1, hpk⟩ := id ht
    obtain ⟨da, ta, la, h2, _, _⟩ := id hpk
    walk_at "rd"
    intro q0 n0
    generalize eH0 : upd _ q0 _ = H0
    obtain ⟨g0, c0⟩ := gen_new n0 eH0
    clear eH0
    walk_at "rd"
    refine ⟨fun m σ H' => ∃ (j : Nat), σ = [some (.ref h), some (.int n), some (.int (SW p w j)), some (.int ((j + 1 : Nat) : Int)), none, none, none, none] ∧ Same H0 H' ∧ j ≤ n ∧ m = n - j, ⟨_, 0, rfl, Same.refl _, Nat.zero_le _, rfl⟩, ?_⟩
    rintro m σ H' ⟨j, rfl, f, hj, rfl⟩
    have h1' := f _ _ (g0 _ _ h1)
    have h2' := f _ _ (g0 _ _ h2)
    have hp0 := c.pos
    have hp6 := c.le ok
    walk_at "rd"
    refine iteB (fun d => ?_) (fun d => ?_)
    · have d := of_decide_eq_true d
      have d : ((j + 1 : Nat) : Int) ≤ (n : Int) := d
      walk_at "rd"
      refine ⟨cmW (by omega) w1, ?_⟩
      walk_at "rd"
      refine iteB (fun e => ?_) (fun e => ?_)
      · refine ⟨fun σ' H'' => ∃ m', m' < n - j ∧ ∃ (j : Nat), σ' = [some (.ref h), some (.int n), some (.int (SW p w j)), some (.int ((j + 1 : Nat) : Int)), none, none, none, none] ∧ Same H0 H'' ∧ j ≤ n ∧ m' = n - j, fun _ _ h => h, ?_⟩
        walk_at "rd"
        refine use_times (k := j + 1) rfl (ht.same (g0.trans f)) ok c w1 (by omega) fun G1 g1 => ?_
        walk_at "rd"
        exact ⟨n - (j + 1), by omega, j + 1, rfl, f.trans g1, by omega, rfl⟩
      · have e := of_decide_eq_false e
        have e2 : first ≤ (j + 1) * w := by
          have e : ¬ ((j + 1 : Nat) : Int) * (w : Int) < (first : Int) := e
          rw [← Int.natCast_mul] at e
          omega
        walk_at "rd"
        refine ite2 (fun z => absurd (of_decide_eq_true z) (by omega)) (fun z => ?_)
        walk_at "rd"
        refine use_cf rfl rfl hp0 fun g hg hgw hgp => ?_
        obtain ⟨t, rfl⟩ := hgw
        obtain ⟨per, rfl⟩ := hgp
        have hper : 0 < per := Nat.pos_of_mul_pos_left hp0
        have hper6 : per ≤ 6 := by
          have := Nat.mul_le_mul_right per hg
          omega
        have hg6 : g ≤ 6 := by
          have := Nat.mul_le_mul_left g hper
          omega
        walk_at "rd"
        have eper : ((g * per : Nat) : Int) / (g : Int) = (per : Int) := by
          rw [← Int.natCast_ediv, Nat.mul_div_cancel_left per hg]
        refine ⟨by rw [eper]; omega, by rw [eper]; omega, ?_⟩
        intro D nD
        have hqw : per * (g * t) = t * (g * per) := by rw [Nat.mul_comm g t, ← Nat.mul_assoc, Nat.mul_comm per t, Nat.mul_assoc, Nat.mul_comm per g]
        refine lc_range (lo := 0) (n := Int.toNat _) (fun i G => G D = some (.lst ((sgL p (g * t) (j + 1) i).map V.int)) ∧ SX [D] H' G) ⟨upd_same, SX.refl.mut nD⟩ ?_ ?_
        · rintro i G hi ⟨hD, fx⟩
          refine ⟨rfl, ?_⟩
          have sG : Same H' G := fun b o ho => fx _ _ (by simp [ne_of_none ho nD]) ho
          walk_at "rd"
          refine use_times (k := j + 1 + i) (by omega) (ht.same ((g0.trans f).trans sG)) ok c w1 (by omega) fun G1 g1 => ?_
          have hD1 := g1 _ _ hD
          refine ⟨_, hD1, szlt (by rw [List.length_map, sgL_len]; omega), ?_, (fx.trans g1.sx).upd (by simp)⟩
          rw [upd_same, sgL_succ, List.map_append]
          rfl
        · rintro G ⟨hD, fx⟩
          rw [show Int.toNat (((g * per : Nat) : Int) / (g : Int)) = per by rw [eper]; rfl] at hD
          have sG : Same H' G := fun b o ho => fx _ _ (by simp [ne_of_none ho nD]) ho
          walk_at "rd"
          refine ⟨_, _, rfl, SqL.of hD, ?_⟩
          have hb1 := seg_bd ok w0 (j + 1) per
          have en : (n : Int) - ((j + 1 : Nat) : Int) + 1 = ((n - j : Nat) : Int) := by omega
          rw [sgL_sum]
          walk_at "rd"
          have em : ((n : Int) - ((j + 1 : Nat) : Int) + 1) % (((g * per : Nat) : Int) / (g : Int)) = (((n - j) % per : Nat) : Int) := by rw [en, eper]; rfl
          have ed : ((n : Int) - ((j + 1 : Nat) : Int) + 1) / (((g * per : Nat) : Int) / (g : Int)) = (((n - j) / per : Nat) : Int) := by rw [en, eper]; rfl
          rw [em]
          have hm : (n - j) % per < per := Nat.mod_lt _ hper
          refine use_sl (lo := none) (hi := some (((n - j) % per : Nat) : Int)) (ys := (sgL p (g * t) (j + 1) ((n - j) % per)).map V.int) (SqL.of hD) (by rw [cut_to, ← List.map_take, sgL_take p _ _ (Nat.le_of_lt hm)]) fun q1 G1 n1 g1 c1 => ?_
          walk_at "rd"
          refine ⟨_, _, rfl, SqL.of c1, ?_⟩
          have fin := q G1 ((((g0.trans f).trans sG)).trans g1)
          rw [show n = j + (n - j) by omega, SW_seg, seg_div ok c e2 hqw (n - j)] at fin
          rw [sgL_sum]
          walk_at "rd"
          show Q (.int (SW p (g * t) j + ((n : Int) - ((j + 1 : Nat) : Int) + 1) / (((g * per : Nat) : Int) / (g : Int)) * seg p (g * t) (j + 1) per + seg p (g * t) (j + 1) ((n - j) % per))) G1
          rw [ed]
          rw [← Int.add_assoc] at fin
          exact fin
    · have d := of_decide_eq_false d
      have d : ¬ ((j + 1 : Nat) : Int) ≤ (n : Int) := d
      have ejn : j = n := by omega
      subst ejn
      walk_at "rd"
      refine ite2 (fun z => ?_) (fun z => absurd (decide_eq_true (show (j : Int) - ((j + 1 : Nat) : Int) + 1 ≤ 0 by omega)) z)
      walk_at "rd"
      exact q H' (g0.trans f)

@[irreducible] def sp_Heights_init (K : PySem.W.Frag) : Sp := fun vs H Q _ => ∃ (h dx b : Addr) (p : Prt) (l : Nat), vs = [.ref h, .ref b, .int l] ∧ H h = some (.ins (He.ga K "Heights") dx []) ∧ SetAt K H b p ∧ p.Ok ∧ (1 ≤ l ∧ l ≤ 320) ∧
  ∀ H' first pages, SB h H H' → Cyc p first pages → HtAt K H' h p (p.fan.toNat ^ (l - 1)) first pages → Q .non H'
theorem use_hts_init {K : PySem.W.Frag} {h dx b : Addr} {p : Prt} {l : Nat} {H : Hp} {Q : VK} {E : XK} {i : Int} (hi : i = (l : Int)) (h1 : H h = some (.ins (He.ga K "Heights") dx [])) (hb : SetAt K H b p) (ok : p.Ok) (hl : 1 ≤ l ∧ l ≤ 320)
  (k : ∀ H' first pages, SB h H H' → Cyc p first pages → HtAt K H' h p (p.fan.toNat ^ (l - 1)) first pages → Q .non H') : sp_Heights_init K [.ref h, .ref b, .int i] H Q E := by subst hi; unfold sp_Heights_init; exact ⟨h, dx, b, p, l, rfl, h1, hb, ok, hl, k⟩
theorem fan_pow {p : Prt} (ok : p.Ok) (k : Nat) : p.fan ^ k = ((p.fan.toNat ^ k : Nat) : Int) := by
  rw [Int.natCast_pow, Int.toNat_of_nonneg (by have := ok.f; omega)]
theorem fan_pos {p : Prt} (ok : p.Ok) (k : Nat) : 0 < p.fan.toNat ^ k := Nat.pow_pos (by have := ok.f; omega)
theorem fan_big {p : Prt} (ok : p.Ok) {k : Nat} (h : k ≤ 330) : p.fan.toNat ^ k < BIG :=
  Nat.lt_of_le_of_lt (Nat.le_trans (Nat.pow_le_pow_left (show p.fan.toNat ≤ 8 by have := ok.f; omega) k) (Nat.pow_le_pow_right (by decide) h)) (by decide +kernel)
theorem b_Heights___init__ {K : PySem.W.Frag} {fd : FuncData} (F : F_Heights___init__ K fd) : Binds K fd P_Heights___init__ [] := FunD.bindsN F fun _ _ _ _ _ _ us hl => match us, hl with | [_, _, _], _ => rfl
theorem ok_Heights___init__ (T : Txt K mg D) : FnOk P w K mg base CX0 5 (He.fAd K ("Heights", some "__init__")) (D D_Heights___init__) P_Heights___init__ (sp_Heights_init K) := by
  refine T.d_Heights___init__.ok sc_Heights___init__ (fun vs H Q E h => ?_) (fun cdv A outer s H vs Q E hr h => ?_)
  · unfold sp_Heights_init at h
    first | (obtain ⟨rfl, _⟩ := h; rfl) | (obtain ⟨_, rfl, _⟩ := h; rfl) | (obtain ⟨_, _, rfl, _⟩ := h; rfl) | (obtain ⟨_, _, _, rfl, _⟩ := h; rfl) | (obtain ⟨_, _, _, _, rfl, _⟩ := h; rfl) | (obtain ⟨_, _, _, _, _, rfl, _⟩ := h; rfl) | (obtain ⟨_, _, _, _, _, _, rfl, _⟩ := h; rfl) | (obtain ⟨_, _, _, _, _, _, _, rfl, _⟩ := h; rfl) | (obtain ⟨_, _, _, _, _, _, _, _, rfl, _⟩ := h; rfl) | (obtain ⟨_, _, _, _, _, _, _, _, _, rfl, _⟩ := h; rfl) | (obtain ⟨_, _, _, _, _, _, _, _, _, _, rfl, _⟩ := h; rfl) | (obtain ⟨_, _, _, _, _, _, _, _, _, _, _, rfl, _⟩ := h; rfl)
  · refine ⟨_, PSs.nox (pss_cons (ps_fld (pv 0) (pe_make T.mk_Packing (ok_Packing___init__ T) (hr.mono (by decide)) rfl T.g_Packing (b_Packing___init__ T.d_Packing___init__) .nil pass0 (pa_cons (pv 1) pa_nil)) rfl)
      (pss_cons (ps_fld (pv 0) (pe_op op_sub (pe_fldK (K := K) (pv 1) rfl) pe_int) rfl)
      (pss_one (ps_fld (pv 0) (pe_call (ok_multiplied T) (hr.mono (by decide)) rfl T.g_multiplied T.d_multiplied.kp (b_multiplied T.d_multiplied) .nil pass0 (pa_cons (pe_fldK (K := K) (pv 1) rfl) (pa_cons (pe_op op_sub (pv 2) pe_int) pa_nil))) rfl)))), ?_⟩
    unfold sp_Heights_init at h
    obtain ⟨h, dx, b, p, l, rfl, h1, hs, ok, ⟨l1, l2⟩, k⟩ := h
    obtain ⟨dy, t, hb, ht⟩ := id hs
    have nbh : b ≠ h := ne_of hb h1 (by intro z; injection z with _ _ z3; cases z3)
    have nth : t ≠ h := ne_of ht h1 (by intro z; cases z)
    walk_at "rd"
    intro e de n1 nde nee
    generalize eH1 : upd (upd _ de _) e _ = H1
    obtain ⟨g1, c1⟩ := gen_mk n1 nde eH1
    clear eH1
    refine use_packing_init c1 (hs.same g1) ok fun H2 first pages s2 cyc hpk _ => ?_
    have g12 := same_sb_new g1 s2 n1
    have h12 := g12 _ _ h1
    have hb2 := g12 _ _ hb
    walk_at "rd"
    generalize eH3 : upd _ _ _ = H3
    obtain ⟨g3, c3⟩ := gen_st eH3
    clear eH3
    try simp only [pf_Settings_0, pf_Settings_1, pf_Settings_2, pf_Settings_3, pf_Settings_4, pf_Settings_5, pf_Packing_0, pf_Packing_1, pf_Packing_2, pf_Packing_3, pf_Packing_4, pf_Packing_5, pf_Heights_0, pf_Heights_1, pf_Heights_2] at c3
    have hb3 := g3 _ _ nbh hb2
    walk_at "rd"
    generalize eH4 : upd _ _ _ = H4
    obtain ⟨g4, c4⟩ := gen_st eH4
    clear eH4
    try simp only [pf_Settings_0, pf_Settings_1, pf_Settings_2, pf_Settings_3, pf_Settings_4, pf_Settings_5, pf_Packing_0, pf_Packing_1, pf_Packing_2, pf_Packing_3, pf_Packing_4, pf_Packing_5, pf_Heights_0, pf_Heights_1, pf_Heights_2] at c4
    have hb4 := g4 _ _ nbh hb3
    have hf := ok.f
    walk_at "rd"
    refine use_mult (k := l - 1) (by omega) (by omega) (by omega) ?_
    walk_at "rd"
    generalize eH5 : upd _ _ _ = H5
    obtain ⟨g5, c5⟩ := gen_st eH5
    clear eH5
    try simp only [pf_Settings_0, pf_Settings_1, pf_Settings_2, pf_Settings_3, pf_Settings_4, pf_Settings_5, pf_Packing_0, pf_Packing_1, pf_Packing_2, pf_Packing_3, pf_Packing_4, pf_Packing_5, pf_Heights_0, pf_Heights_1, pf_Heights_2] at c5
    walk_at "rd"
    obtain ⟨da, ta, la, p1, p2, p3⟩ := id hpk
    have neh : e ≠ h := (ne_of_none h1 n1).symm
    have nte : ta ≠ h := ne_of p2 h12 (by intro z; cases z)
    have nle : la ≠ h := ne_of p3 h12 (by intro z; cases z)
    have s25 : SB h H2 H5 := (g3.trans g4).trans g5
    rw [fan_pow ok] at c5
    exact k H5 first pages ((g12.sb).trans s25) cyc ⟨dx, e, c5, da, ta, la, s25 _ _ neh p1, s25 _ _ nte p2, s25 _ _ nle p3⟩

@[irreducible] def sp_Heights_count (K : PySem.W.Frag) : Sp := fun vs H Q _ => ∃ (h : Addr) (p : Prt) (w first pages m : Nat), vs = [.ref h, .int m] ∧ HtAt K H h p w first pages ∧ p.Ok ∧ Cyc p first pages ∧ (0 < w ∧ w < BIG) ∧ m ≤ 2000000000000000000000000000000 ∧ ∀ H', Same H H' → Q (.int (cnt (hiW p w) m)) H'
theorem use_count {K : PySem.W.Frag} {h : Addr} {p : Prt} {w first pages m : Nat} {H : Hp} {Q : VK} {E : XK} {i : Int} (hi : i = (m : Int)) (a : HtAt K H h p w first pages) (ok : p.Ok) (c : Cyc p first pages) (hw : 0 < w ∧ w < BIG) (hk : m ≤ 2000000000000000000000000000000) (q : ∀ H', Same H H' → Q (.int (cnt (hiW p w) m)) H') :
  sp_Heights_count K [.ref h, .int i] H Q E := by subst hi; unfold sp_Heights_count; exact ⟨h, p, w, first, pages, m, rfl, a, ok, c, hw, hk, q⟩
theorem b_Heights_count {K : PySem.W.Frag} {fd : FuncData} (F : F_Heights_count K fd) : Binds K fd P_Heights_count [] := FunD.bindsN F fun _ _ _ _ _ _ us hl => match us, hl with | [_, _], _ => rfl
theorem ok_Heights_count (T : Txt K mg D) : FnOk P w K mg base CX0 5 (He.fAd K ("Heights", some "count")) (D D_Heights_count) P_Heights_count (sp_Heights_count K) := by
  refine T.d_Heights_count.ok sc_Heights_count (fun vs H Q E h => ?_) (fun cdv A outer s H vs Q E hr h => ?_)
  · unfold sp_Heights_count at h
    first | (obtain ⟨rfl, _⟩ := h; rfl) | (obtain ⟨_, rfl, _⟩ := h; rfl) | (obtain ⟨_, _, rfl, _⟩ := h; rfl) | (obtain ⟨_, _, _, rfl, _⟩ := h; rfl) | (obtain ⟨_, _, _, _, rfl, _⟩ := h; rfl) | (obtain ⟨_, _, _, _, _, rfl, _⟩ := h; rfl) | (obtain ⟨_, _, _, _, _, _, rfl, _⟩ := h; rfl) | (obtain ⟨_, _, _, _, _, _, _, rfl, _⟩ := h; rfl) | (obtain ⟨_, _, _, _, _, _, _, _, rfl, _⟩ := h; rfl) | (obtain ⟨_, _, _, _, _, _, _, _, _, rfl, _⟩ := h; rfl) | (obtain ⟨_, _, _, _, _, _, _, _, _, _, rfl, _⟩ := h; rfl) | (obtain ⟨_, _, _, _, _, _, _, _, _, _, _, rfl, _⟩ := h; rfl)
  · refine ⟨_, PSs.nox (pss_cons (ps_set (i := 2) sc_Heights_count.nd rfl (Or.inl rfl) (pe_meth (pv 0) T.c_Heights T.m_Heights_borders (ok_Heights_borders T) (hr.mono (by decide)) (b_Heights_borders T.d_Heights_borders) .nil pass0 (pa_cons (pe_op op_sub (pv 1) pe_int) pa_nil)))
      (pss_cons (ps_if (pt_cmpR op_eq (pv 2) pe_int (nomark _)) (pss_one (ps_ret pe_int)) pss_nil)
      (pss_one (ps_ret (pe_op op_add (pe_meth (pv 0) T.c_Heights T.m_Heights_sum_of (ok_Heights_sum_of T) (hr.mono (by decide)) (b_Heights_sum_of T.d_Heights_sum_of) .nil pass0 (pa_cons (pe_op op_sub (pv 2) pe_int) pa_nil)) (pe_callB (call_min2 rfl) (by rfl) T.n_min (by decide +kernel) (pa_cons (pe_fldK (K := K) (pv 0) rfl) (pa_cons (pe_op op_sub (pe_op op_sub (pv 1) pe_int) (pe_meth (pv 0) T.c_Heights T.m_Heights_border_start (ok_Heights_border_start T) (hr.mono (by decide)) (b_Heights_border_start T.d_Heights_border_start) .nil pass0 (pa_cons (pv 2) pa_nil))) pa_nil)))))))), ?_⟩
    unfold sp_Heights_count at h
    obtain ⟨h, p, w, first, pages, m, rfl, ht, ok, c, hw, hm, q⟩ := h
    obtain ⟨dx, a, h1, hpk⟩ := id ht
    walk_at "rd"
    refine use_borders ht ok c hw fun G1 g1 => ?_
    have h11 := g1 _ _ h1
    rw [cnt_f ok hw.1] at q
    unfold fW at q
    by_cases h2 : m < 2
    · rw [if_pos h2] at q
      rw [if_neg (by omega)]
      walk_at "rd"
      exact q G1 g1
    · rw [if_neg h2] at q
      rw [if_pos (by omega), show ((m : Int) - 2).toNat = m - 2 by omega]
      have hle : pgN p (m - 2) / w ≤ m := Nat.le_trans (Nat.div_le_self _ _) (Nat.le_trans (pgN_le ok _) (by omega))
      generalize pgN p (m - 2) / w = n at q hle ⊢
      walk_at "rd"
      refine ite2 (fun z => ?_) (fun z => ?_)
      · have z := dvi z
        have z : n = 0 := by omega
        rw [if_pos z] at q
        walk_at "rd"
        exact q G1 g1
      · have z := dvn z
        have z : ¬ n = 0 := by omega
        rw [if_neg z] at q
        walk_at "rd"
        refine use_sum_of (n := n - 1) (by omega) (ht.same g1) ok c hw (by omega) fun G2 g2 => ?_
        have h12 := g2 _ _ h11
        walk_at "rd"
        refine use_bstart rfl ((ht.same g1).same g2) ok c hw.2 (by omega) fun G3 g3 => ?_
        walk_at "rd"
        exact q G3 ((g1.trans g2).trans g3)

/-- the least moment from m on of the border, or none at all -/
def NxW (P : Nat → Prop) (m : Nat) (v : V) : Prop := (v = .non ∧ ∀ j, ¬ P j) ∨ ∃ r : Nat, v = .int r ∧ m ≤ r ∧ P r ∧ ∀ j, m ≤ j → j < r → ¬ P j
theorem hi_none {p : Prt} (ok : p.Ok) {w : Nat} (hw : 0 < w) (h : p.keep = 1) (j : Nat) : ¬ hiW p w j := fun ⟨h1, h2, h3⟩ => by
  have := (bn_iff ok (n := pgN p (j - 1) / w) (r := j - 1) hw).mp (Nat.le_refl _)
  rw [h] at h3
  have : (1 : Int).toNat = 1 := rfl
  omega
@[irreducible] def sp_Heights_next_one (K : PySem.W.Frag) : Sp := fun vs H Q _ => ∃ (h : Addr) (p : Prt) (w first pages m : Nat), vs = [.ref h, .int m] ∧ HtAt K H h p w first pages ∧ p.Ok ∧ Cyc p first pages ∧ (0 < w ∧ w < BIG) ∧ m ≤ 2000000000000000000000000000000 ∧ ∀ v H', Same H H' → NxW (hiW p w) m v → Q v H'
theorem use_next_one {K : PySem.W.Frag} {h : Addr} {p : Prt} {w first pages m : Nat} {H : Hp} {Q : VK} {E : XK} {i : Int} (hi : i = (m : Int)) (a : HtAt K H h p w first pages) (ok : p.Ok) (c : Cyc p first pages) (hw : 0 < w ∧ w < BIG) (hk : m ≤ 2000000000000000000000000000000) (q : ∀ v H', Same H H' → NxW (hiW p w) m v → Q v H') :
  sp_Heights_next_one K [.ref h, .int i] H Q E := by subst hi; unfold sp_Heights_next_one; exact ⟨h, p, w, first, pages, m, rfl, a, ok, c, hw, hk, q⟩
theorem nx_far {p : Prt} (ok : p.Ok) {w m n : Nat} (hw : 0 < w) (hk : 2 ≤ p.keep) (h1 : m = 0 ∨ sW p w n ≤ m - 1) (h2 : m - 1 < sW p w (n + 1)) (h0 : n = 0 ∨ 1 ≤ m) (h3 : n = 0 ∨ ¬ (m : Int) - (sW p w n : Int) ≤ p.keep - 1) : NxW (hiW p w) m (.int ((sW p w (n + 1) + 1 : Nat) : Int)) := by
  have s0 : sW p w 0 = 0 := by unfold sW; rw [Nat.zero_mul]; rfl
  refine .inr ⟨_, rfl, by omega, ⟨by omega, ?_, ?_⟩, fun j hj hr ⟨p1, p2, p3⟩ => ?_⟩
  · exact (bn_iff ok hw).mpr (by rw [show sW p w (n + 1) + 1 - 1 = sW p w (n + 1) by omega]; have := sW_lt ok hw 0; have := start_mono ok (show 1 * w ≤ (n + 1) * w from Nat.mul_le_mul_right w (by omega)); unfold sW at *; omega)
  · have := (bn_iff ok (n := n + 1) (r := sW p w (n + 1) + 1 - 1) hw).mpr (by omega)
    have := start_mono ok (Nat.mul_le_mul_right w this)
    unfold sW at *
    omega
  · have e : pgN p (j - 1) / w = n := by
      have a1 := (bn_iff ok (n := n) (r := j - 1) hw).mpr (by
        rcases h0 with h0 | h0
        · rw [h0, s0]; omega
        · rcases h1 with h1 | h1 <;> omega)
      have a2 : ¬ n + 1 ≤ pgN p (j - 1) / w := fun z => by
        have := (bn_iff ok (n := n + 1) (r := j - 1) hw).mp z
        omega
      omega
    rw [e] at p2 p3
    rcases h3 with h3 | h3 <;> omega
theorem b_Heights_next_one {K : PySem.W.Frag} {fd : FuncData} (F : F_Heights_next_one K fd) : Binds K fd P_Heights_next_one [] := FunD.bindsN F fun _ _ _ _ _ _ us hl => match us, hl with | [_, _], _ => rfl
theorem ok_Heights_next_one (T : Txt K mg D) : FnOk P w K mg base CX0 3 (He.fAd K ("Heights", some "next_one")) (D D_Heights_next_one) P_Heights_next_one (sp_Heights_next_one K) := by
  refine T.d_Heights_next_one.ok sc_Heights_next_one (fun vs H Q E h => ?_) (fun cdv A outer s H vs Q E hr h => ?_)
  · unfold sp_Heights_next_one at h
    first | (obtain ⟨rfl, _⟩ := h; rfl) | (obtain ⟨_, rfl, _⟩ := h; rfl) | (obtain ⟨_, _, rfl, _⟩ := h; rfl) | (obtain ⟨_, _, _, rfl, _⟩ := h; rfl) | (obtain ⟨_, _, _, _, rfl, _⟩ := h; rfl) | (obtain ⟨_, _, _, _, _, rfl, _⟩ := h; rfl) | (obtain ⟨_, _, _, _, _, _, rfl, _⟩ := h; rfl) | (obtain ⟨_, _, _, _, _, _, _, rfl, _⟩ := h; rfl) | (obtain ⟨_, _, _, _, _, _, _, _, rfl, _⟩ := h; rfl) | (obtain ⟨_, _, _, _, _, _, _, _, _, rfl, _⟩ := h; rfl) | (obtain ⟨_, _, _, _, _, _, _, _, _, _, rfl, _⟩ := h; rfl) | (obtain ⟨_, _, _, _, _, _, _, _, _, _, _, rfl, _⟩ := h; rfl)
  · refine ⟨_, PSs.nox (pss_cons (ps_if (pt_cmpR op_eq (pe_fldK (K := K) (pv 0) rfl) pe_int (nomark _)) (pss_one (ps_ret pe_non)) pss_nil)
      (pss_cons (ps_set (i := 2) sc_Heights_next_one.nd rfl (Or.inl rfl) (pe_meth (pv 0) T.c_Heights T.m_Heights_borders (ok_Heights_borders T) (hr.mono (by decide)) (b_Heights_borders T.d_Heights_borders) .nil pass0 (pa_cons (pe_op op_sub (pv 1) pe_int) pa_nil)))
      (pss_cons (ps_if (PW.pt (pw_and (pt_cmpR op_gt (pv 2) pe_int (nomark _)) (pw_and1 (pt_cmpR op_le (pe_op op_sub (pv 1) (pe_meth (pv 0) T.c_Heights T.m_Heights_border_start (ok_Heights_border_start T) (hr.mono (by decide)) (b_Heights_border_start T.d_Heights_border_start) .nil pass0 (pa_cons (pv 2) pa_nil))) (pe_fldK (K := K) (pv 0) rfl) (nomark _))))) (pss_one (ps_ret (pv 1))) pss_nil)
      (pss_one (ps_ret (pe_op op_add (pe_meth (pv 0) T.c_Heights T.m_Heights_border_start (ok_Heights_border_start T) (hr.mono (by decide)) (b_Heights_border_start T.d_Heights_border_start) .nil pass0 (pa_cons (pe_op op_add (pv 2) pe_int) pa_nil)) pe_int)))))), ?_⟩
    unfold sp_Heights_next_one at h
    obtain ⟨h, p, w, first, pages, m, rfl, ht, ok, c, hw, hm, q⟩ := h
    obtain ⟨dx, a, h1, hpk⟩ := id ht
    have hk := ok.k
    walk_at "rd"
    refine ite2 (fun z => ?_) (fun z => ?_)
    · have z := dvi z
      walk_at "rd"
      exact q _ H (Same.refl H) (.inl ⟨rfl, hi_none ok hw.1 (by omega)⟩)
    · have z := dvn z
      walk_at "rd"
      refine use_borders ht ok c hw fun G1 g1 => ?_
      have h11 := g1 _ _ h1
      have s0 : sW p w 0 = 0 := by unfold sW; rw [Nat.zero_mul]; rfl
      obtain ⟨n, en, hn1, hn2, hn3, hn4⟩ : ∃ n : Nat, (if (0 : Int) ≤ (m : Int) - 1 then ((pgN p ((m : Int) - 1).toNat / w : Nat) : Int) else 0) = (n : Int) ∧ (m = 0 ∨ sW p w n ≤ m - 1) ∧ m - 1 < sW p w (n + 1) ∧ (n = 0 ∨ 1 ≤ m) ∧ (n ≤ m ∧ (1 ≤ m → n = pgN p (m - 1) / w)) := by
        by_cases h0 : m = 0
        · subst h0
          exact ⟨0, by rw [if_neg (by omega)]; rfl, .inl rfl, by have := sW_lt ok hw.1 0; omega, .inl rfl, Nat.le_refl _, fun z => absurd z (by omega)⟩
        · refine ⟨pgN p (m - 1) / w, ?_, .inr ((bn_iff ok hw.1).mp (Nat.le_refl _)), ?_, .inr (by omega), Nat.le_trans (Nat.div_le_self _ _) (Nat.le_trans (pgN_le ok _) (by omega)), fun _ => rfl⟩
          · rw [if_pos (by omega), show ((m : Int) - 1).toNat = m - 1 by omega]
          · by_cases z : sW p w (pgN p (m - 1) / w + 1) ≤ m - 1
            · have := (bn_iff ok hw.1).mpr z
              omega
            · omega
      rw [en]
      walk_at "rd"
      refine iteB (fun d => ?_) (fun d => ?_)
      · have d := of_decide_eq_true d
        have d : (n : Int) > 0 := d
        walk_at "rd"
        refine use_bstart rfl (ht.same g1) ok c hw.2 (by omega) fun G2 g2 => ?_
        have h12 := g2 _ _ h11
        walk_at "rd"
        refine ite2 (fun e => ?_) (fun e => ?_)
        · have e := of_decide_eq_true e
          walk_at "rd"
          refine q _ G2 (g1.trans g2) (.inr ⟨m, rfl, Nat.le_refl _, ⟨by omega, ?_, ?_⟩, fun j a b => by omega⟩)
          · rw [← hn4.2 (by omega)]; omega
          · rw [← hn4.2 (by omega)]; omega
        · have e := dcn e
          walk_at "rd"
          refine use_bstart (k := n + 1) (by omega) ((ht.same g1).same g2) ok c hw.2 (by omega) fun G3 g3 => ?_
          walk_at "rd"
          exact q _ G3 ((g1.trans g2).trans g3) (nx_far ok hw.1 (by omega) hn1 hn2 hn3 (.inr e))
      · have d := of_decide_eq_false d
        have d : ¬ (n : Int) > 0 := d
        have hn0 : n = 0 := by omega
        subst hn0
        walk_at "rd"
        refine use_bstart (k := 0 + 1) (by omega) (ht.same g1) ok c hw.2 (by omega) fun G3 g3 => ?_
        walk_at "rd"
        exact q _ G3 (g1.trans g3) (nx_far ok hw.1 (by omega) hn1 hn2 hn3 (.inl rfl))

/-- the first row that is kept -/
def kbN (p : Prt) (m : Nat) : Nat := m - p.keep.toNat
theorem kb_max {p : Prt} (ok : p.Ok) (m : Nat) : (if (m : Int) - p.keep > 0 then (m : Int) - p.keep else 0) = (kbN p m : Int) := by
  have := ok.k
  unfold kbN
  split <;> omega
theorem kb_le {p : Prt} (ok : p.Ok) (m : Nat) : kbN p m ≤ m ∧ m ≤ kbN p m + 100 := by
  have := ok.k
  unfold kbN
  omega
theorem kb_eq {p : Prt} (ok : p.Ok) (m : Nat) : kbN p m = m ↔ m = 0 := by
  have := ok.k
  unfold kbN
  omega
theorem least_ex {P : Nat → Prop} : ∀ n, P n → ∃ m, m ≤ n ∧ P m ∧ ∀ i, i < m → ¬ P i := by
  intro n
  induction n using Nat.strongRecOn with
  | ind n ih =>
    intro h
    by_cases c : ∃ i, i < n ∧ P i
    · obtain ⟨i, hi, hp⟩ := c
      obtain ⟨m, h1, h2, h3⟩ := ih i hi hp
      exact ⟨m, by omega, h2, h3⟩
    · exact ⟨n, Nat.le_refl n, h, fun i hi hp => c ⟨i, hi, hp⟩⟩
def IsHt (f b e L : Nat) : Prop := 1 ≤ L ∧ b / f ^ L = e / f ^ L ∧ ∀ i, 1 ≤ i → i < L → b / f ^ i ≠ e / f ^ i
theorem IsHt.uniq {f b e L M : Nat} (h : IsHt f b e L) (k : IsHt f b e M) : L = M := by
  by_cases c : L < M
  · exact absurd h.2.1 (k.2.2 L h.1 c)
  · by_cases d : M < L
    · exact absurd k.2.1 (h.2.2 M k.1 d)
    · omega
theorem pow_gt {f : Nat} (hf : 2 ≤ f) : ∀ n, n < f ^ n
  | 0 => by simp
  | n + 1 => by
    have := pow_gt hf n
    have h2 := Nat.mul_le_mul_left (f ^ n) hf
    rw [Nat.pow_succ]
    omega
theorem isht_ex {f b e : Nat} (hf : 2 ≤ f) (hb : b ≤ e) : ∃ L, IsHt f b e L ∧ L ≤ e + 1 := by
  have z : ∀ x, x ≤ e → x / f ^ (e + 1) = 0 := fun x hx => Nat.div_eq_of_lt (by have := pow_gt hf (e + 1); omega)
  obtain ⟨m, h1, h2, h3⟩ := least_ex (P := fun L => 1 ≤ L ∧ b / f ^ L = e / f ^ L) (e + 1) ⟨by omega, by rw [z b hb, z e (Nat.le_refl _)]⟩
  exact ⟨m, ⟨h2.1, h2.2, fun i hi hm he => h3 i hm ⟨hi, he⟩⟩, h1⟩
/-- the height behind so many rows -/
noncomputable def ht (p : Prt) (j : Nat) : Nat := open Classical in if j = 0 then 0 else if h : ∃ L, IsHt p.fan.toNat (pgN p (kbN p j)) (pgN p (j - 1)) L then h.choose else 0
theorem fan2 {p : Prt} (ok : p.Ok) : 2 ≤ p.fan.toNat := by have := ok.f; omega
theorem kb_pg {p : Prt} (ok : p.Ok) {j : Nat} (h : 1 ≤ j) : pgN p (kbN p j) ≤ pgN p (j - 1) := pgN_mono ok (by have := ok.k; unfold kbN; omega)
theorem ht_is {p : Prt} (ok : p.Ok) {j : Nat} (h : 1 ≤ j) : IsHt p.fan.toNat (pgN p (kbN p j)) (pgN p (j - 1)) (ht p j) := by
  obtain ⟨L, hL, _⟩ := isht_ex (fan2 ok) (kb_pg ok h)
  unfold ht
  rw [if_neg (by omega), dif_pos ⟨L, hL⟩]
  exact Exists.choose_spec (p := fun L => IsHt p.fan.toNat (pgN p (kbN p j)) (pgN p (j - 1)) L) ⟨L, hL⟩
theorem ht_zero (p : Prt) : ht p 0 = 0 := by unfold ht; rw [if_pos rfl]
theorem ht_small {p : Prt} (ok : p.Ok) {j : Nat} (h : j ≤ 1000000000000000000000000000001) : ht p j ≤ 101 := by
  by_cases h0 : j = 0
  · subst h0; rw [ht_zero]; omega
  · have hi := ht_is ok (show 1 ≤ j by omega)
    by_cases c : ht p j ≤ 101
    · exact c
    · have hne := hi.2.2 101 (by omega) (by omega)
      have hle := kb_pg ok (show 1 ≤ j by omega)
      have hb : pgN p (j - 1) < p.fan.toNat ^ 101 := by
        have h1 := pgN_le ok (j - 1)
        have h2 := Nat.pow_le_pow_left (fan2 ok) 101
        have h3 : 1000000000000000000000000000001 < 2 ^ 101 := by decide
        omega
      rw [Nat.div_eq_of_lt hb, Nat.div_eq_of_lt (Nat.lt_of_le_of_lt hle hb)] at hne
      exact absurd rfl hne
def GE (p : Prt) (l j : Nat) : Prop := if l = 1 then 1 ≤ j else hiW p (p.fan.toNat ^ (l - 1)) j
theorem ge_one (p : Prt) : GE p 1 = fun j => 1 ≤ j := by funext j; unfold GE; rw [if_pos rfl]
theorem ge_fun (p : Prt) {l : Nat} (h : l ≠ 1) : GE p l = hiW p (p.fan.toNat ^ (l - 1)) := by funext j; unfold GE; rw [if_neg h]
theorem ge_ht {p : Prt} (ok : p.Ok) {l : Nat} (hl : 1 ≤ l) (j : Nat) : GE p l j ↔ l ≤ ht p j := by
  by_cases h1 : l = 1
  · subst h1
    rw [ge_one]
    by_cases h0 : j = 0
    · subst h0; rw [ht_zero]
    · have := (ht_is ok (show 1 ≤ j by omega)).1
      exact ⟨fun _ => this, fun _ => by omega⟩
  · rw [ge_fun p h1]
    by_cases h0 : j = 0
    · subst h0
      rw [ht_zero]
      exact ⟨fun h => absurd h.1 (by omega), fun h => by omega⟩
    · have hj : 1 ≤ j := by omega
      have hi := ht_is ok hj
      have hW := fan_pos ok (l - 1)
      have key : l ≤ ht p j ↔ pgN p (kbN p j) / p.fan.toNat ^ (l - 1) ≠ pgN p (j - 1) / p.fan.toNat ^ (l - 1) := by
        constructor
        · intro h
          exact hi.2.2 (l - 1) (by omega) (by omega)
        · intro h
          by_cases c : l ≤ ht p j
          · exact c
          · refine absurd ?_ h
            obtain ⟨d, hd⟩ : ∃ d, l - 1 = ht p j + d := ⟨l - 1 - ht p j, by omega⟩
            rw [hd, Nat.pow_add, ← Nat.div_div_eq_div_mul, ← Nat.div_div_eq_div_mul, hi.2.1]
      rw [key]
      have hle := Nat.div_le_div_right (c := p.fan.toNat ^ (l - 1)) (kb_pg ok hj)
      have hbn := bn_iff ok (n := pgN p (j - 1) / p.fan.toNat ^ (l - 1)) (r := kbN p j) hW
      have hk := ok.k
      have s0 : sW p (p.fan.toNat ^ (l - 1)) 0 = 0 := by unfold sW; rw [Nat.zero_mul]; rfl
      unfold hiW
      generalize hn : pgN p (j - 1) / p.fan.toNat ^ (l - 1) = n at hle hbn ⊢
      generalize pgN p (kbN p j) / p.fan.toNat ^ (l - 1) = n0 at hle hbn ⊢
      have hpos : 1 ≤ n → 1 ≤ sW p (p.fan.toNat ^ (l - 1)) n := fun h => by
        have a1 := sW_lt ok hW 0
        have a2 := start_mono ok (Nat.mul_le_mul_right (p.fan.toNat ^ (l - 1)) h)
        unfold sW at *
        rw [Nat.zero_add] at a1
        omega
      unfold kbN at hbn
      constructor
      · rintro ⟨_, h2, h3⟩ he
        have := hbn.mp (by omega)
        have := hpos h2
        omega
      · intro hne
        have hlt : ¬ n ≤ n0 := by omega
        have h2 : ¬ sW p (p.fan.toNat ^ (l - 1)) n ≤ j - p.keep.toNat := fun z => hlt (hbn.mpr z)
        by_cases z : n = 0
        · subst z; omega
        · exact ⟨hj, by omega, by omega⟩
theorem cnt_one (m : Nat) : cnt (fun j => 1 ≤ j) m = m - 1 := by
  induction m with
  | zero => rfl
  | succ m ih =>
    by_cases h : 1 ≤ m
    · rw [cnt_pos h, ih]; omega
    · rw [cnt_neg h, ih]; omega
theorem cnt_zero {P : Nat → Prop} : ∀ {m : Nat}, cnt P m = 0 → ∀ j, j < m → ¬ P j
  | 0, _, j, hj => absurd hj (by omega)
  | m + 1, h, j, hj => fun hp => by
    by_cases hm : P m
    · rw [cnt_pos hm] at h; omega
    · rw [cnt_neg hm] at h
      by_cases e : j = m
      · subst e; exact hm hp
      · exact cnt_zero h j (by omega) hp
theorem cnt_ex {P : Nat → Prop} : ∀ {m : Nat}, 0 < cnt P m → ∃ j, j < m ∧ P j
  | 0, h => absurd h (by simp [cnt])
  | m + 1, h => by
    by_cases hm : P m
    · exact ⟨m, by omega, hm⟩
    · rw [cnt_neg hm] at h
      obtain ⟨j, hj, hp⟩ := cnt_ex h
      exact ⟨j, by omega, hp⟩
noncomputable def cS (p : Prt) (m : Nat) : Nat → Nat
  | 0 => 0
  | n + 1 => cS p m n + cnt (GE p (n + 1)) m
noncomputable def sH (p : Prt) : Nat → Nat
  | 0 => 0
  | m + 1 => sH p m + ht p m
theorem cS_succ {p : Prt} (ok : p.Ok) (m : Nat) : ∀ n, cS p (m + 1) n = cS p m n + min (ht p m) n
  | 0 => by simp [cS]
  | n + 1 => by
    simp only [cS]
    rw [cS_succ ok m n]
    by_cases h : GE p (n + 1) m
    · rw [cnt_pos h]
      have := (ge_ht ok (show 1 ≤ n + 1 by omega) m).mp h
      omega
    · rw [cnt_neg h]
      have : ¬ n + 1 ≤ ht p m := fun z => h ((ge_ht ok (show 1 ≤ n + 1 by omega) m).mpr z)
      omega
theorem cS_sH {p : Prt} (ok : p.Ok) (n : Nat) : ∀ m, (∀ j, j < m → ht p j ≤ n) → cS p m n = sH p m
  | 0, _ => by
    have : ∀ n, cS p 0 n = 0 := fun n => by induction n with | zero => rfl | succ n ih => simp only [cS]; rw [ih]; rfl
    rw [this]; rfl
  | m + 1, h => by
    rw [cS_succ ok, cS_sH ok n m (fun j hj => h j (by omega))]
    simp only [sH]
    rw [Nat.min_eq_left (h m (by omega))]
@[irreducible] def sp_check_least : Sp := fun vs H Q _ => ∃ i : Int, vs = [.int i] ∧ (1 ≤ i ∧ i ≤ 111) ∧ Q .non H
theorem use_least {i : Int} {H : Hp} {Q : VK} {E : XK} (h : 1 ≤ i ∧ i ≤ 111) (q : Q .non H) : sp_check_least [.int i] H Q E := by unfold sp_check_least; exact ⟨i, rfl, h, q⟩
theorem b_check_least {K : PySem.W.Frag} {fd : FuncData} (F : F_check_least K fd) : Binds K fd P_check_least [] := FunD.bindsN F fun _ _ _ _ _ _ us hl => match us, hl with | [_], _ => rfl
theorem ok_check_least (T : Txt K mg D) : FnOk P w K mg base CX0 3 (He.fAd K ("check_least", none)) (D D_check_least) P_check_least sp_check_least := by
  refine T.d_check_least.ok sc_check_least (fun vs H Q E h => ?_) (fun cdv A outer s H vs Q E hr h => ?_)
  · unfold sp_check_least at h
    first | (obtain ⟨rfl, _⟩ := h; rfl) | (obtain ⟨_, rfl, _⟩ := h; rfl) | (obtain ⟨_, _, rfl, _⟩ := h; rfl) | (obtain ⟨_, _, _, rfl, _⟩ := h; rfl) | (obtain ⟨_, _, _, _, rfl, _⟩ := h; rfl) | (obtain ⟨_, _, _, _, _, rfl, _⟩ := h; rfl) | (obtain ⟨_, _, _, _, _, _, rfl, _⟩ := h; rfl) | (obtain ⟨_, _, _, _, _, _, _, rfl, _⟩ := h; rfl) | (obtain ⟨_, _, _, _, _, _, _, _, rfl, _⟩ := h; rfl) | (obtain ⟨_, _, _, _, _, _, _, _, _, rfl, _⟩ := h; rfl) | (obtain ⟨_, _, _, _, _, _, _, _, _, _, rfl, _⟩ := h; rfl) | (obtain ⟨_, _, _, _, _, _, _, _, _, _, _, rfl, _⟩ := h; rfl)
  · refine ⟨_, PSs.nox (pss_one (ps_if (pt_not (pt_val (pe_call (ok_is_between T) (hr.mono (by decide)) rfl T.g_is_between T.d_is_between.kp (b_is_between T.d_is_between) .nil pass0 (pa_cons (pv 0) (pa_cons pe_int (pa_cons (pe_globi T.i_MOST_HEIGHT) pa_nil)))))) (pss_one ps_never) pss_nil)), ?_⟩
    unfold sp_check_least at h
    obtain ⟨i, rfl, h, q⟩ := h
    walk_at "rd"
    refine use_between ?_
    rw [decide_eq_true h]
    walk_at "rd"
    exact q

@[irreducible] def sp_check_stretch : Sp := fun vs H Q _ => ∃ i j : Int, vs = [.int i, .int j] ∧ (0 ≤ i ∧ i ≤ j ∧ j ≤ 1000000000000000000000000000000) ∧ Q .non H
theorem use_stretch {i j : Int} {H : Hp} {Q : VK} {E : XK} (h : 0 ≤ i ∧ i ≤ j ∧ j ≤ 1000000000000000000000000000000) (q : Q .non H) : sp_check_stretch [.int i, .int j] H Q E := by unfold sp_check_stretch; exact ⟨i, j, rfl, h, q⟩
theorem b_check_stretch {K : PySem.W.Frag} {fd : FuncData} (F : F_check_stretch K fd) : Binds K fd P_check_stretch [] := FunD.bindsN F fun _ _ _ _ _ _ us hl => match us, hl with | [_, _], _ => rfl
theorem ok_check_stretch (T : Txt K mg D) : FnOk P w K mg base CX0 4 (He.fAd K ("check_stretch", none)) (D D_check_stretch) P_check_stretch sp_check_stretch := by
  refine T.d_check_stretch.ok sc_check_stretch (fun vs H Q E h => ?_) (fun cdv A outer s H vs Q E hr h => ?_)
  · unfold sp_check_stretch at h
    first | (obtain ⟨rfl, _⟩ := h; rfl) | (obtain ⟨_, rfl, _⟩ := h; rfl) | (obtain ⟨_, _, rfl, _⟩ := h; rfl) | (obtain ⟨_, _, _, rfl, _⟩ := h; rfl) | (obtain ⟨_, _, _, _, rfl, _⟩ := h; rfl) | (obtain ⟨_, _, _, _, _, rfl, _⟩ := h; rfl) | (obtain ⟨_, _, _, _, _, _, rfl, _⟩ := h; rfl) | (obtain ⟨_, _, _, _, _, _, _, rfl, _⟩ := h; rfl) | (obtain ⟨_, _, _, _, _, _, _, _, rfl, _⟩ := h; rfl) | (obtain ⟨_, _, _, _, _, _, _, _, _, rfl, _⟩ := h; rfl) | (obtain ⟨_, _, _, _, _, _, _, _, _, _, rfl, _⟩ := h; rfl) | (obtain ⟨_, _, _, _, _, _, _, _, _, _, _, rfl, _⟩ := h; rfl)
  · refine ⟨_, PSs.nox (pss_cons (ps_expr (pe_call (ok_check_moment T) (hr.mono (by decide)) rfl T.g_check_moment T.d_check_moment.kp (b_check_moment T.d_check_moment) .nil pass0 (pa_cons (pv 0) pa_nil)))
      (pss_one (ps_if (pt_not (pt_val (pe_call (ok_is_between T) (hr.mono (by decide)) rfl T.g_is_between T.d_is_between.kp (b_is_between T.d_is_between) .nil pass0 (pa_cons (pv 1) (pa_cons (pv 0) (pa_cons (pe_globi T.i_MOST_ROW) pa_nil)))))) (pss_one ps_never) pss_nil))), ?_⟩
    unfold sp_check_stretch at h
    obtain ⟨i, j, rfl, ⟨h0, h1, h2⟩, q⟩ := h
    walk_at "rd"
    refine use_check_moment ⟨by omega, by omega⟩ ?_
    walk_at "rd"
    refine use_between ?_
    rw [decide_eq_true ⟨h1, h2⟩]
    walk_at "rd"
    exact q

@[irreducible] def sp_count_up_to (K : PySem.W.Frag) : Sp := fun vs H Q _ => ∃ (b : Addr) (p : Prt) (l m : Nat), vs = [.ref b, .int l, .int m] ∧ SetAt K H b p ∧ p.Ok ∧ (1 ≤ l ∧ l ≤ 320) ∧ m ≤ 2000000000000000000000000000000 ∧ ∀ H', Same H H' → Q (.int (cnt (GE p l) m)) H'
theorem use_cut {K : PySem.W.Frag} {b : Addr} {p : Prt} {l m : Nat} {i j : Int} {H : Hp} {Q : VK} {E : XK} (hi : i = (l : Int)) (hj : j = (m : Int)) (hs : SetAt K H b p) (ok : p.Ok) (hl : 1 ≤ l ∧ l ≤ 320) (hm : m ≤ 2000000000000000000000000000000) (q : ∀ H', Same H H' → Q (.int (cnt (GE p l) m)) H') :
  sp_count_up_to K [.ref b, .int i, .int j] H Q E := by subst hi hj; unfold sp_count_up_to; exact ⟨b, p, l, m, rfl, hs, ok, hl, hm, q⟩
theorem b_count_up_to {K : PySem.W.Frag} {fd : FuncData} (F : F_count_up_to K fd) : Binds K fd P_count_up_to [] := FunD.bindsN F fun _ _ _ _ _ _ us hl => match us, hl with | [_, _, _], _ => rfl
theorem ok_count_up_to (T : Txt K mg D) : FnOk P w K mg base CX0 7 (He.fAd K ("count_up_to", none)) (D D_count_up_to) P_count_up_to (sp_count_up_to K) := by
  refine T.d_count_up_to.ok sc_count_up_to (fun vs H Q E h => ?_) (fun cdv A outer s H vs Q E hr h => ?_)
  · unfold sp_count_up_to at h
    first | (obtain ⟨rfl, _⟩ := h; rfl) | (obtain ⟨_, rfl, _⟩ := h; rfl) | (obtain ⟨_, _, rfl, _⟩ := h; rfl) | (obtain ⟨_, _, _, rfl, _⟩ := h; rfl) | (obtain ⟨_, _, _, _, rfl, _⟩ := h; rfl) | (obtain ⟨_, _, _, _, _, rfl, _⟩ := h; rfl) | (obtain ⟨_, _, _, _, _, _, rfl, _⟩ := h; rfl) | (obtain ⟨_, _, _, _, _, _, _, rfl, _⟩ := h; rfl) | (obtain ⟨_, _, _, _, _, _, _, _, rfl, _⟩ := h; rfl) | (obtain ⟨_, _, _, _, _, _, _, _, _, rfl, _⟩ := h; rfl) | (obtain ⟨_, _, _, _, _, _, _, _, _, _, rfl, _⟩ := h; rfl) | (obtain ⟨_, _, _, _, _, _, _, _, _, _, _, rfl, _⟩ := h; rfl)
  · refine ⟨_, PSs.nox (pss_one (ps_ret (pe_ifExp (pt_cmpR op_eq (pv 1) pe_int (nomark _)) (pe_callB (call_max2 rfl) (by rfl) T.n_max (by decide +kernel) (pa_cons pe_int (pa_cons (pe_op op_sub (pv 2) pe_int) pa_nil))) (pe_meth (pe_make T.mk_Heights (ok_Heights___init__ T) (hr.mono (by decide)) rfl T.g_Heights (b_Heights___init__ T.d_Heights___init__) .nil pass0 (pa_cons (pv 0) (pa_cons (pv 1) pa_nil))) T.c_Heights T.m_Heights_count (ok_Heights_count T) (hr.mono (by decide)) (b_Heights_count T.d_Heights_count) .nil pass0 (pa_cons (pv 2) pa_nil))))), ?_⟩
    unfold sp_count_up_to at h
    obtain ⟨b, p, l, m, rfl, hs, ok, hl, hm, q⟩ := h
    walk_at "rd"
    refine ite2 (fun c => ?_) (fun c => ?_)
    · have c := dvi c
      have c : l = 1 := by omega
      subst c
      rw [ge_one, cnt_one] at q
      walk_at "rd"
      have q := q H (Same.refl H)
      rw [show ((m - 1 : Nat) : Int) = if (m : Int) - 1 > 0 then (m : Int) - 1 else 0 by split <;> omega] at q
      exact q
    · have c := dvn c
      have c : l ≠ 1 := by omega
      rw [ge_fun p c] at q
      walk_at "rd"
      intro h dx n1 ndh neh
      generalize eH1 : upd (upd _ dx _) h _ = H1
      obtain ⟨g1, c1⟩ := gen_mk n1 ndh eH1
      clear eH1
      refine use_hts_init rfl c1 (hs.same g1) ok hl fun H2 first pages s2 cyc hht => ?_
      have g12 := same_sb_new g1 s2 n1
      obtain ⟨da, aa, h2, _⟩ := id hht
      walk_at "rd"
      exact use_count rfl hht ok cyc ⟨fan_pos ok _, fan_big ok (by omega)⟩ hm fun H3 g3 => q H3 (g12.trans g3)

def FfOk (p : Prt) (l m : Nat) (v : V) : Prop := (v = .non ∧ ∀ j, m ≤ j → GE p l j → 1000000000000000000000000000000 < j) ∨ ∃ r : Nat, v = .int r ∧ r ≤ 1000000000000000000000000000000 ∧ m ≤ r ∧ GE p l r ∧ ∀ j, m ≤ j → j < r → ¬ GE p l j
@[irreducible] def sp_first_from (K : PySem.W.Frag) : Sp := fun vs H Q _ => ∃ (b : Addr) (p : Prt) (l m : Nat), vs = [.ref b, .int l, .int m] ∧ SetAt K H b p ∧ p.Ok ∧ (1 ≤ l ∧ l ≤ 320) ∧ m ≤ 2000000000000000000000000000000 ∧ ∀ v H', Same H H' → FfOk p l m v → Q v H'
theorem use_first_from {K : PySem.W.Frag} {b : Addr} {p : Prt} {l m : Nat} {i j : Int} {H : Hp} {Q : VK} {E : XK} (hi : i = (l : Int)) (hj : j = (m : Int)) (hs : SetAt K H b p) (ok : p.Ok) (hl : 1 ≤ l ∧ l ≤ 320) (hm : m ≤ 2000000000000000000000000000000) (q : ∀ v H', Same H H' → FfOk p l m v → Q v H') :
  sp_first_from K [.ref b, .int i, .int j] H Q E := by subst hi hj; unfold sp_first_from; exact ⟨b, p, l, m, rfl, hs, ok, hl, hm, q⟩
theorem b_first_from {K : PySem.W.Frag} {fd : FuncData} (F : F_first_from K fd) : Binds K fd P_first_from [] := FunD.bindsN F fun _ _ _ _ _ _ us hl => match us, hl with | [_, _, _], _ => rfl
theorem ok_first_from (T : Txt K mg D) : FnOk P w K mg base CX0 7 (He.fAd K ("first_from", none)) (D D_first_from) P_first_from (sp_first_from K) := by
  refine T.d_first_from.ok sc_first_from (fun vs H Q E h => ?_) (fun cdv A outer s H vs Q E hr h => ?_)
  · unfold sp_first_from at h
    first | (obtain ⟨rfl, _⟩ := h; rfl) | (obtain ⟨_, rfl, _⟩ := h; rfl) | (obtain ⟨_, _, rfl, _⟩ := h; rfl) | (obtain ⟨_, _, _, rfl, _⟩ := h; rfl) | (obtain ⟨_, _, _, _, rfl, _⟩ := h; rfl) | (obtain ⟨_, _, _, _, _, rfl, _⟩ := h; rfl) | (obtain ⟨_, _, _, _, _, _, rfl, _⟩ := h; rfl) | (obtain ⟨_, _, _, _, _, _, _, rfl, _⟩ := h; rfl) | (obtain ⟨_, _, _, _, _, _, _, _, rfl, _⟩ := h; rfl) | (obtain ⟨_, _, _, _, _, _, _, _, _, rfl, _⟩ := h; rfl) | (obtain ⟨_, _, _, _, _, _, _, _, _, _, rfl, _⟩ := h; rfl) | (obtain ⟨_, _, _, _, _, _, _, _, _, _, _, rfl, _⟩ := h; rfl)
  · refine ⟨_, PSs.nox (Evl.pss_cut (ps_set (i := 3) sc_first_from.nd rfl (Or.inl rfl) (pe_ifExp (pt_cmpR op_eq (pv 1) pe_int (nomark _)) (pe_callB (call_max2 rfl) (by rfl) T.n_max (by decide +kernel) (pa_cons pe_int (pa_cons (pv 2) pa_nil))) (pe_meth (pe_make T.mk_Heights (ok_Heights___init__ T) (hr.mono (by decide)) rfl T.g_Heights (b_Heights___init__ T.d_Heights___init__) .nil pass0 (pa_cons (pv 0) (pa_cons (pv 1) pa_nil))) T.c_Heights T.m_Heights_next_one (ok_Heights_next_one T) (hr.mono (by decide)) (b_Heights_next_one T.d_Heights_next_one) .nil pass0 (pa_cons (pv 2) pa_nil))))
      (pss_one (ps_ret (pe_ifExp (PW.pt (pw_or (pt_cmpR op_isN (pv 3) pe_non (nomark _)) (pw_or1 (pt_cmpR op_gt (pv 3) (pe_globi T.i_MOST_ROW) (nomark _))))) pe_non (pv 3))))), ?_⟩
    unfold sp_first_from at h
    obtain ⟨b, p, l, m, rfl, hs, ok, hl, hm, q⟩ := h
    walk_at "rd"
    refine ⟨fun σ' H' => ∃ v, σ' = [some (.ref b), some (.int l), some (.int m), some v] ∧ Same H H' ∧ NxW (GE p l) m v, ?_, ?_⟩
    · walk_at "rd"
      refine ite2 (fun c => ?_) (fun c => ?_)
      · have c := dvi c
        have c : l = 1 := by omega
        subst c
        walk_at "rd"
        refine ⟨Same.refl H, .inr ⟨max 1 m, ?_, by omega, ?_, fun j h1 h2 => ?_⟩⟩
        · refine congrArg V.int ?_
          split <;> omega
        · rw [ge_one]; show 1 ≤ max 1 m; omega
        · rw [ge_one]; show ¬ 1 ≤ j; omega
      · have c := dvn c
        have c : l ≠ 1 := by omega
        rw [ge_fun p c]
        walk_at "rd"
        intro h dx n1 ndh neh
        generalize eH1 : upd (upd _ dx _) h _ = H1
        obtain ⟨g1, c1⟩ := gen_mk n1 ndh eH1
        clear eH1
        refine use_hts_init rfl c1 (hs.same g1) ok hl fun H2 first pages s2 cyc hht => ?_
        have g12 := same_sb_new g1 s2 n1
        obtain ⟨da, aa, h2, _⟩ := id hht
        walk_at "rd"
        refine use_next_one rfl hht ok cyc ⟨fan_pos ok _, fan_big ok (by omega)⟩ hm fun v H3 g3 hv => ?_
        exact ⟨v, rfl, g12.trans g3, hv⟩
    rintro σ H' ⟨v, rfl, f, hv⟩
    rcases hv with ⟨rfl, hno⟩ | ⟨r, rfl, h1, h2, h3⟩
    · walk_at "rd"
      exact q _ H' f (.inl ⟨rfl, fun j _ hj => absurd hj (hno j)⟩)
    · walk_at "rd"
      refine ite2 (fun c => ?_) (fun c => ?_)
      · have c := of_decide_eq_true c
        have c : (r : Int) > 1000000000000000000000000000000 := c
        walk_at "rd"
        refine q _ H' f (.inl ⟨rfl, fun j hj hg => ?_⟩)
        by_cases z : j < r
        · exact absurd hg (h3 j hj z)
        · omega
      · have c := dcn c
        have c : ¬ (r : Int) > 1000000000000000000000000000000 := c
        walk_at "rd"
        exact q _ H' f (.inr ⟨r, rfl, by omega, h1, h2, h3⟩)

@[irreducible] def sp_height_count (K : PySem.W.Frag) : Sp := fun vs H Q _ => ∃ (b : Addr) (p : Prt) (l x y : Nat), vs = [.ref b, .int l, .int x, .int y] ∧ SetAt K H b p ∧ p.Ok ∧ (1 ≤ l ∧ l ≤ 111) ∧ (x ≤ y ∧ y ≤ 1000000000000000000000000000000) ∧ ∀ H', Same H H' → Q (.int ((cnt (GE p l) y : Int) - (cnt (GE p l) x : Int))) H'
theorem use_hcount {K : PySem.W.Frag} {b : Addr} {p : Prt} {l x y : Nat} {i j k : Int} {H : Hp} {Q : VK} {E : XK} (hi : i = (l : Int)) (hj : j = (x : Int)) (hk : k = (y : Int)) (hs : SetAt K H b p) (ok : p.Ok) (hl : 1 ≤ l ∧ l ≤ 111) (hm : x ≤ y ∧ y ≤ 1000000000000000000000000000000)
  (q : ∀ H', Same H H' → Q (.int ((cnt (GE p l) y : Int) - (cnt (GE p l) x : Int))) H') : sp_height_count K [.ref b, .int i, .int j, .int k] H Q E := by subst hi hj hk; unfold sp_height_count; exact ⟨b, p, l, x, y, rfl, hs, ok, hl, hm, q⟩
theorem b_height_count {K : PySem.W.Frag} {fd : FuncData} (F : F_height_count K fd) : Binds K fd P_height_count [] := FunD.bindsN F fun _ _ _ _ _ _ us hl => match us, hl with | [_, _, _, _], _ => rfl
theorem ok_height_count (T : Txt K mg D) : FnOk P w K mg base CX0 8 (He.fAd K ("height_count", none)) (D D_height_count) P_height_count (sp_height_count K) := by
  refine T.d_height_count.ok sc_height_count (fun vs H Q E h => ?_) (fun cdv A outer s H vs Q E hr h => ?_)
  · unfold sp_height_count at h
    first | (obtain ⟨rfl, _⟩ := h; rfl) | (obtain ⟨_, rfl, _⟩ := h; rfl) | (obtain ⟨_, _, rfl, _⟩ := h; rfl) | (obtain ⟨_, _, _, rfl, _⟩ := h; rfl) | (obtain ⟨_, _, _, _, rfl, _⟩ := h; rfl) | (obtain ⟨_, _, _, _, _, rfl, _⟩ := h; rfl) | (obtain ⟨_, _, _, _, _, _, rfl, _⟩ := h; rfl) | (obtain ⟨_, _, _, _, _, _, _, rfl, _⟩ := h; rfl) | (obtain ⟨_, _, _, _, _, _, _, _, rfl, _⟩ := h; rfl) | (obtain ⟨_, _, _, _, _, _, _, _, _, rfl, _⟩ := h; rfl) | (obtain ⟨_, _, _, _, _, _, _, _, _, _, rfl, _⟩ := h; rfl) | (obtain ⟨_, _, _, _, _, _, _, _, _, _, _, rfl, _⟩ := h; rfl)
  · refine ⟨_, PSs.nox (pss_cons (ps_expr (pe_call (ok_check_settings T) (hr.mono (by decide)) rfl T.g_check_settings T.d_check_settings.kp (b_check_settings T.d_check_settings) .nil pass0 (pa_cons (pv 0) pa_nil)))
      (pss_cons (ps_expr (pe_call (ok_check_least T) (hr.mono (by decide)) rfl T.g_check_least T.d_check_least.kp (b_check_least T.d_check_least) .nil pass0 (pa_cons (pv 1) pa_nil)))
      (pss_cons (ps_expr (pe_call (ok_check_stretch T) (hr.mono (by decide)) rfl T.g_check_stretch T.d_check_stretch.kp (b_check_stretch T.d_check_stretch) .nil pass0 (pa_cons (pv 2) (pa_cons (pv 3) pa_nil))))
      (pss_one (ps_ret (pe_op op_sub (pe_call (ok_count_up_to T) (hr.mono (by decide)) rfl T.g_count_up_to T.d_count_up_to.kp (b_count_up_to T.d_count_up_to) .nil pass0 (pa_cons (pv 0) (pa_cons (pv 1) (pa_cons (pv 3) pa_nil)))) (pe_call (ok_count_up_to T) (hr.mono (by decide)) rfl T.g_count_up_to T.d_count_up_to.kp (b_count_up_to T.d_count_up_to) .nil pass0 (pa_cons (pv 0) (pa_cons (pv 1) (pa_cons (pv 2) pa_nil)))))))))), ?_⟩
    unfold sp_height_count at h
    obtain ⟨b, p, l, x, y, rfl, hs, ok, ⟨l1, l2⟩, ⟨hxy, hy⟩, q⟩ := h
    obtain ⟨dx, t, hb, _⟩ := id hs
    walk_at "rd"
    refine use_check_settings hb ?_
    walk_at "rd"
    refine use_least ⟨by omega, by omega⟩ ?_
    walk_at "rd"
    refine use_stretch ⟨by omega, by omega, by omega⟩ ?_
    walk_at "rd"
    refine use_cut rfl rfl hs ok ⟨l1, by omega⟩ (by omega) fun G1 g1 => ?_
    walk_at "rd"
    refine use_cut rfl rfl (hs.same g1) ok ⟨l1, by omega⟩ (by omega) fun G2 g2 => ?_
    walk_at "rd"
    exact q G2 (g1.trans g2)

@[irreducible] def sp_next_height (K : PySem.W.Frag) : Sp := fun vs H Q _ => ∃ (b : Addr) (p : Prt) (m l : Nat), vs = [.ref b, .int m, .int l] ∧ SetAt K H b p ∧ p.Ok ∧ (1 ≤ l ∧ l ≤ 111) ∧ m ≤ 1000000000000000000000000000000 ∧ ∀ v H', Same H H' → FfOk p l m v → Q v H'
theorem use_next_height {K : PySem.W.Frag} {b : Addr} {p : Prt} {l m : Nat} {i j : Int} {H : Hp} {Q : VK} {E : XK} (hj : j = (m : Int)) (hi : i = (l : Int)) (hs : SetAt K H b p) (ok : p.Ok) (hl : 1 ≤ l ∧ l ≤ 111) (hm : m ≤ 1000000000000000000000000000000) (q : ∀ v H', Same H H' → FfOk p l m v → Q v H') :
  sp_next_height K [.ref b, .int j, .int i] H Q E := by subst hi hj; unfold sp_next_height; exact ⟨b, p, m, l, rfl, hs, ok, hl, hm, q⟩
theorem b_next_height {K : PySem.W.Frag} {fd : FuncData} (F : F_next_height K fd) : Binds K fd P_next_height [] := FunD.bindsN F fun _ _ _ _ _ _ us hl => match us, hl with | [_, _, _], _ => rfl
theorem ok_next_height (T : Txt K mg D) : FnOk P w K mg base CX0 8 (He.fAd K ("next_height", none)) (D D_next_height) P_next_height (sp_next_height K) := by
  refine T.d_next_height.ok sc_next_height (fun vs H Q E h => ?_) (fun cdv A outer s H vs Q E hr h => ?_)
  · unfold sp_next_height at h
    first | (obtain ⟨rfl, _⟩ := h; rfl) | (obtain ⟨_, rfl, _⟩ := h; rfl) | (obtain ⟨_, _, rfl, _⟩ := h; rfl) | (obtain ⟨_, _, _, rfl, _⟩ := h; rfl) | (obtain ⟨_, _, _, _, rfl, _⟩ := h; rfl) | (obtain ⟨_, _, _, _, _, rfl, _⟩ := h; rfl) | (obtain ⟨_, _, _, _, _, _, rfl, _⟩ := h; rfl) | (obtain ⟨_, _, _, _, _, _, _, rfl, _⟩ := h; rfl) | (obtain ⟨_, _, _, _, _, _, _, _, rfl, _⟩ := h; rfl) | (obtain ⟨_, _, _, _, _, _, _, _, _, rfl, _⟩ := h; rfl) | (obtain ⟨_, _, _, _, _, _, _, _, _, _, rfl, _⟩ := h; rfl) | (obtain ⟨_, _, _, _, _, _, _, _, _, _, _, rfl, _⟩ := h; rfl)
  · refine ⟨_, PSs.nox (pss_cons (ps_expr (pe_call (ok_check_settings T) (hr.mono (by decide)) rfl T.g_check_settings T.d_check_settings.kp (b_check_settings T.d_check_settings) .nil pass0 (pa_cons (pv 0) pa_nil)))
      (pss_cons (ps_expr (pe_call (ok_check_moment T) (hr.mono (by decide)) rfl T.g_check_moment T.d_check_moment.kp (b_check_moment T.d_check_moment) .nil pass0 (pa_cons (pv 1) pa_nil)))
      (pss_cons (ps_expr (pe_call (ok_check_least T) (hr.mono (by decide)) rfl T.g_check_least T.d_check_least.kp (b_check_least T.d_check_least) .nil pass0 (pa_cons (pv 2) pa_nil)))
      (pss_one (ps_ret (pe_call (ok_first_from T) (hr.mono (by decide)) rfl T.g_first_from T.d_first_from.kp (b_first_from T.d_first_from) .nil pass0 (pa_cons (pv 0) (pa_cons (pv 2) (pa_cons (pv 1) pa_nil))))))))), ?_⟩
    unfold sp_next_height at h
    obtain ⟨b, p, m, l, rfl, hs, ok, ⟨l1, l2⟩, hm, q⟩ := h
    obtain ⟨dx, t, hb, _⟩ := id hs
    walk_at "rd"
    refine use_check_settings hb ?_
    walk_at "rd"
    refine use_check_moment ⟨by omega, by omega⟩ ?_
    walk_at "rd"
    refine use_least ⟨by omega, by omega⟩ ?_
    walk_at "rd"
    exact use_first_from rfl rfl hs ok ⟨l1, by omega⟩ (by omega) q

@[irreducible] def sp_height_sum (K : PySem.W.Frag) : Sp := fun vs H Q _ => ∃ (b : Addr) (p : Prt) (x y : Nat), vs = [.ref b, .int x, .int y] ∧ SetAt K H b p ∧ p.Ok ∧ (x ≤ y ∧ y ≤ 1000000000000000000000000000000) ∧ ∀ H', Same H H' → Q (.int ((sH p y : Int) - (sH p x : Int))) H'
theorem use_hsum {K : PySem.W.Frag} {b : Addr} {p : Prt} {x y : Nat} {j k : Int} {H : Hp} {Q : VK} {E : XK} (hj : j = (x : Int)) (hk : k = (y : Int)) (hs : SetAt K H b p) (ok : p.Ok) (hm : x ≤ y ∧ y ≤ 1000000000000000000000000000000) (q : ∀ H', Same H H' → Q (.int ((sH p y : Int) - (sH p x : Int))) H') :
  sp_height_sum K [.ref b, .int j, .int k] H Q E := by subst hj hk; unfold sp_height_sum; exact ⟨b, p, x, y, rfl, hs, ok, hm, q⟩
theorem ht_cap {p : Prt} (ok : p.Ok) {l m : Nat} (hl : 1 ≤ l) (hm : m ≤ 1000000000000000000000000000001) (h : 0 < cnt (GE p l) m) : l ≤ 101 := by
  obtain ⟨j, hj, hg⟩ := cnt_ex h
  have := (ge_ht ok hl j).mp hg
  have := ht_small ok (show j ≤ 1000000000000000000000000000001 by omega)
  omega
theorem b_height_sum {K : PySem.W.Frag} {fd : FuncData} (F : F_height_sum K fd) : Binds K fd P_height_sum [] := FunD.bindsN F fun _ _ _ _ _ _ us hl => match us, hl with | [_, _, _], _ => rfl
theorem ok_height_sum (T : Txt K mg D) : FnOk P w K mg base CX0 8 (He.fAd K ("height_sum", none)) (D D_height_sum) P_height_sum (sp_height_sum K) := by
  refine T.d_height_sum.ok sc_height_sum (fun vs H Q E h => ?_) (fun cdv A outer s H vs Q E hr h => ?_)
  · unfold sp_height_sum at h
    first | (obtain ⟨rfl, _⟩ := h; rfl) | (obtain ⟨_, rfl, _⟩ := h; rfl) | (obtain ⟨_, _, rfl, _⟩ := h; rfl) | (obtain ⟨_, _, _, rfl, _⟩ := h; rfl) | (obtain ⟨_, _, _, _, rfl, _⟩ := h; rfl) | (obtain ⟨_, _, _, _, _, rfl, _⟩ := h; rfl) | (obtain ⟨_, _, _, _, _, _, rfl, _⟩ := h; rfl) | (obtain ⟨_, _, _, _, _, _, _, rfl, _⟩ := h; rfl) | (obtain ⟨_, _, _, _, _, _, _, _, rfl, _⟩ := h; rfl) | (obtain ⟨_, _, _, _, _, _, _, _, _, rfl, _⟩ := h; rfl) | (obtain ⟨_, _, _, _, _, _, _, _, _, _, rfl, _⟩ := h; rfl) | (obtain ⟨_, _, _, _, _, _, _, _, _, _, _, rfl, _⟩ := h; rfl)
  · refine ⟨_, PSs.nox (pss_cons (ps_expr (pe_call (ok_check_settings T) (hr.mono (by decide)) rfl T.g_check_settings T.d_check_settings.kp (b_check_settings T.d_check_settings) .nil pass0 (pa_cons (pv 0) pa_nil)))
      (pss_cons (ps_expr (pe_call (ok_check_stretch T) (hr.mono (by decide)) rfl T.g_check_stretch T.d_check_stretch.kp (b_check_stretch T.d_check_stretch) .nil pass0 (pa_cons (pv 1) (pa_cons (pv 2) pa_nil))))
      (pss_cons (ps_asg (pe_tup (pa_cons pe_int (pa_cons pe_int pa_nil))) (pg_tup rfl (pgs_cons (pg_name (i := 3) sc_height_sum.nd rfl (Or.inl rfl)) (pgs_cons (pg_name (i := 4) sc_height_sum.nd rfl (Or.inl rfl)) pgs_nil))))
      (pss_cons (ps_while PassesOwn.never (pt_cmpR op_gt (pe_call (ok_count_up_to T) (hr.mono (by decide)) rfl T.g_count_up_to T.d_count_up_to.kp (b_count_up_to T.d_count_up_to) .nil pass0 (pa_cons (pv 0) (pa_cons (pv 4) (pa_cons (pv 2) pa_nil)))) pe_int (nomark _)) (pss_cons (ps_aug (i := 3) sc_height_sum.nd rfl (Or.inl rfl) (pe_op op_sub (pe_call (ok_count_up_to T) (hr.mono (by decide)) rfl T.g_count_up_to T.d_count_up_to.kp (b_count_up_to T.d_count_up_to) .nil pass0 (pa_cons (pv 0) (pa_cons (pv 4) (pa_cons (pv 2) pa_nil)))) (pe_call (ok_count_up_to T) (hr.mono (by decide)) rfl T.g_count_up_to T.d_count_up_to.kp (b_count_up_to T.d_count_up_to) .nil pass0 (pa_cons (pv 0) (pa_cons (pv 4) (pa_cons (pv 1) pa_nil))))) ip_add)
      (pss_one (ps_aug (i := 4) sc_height_sum.nd rfl (Or.inl rfl) pe_int ip_add))))
      (pss_one (ps_ret (pv 3))))))), ?_⟩
    unfold sp_height_sum at h
    obtain ⟨b, p, x, y, rfl, hs, ok, ⟨hxy, hy⟩, q⟩ := h
    obtain ⟨dx, t, hb, _⟩ := id hs
    walk_at "rd"
    refine use_check_settings hb ?_
    walk_at "rd"
    refine use_stretch ⟨by omega, by omega, by omega⟩ ?_
    walk_at "rd"
    intro q0 n0
    generalize eH0 : upd _ q0 _ = H0
    obtain ⟨g0, c0⟩ := gen_new n0 eH0
    clear eH0
    walk_at "rd"
    refine ⟨fun m σ H' => ∃ (n : Nat), σ = [some (.ref b), some (.int x), some (.int y), some (.int ((cS p y n : Int) - (cS p x n : Int))), some (.int ((n + 1 : Nat) : Int))] ∧ Same H0 H' ∧ n ≤ 101 ∧ m = 102 - n, ⟨_, 0, rfl, Same.refl _, Nat.zero_le _, rfl⟩, ?_⟩
    rintro m σ H' ⟨n, rfl, f, hn, rfl⟩
    have f0 := g0.trans f
    walk_at "rd"
    refine use_cut (l := n + 1) rfl rfl (hs.same f0) ok ⟨by omega, by omega⟩ (by omega) fun G1 g1 => ?_
    walk_at "rd"
    refine iteB (fun d => ?_) (fun d => ?_)
    · have d := of_decide_eq_true d
      have d : 0 < cnt (GE p (n + 1)) y := by have d : (cnt (GE p (n + 1)) y : Int) > 0 := d; omega
      have hcap := ht_cap ok (by omega) (by omega) d
      refine ⟨fun σ' H'' => ∃ m', m' < 102 - n ∧ ∃ (n : Nat), σ' = [some (.ref b), some (.int x), some (.int y), some (.int ((cS p y n : Int) - (cS p x n : Int))), some (.int ((n + 1 : Nat) : Int))] ∧ Same H0 H'' ∧ n ≤ 101 ∧ m' = 102 - n, fun _ _ h => h, ?_⟩
      walk_at "rd"
      refine use_cut (l := n + 1) rfl rfl ((hs.same f0).same g1) ok ⟨by omega, by omega⟩ (by omega) fun G2 g2 => ?_
      walk_at "rd"
      refine use_cut (l := n + 1) rfl rfl (((hs.same f0).same g1).same g2) ok ⟨by omega, by omega⟩ (by omega) fun G3 g3 => ?_
      walk_at "rd"
      refine ⟨102 - (n + 1), by omega, n + 1, ?_, ((f.trans g1).trans g2).trans g3, by omega, rfl⟩
      have e1 : (cS p y n : Int) - (cS p x n : Int) + ((cnt (GE p (n + 1)) y : Int) - (cnt (GE p (n + 1)) x : Int)) = (cS p y (n + 1) : Int) - (cS p x (n + 1) : Int) := by simp only [cS]; omega
      exact congr (congrArg (fun u v : Int => ([some (.ref b), some (.int x), some (.int y), some (.int u), some (.int v)] : L2.St)) e1) (show ((n + 1 : Nat) : Int) + 1 = ((n + 1 + 1 : Nat) : Int) by omega)
    · have d := of_decide_eq_false d
      have d : cnt (GE p (n + 1)) y = 0 := by have d : ¬ (cnt (GE p (n + 1)) y : Int) > 0 := d; omega
      have hz := cnt_zero d
      have hb' : ∀ j, j < y → ht p j ≤ n := fun j hj => by
        by_cases c : ht p j ≤ n
        · exact c
        · exact absurd ((ge_ht ok (show 1 ≤ n + 1 by omega) j).mpr (by omega)) (hz j hj)
      have q := q G1 (f0.trans g1)
      rw [← cS_sH ok n y hb', ← cS_sH ok n x (fun j hj => hb' j (by omega))] at q
      walk_at "rd"
      exact q

@[irreducible] def sp_greatest_height (K : PySem.W.Frag) : Sp := fun vs H Q _ => ∃ (b : Addr) (p : Prt) (x y : Nat), vs = [.ref b, .int x, .int y] ∧ SetAt K H b p ∧ p.Ok ∧ (x ≤ y ∧ y ≤ 1000000000000000000000000000000) ∧ (x = y → ∀ H', Same H H' → Q .non H') ∧
  (x < y → ∀ q r H', Same H H' → x ≤ r → r < y → (∀ j, x ≤ j → j < y → ht p j ≤ ht p r) → (∀ j, x ≤ j → j < r → ht p j < ht p r) → H' q = some (.tup [.int (ht p r : Nat), .int (r : Nat)]) → Q (.ref q) H')
theorem use_greatest {K : PySem.W.Frag} {b : Addr} {p : Prt} {x y : Nat} {j k : Int} {H : Hp} {Q : VK} {E : XK} (hj : j = (x : Int)) (hk : k = (y : Int)) (hs : SetAt K H b p) (ok : p.Ok) (hm : x ≤ y ∧ y ≤ 1000000000000000000000000000000) (q1 : x = y → ∀ H', Same H H' → Q .non H')
  (q2 : x < y → ∀ q r H', Same H H' → x ≤ r → r < y → (∀ j, x ≤ j → j < y → ht p j ≤ ht p r) → (∀ j, x ≤ j → j < r → ht p j < ht p r) → H' q = some (.tup [.int (ht p r : Nat), .int (r : Nat)]) → Q (.ref q) H') : sp_greatest_height K [.ref b, .int j, .int k] H Q E := by
  subst hj hk; unfold sp_greatest_height; exact ⟨b, p, x, y, rfl, hs, ok, hm, q1, q2⟩
theorem b_greatest_height {K : PySem.W.Frag} {fd : FuncData} (F : F_greatest_height K fd) : Binds K fd P_greatest_height [] := FunD.bindsN F fun _ _ _ _ _ _ us hl => match us, hl with | [_, _, _], _ => rfl
theorem ok_greatest_height (T : Txt K mg D) : FnOk P w K mg base CX0 8 (He.fAd K ("greatest_height", none)) (D D_greatest_height) P_greatest_height (sp_greatest_height K) := by
  refine T.d_greatest_height.ok sc_greatest_height (fun vs H Q E h => ?_) (fun cdv A outer s H vs Q E hr h => ?_)
  · unfold sp_greatest_height at h
    first | (obtain ⟨rfl, _⟩ := h; rfl) | (obtain ⟨_, rfl, _⟩ := h; rfl) | (obtain ⟨_, _, rfl, _⟩ := h; rfl) | (obtain ⟨_, _, _, rfl, _⟩ := h; rfl) | (obtain ⟨_, _, _, _, rfl, _⟩ := h; rfl) | (obtain ⟨_, _, _, _, _, rfl, _⟩ := h; rfl) | (obtain ⟨_, _, _, _, _, _, rfl, _⟩ := h; rfl) | (obtain ⟨_, _, _, _, _, _, _, rfl, _⟩ := h; rfl) | (obtain ⟨_, _, _, _, _, _, _, _, rfl, _⟩ := h; rfl) | (obtain ⟨_, _, _, _, _, _, _, _, _, rfl, _⟩ := h; rfl) | (obtain ⟨_, _, _, _, _, _, _, _, _, _, rfl, _⟩ := h; rfl) | (obtain ⟨_, _, _, _, _, _, _, _, _, _, _, rfl, _⟩ := h; rfl)
  · refine ⟨_, PSs.nox (pss_cons (ps_expr (pe_call (ok_check_settings T) (hr.mono (by decide)) rfl T.g_check_settings T.d_check_settings.kp (b_check_settings T.d_check_settings) .nil pass0 (pa_cons (pv 0) pa_nil)))
      (pss_cons (ps_expr (pe_call (ok_check_stretch T) (hr.mono (by decide)) rfl T.g_check_stretch T.d_check_stretch.kp (b_check_stretch T.d_check_stretch) .nil pass0 (pa_cons (pv 1) (pa_cons (pv 2) pa_nil))))
      (Evl.pss_cut (ps_set (i := 3) sc_greatest_height.nd rfl (Or.inl rfl) (pe_ifExp (pt_cmpR op_eq (pv 1) (pv 2) (nomark _)) pe_non (pe_tup (pa_cons pe_int (pa_cons (pv 1) pa_nil)))))
      (pss_cons (ps_while PassesOwn.never (pt_cmpR op_notN (pv 3) pe_non (nomark _)) (pss_cons (ps_set (i := 4) sc_greatest_height.nd rfl (Or.inl rfl) (pe_call (ok_first_from T) (hr.mono (by decide)) rfl T.g_first_from T.d_first_from.kp (b_first_from T.d_first_from) .nil pass0 (pa_cons (pv 0) (pa_cons (pe_op op_add (pe_ix (ix_tupK (K := K)) (pv 3) pe_int (fun _ _ => rfl)) pe_int) (pa_cons (pv 1) pa_nil)))))
      (pss_cons (ps_if (PW.pt (pw_or (pt_cmpR op_isN (pv 4) pe_non (nomark _)) (pw_or1 (pt_cmpR op_ge (pv 4) (pv 2) (nomark _))))) (pss_one (ps_ret (pv 3))) pss_nil)
      (pss_one (ps_set (i := 3) sc_greatest_height.nd rfl (Or.inl rfl) (pe_tup (pa_cons (pe_op op_add (pe_ix (ix_tupK (K := K)) (pv 3) pe_int (fun _ _ => rfl)) pe_int) (pa_cons (pv 4) pa_nil))))))))
      (pss_one (ps_ret pe_non)))))), ?_⟩
    unfold sp_greatest_height at h
    obtain ⟨b, p, x, y, rfl, hs, ok, ⟨hxy, hy⟩, q1, q2⟩ := h
    obtain ⟨dx, t, hb, _⟩ := id hs
    walk_at "rd"
    refine use_check_settings hb ?_
    walk_at "rd"
    refine use_stretch ⟨by omega, by omega, by omega⟩ ?_
    walk_at "rd"
    refine ⟨fun σ' H' => ∃ v, σ' = [some (.ref b), some (.int x), some (.int y), some v, none] ∧ Same H H' ∧ ((x = y ∧ v = .non) ∨ ∃ q, x < y ∧ v = .ref q ∧ H' q = some (.tup [.int 0, .int x])), ?_, ?_⟩
    · walk_at "rd"
      refine ite2 (fun c => ?_) (fun c => ?_)
      · have c := dvi c
        walk_at "rd"
        exact ⟨Same.refl H, .inl ⟨by omega, rfl⟩⟩
      · have c := dvn c
        walk_at "rd"
        intro q n
        generalize eG : upd _ q _ = G
        obtain ⟨g, hq⟩ := gen_new n eG
        clear eG
        walk_at "rd"
        exact .inr ⟨q, by omega, rfl, hq⟩
    rintro σ H0 ⟨v, rfl, f, hv⟩
    walk_at "rd"
    refine ⟨fun m σ H' => ∃ (v : V) (w : Option V), σ = [some (.ref b), some (.int x), some (.int y), some v, w] ∧ Same H H' ∧ ((x = y ∧ v = .non) ∨ ∃ (q : Addr) (g r : Nat), v = .ref q ∧ H' q = some (.tup [.int (g : Nat), .int (r : Nat)]) ∧ x ≤ r ∧ r < y ∧ g ≤ ht p r ∧ (∀ j, x ≤ j → j < r → ht p j < g) ∧ m = 102 - g),
      ⟨102, v, none, rfl, f, ?_⟩, ?_⟩
    · rcases hv with ⟨h1, h2⟩ | ⟨q, h1, h2, h3⟩
      · exact .inl ⟨h1, h2⟩
      · exact .inr ⟨q, 0, x, h2, h3, Nat.le_refl _, h1, Nat.zero_le _, fun j a b => by omega, rfl⟩
    rintro m σ H' ⟨v, w, rfl, f, ⟨hxe, rfl⟩ | ⟨q, g, r, rfl, hq, hx, hr, hg, hlt, rfl⟩⟩
    · walk_at "rd"
      exact q1 hxe H' f
    · iterate 3 walk_at "s1"
      refine ⟨fun σ' H'' => ∃ m', m' < 102 - g ∧ ∃ (v : V) (w : Option V), σ' = [some (.ref b), some (.int x), some (.int y), some v, w] ∧ Same H H'' ∧ ((x = y ∧ v = .non) ∨ ∃ (q : Addr) (g r : Nat), v = .ref q ∧ H'' q = some (.tup [.int (g : Nat), .int (r : Nat)]) ∧ x ≤ r ∧ r < y ∧ g ≤ ht p r ∧ (∀ j, x ≤ j → j < r → ht p j < g) ∧ m' = 102 - g), fun _ _ h => h, ?_⟩
      have hsm := ht_small ok (show r ≤ 1000000000000000000000000000001 by omega)
      walk_at "rd"
      refine use_first_from (l := g + 1) (by omega) rfl (hs.same f) ok ⟨by omega, by omega⟩ (by omega) fun v G1 g1 hff => ?_
      have hq1 := g1 _ _ hq
      have stop : (∀ j, x ≤ j → j < y → ¬ GE p (g + 1) j) → Q (.ref q) G1 := fun hno => by
        have hle : ∀ j, x ≤ j → j < y → ht p j ≤ g := fun j a b => by
          by_cases c : ht p j ≤ g
          · exact c
          · exact absurd ((ge_ht ok (show 1 ≤ g + 1 by omega) j).mpr (by omega)) (hno j a b)
        have e : ht p r = g := by have := hle r hx hr; omega
        exact q2 (by omega) q r G1 (f.trans g1) hx hr (fun j a b => by have := hle j a b; omega) (fun j a b => by have := hlt j a b; omega) (by rw [e]; exact hq1)
      rcases hff with ⟨rfl, hno⟩ | ⟨r2, rfl, b1, b2, b3, b4⟩
      · walk_at "rd"
        exact stop fun j a b hge => by have := hno j a hge; omega
      · walk_at "rd"
        refine ite2 (fun c => ?_) (fun c => ?_)
        · have c := of_decide_eq_true c
          have c : (r2 : Int) ≥ (y : Int) := c
          walk_at "rd"
          exact stop fun j a b => b4 j a (by omega)
        · have c := dcn c
          have c : ¬ (r2 : Int) ≥ (y : Int) := c
          have hge := (ge_ht ok (show 1 ≤ g + 1 by omega) r2).mp b3
          have hsm2 := ht_small ok (show r2 ≤ 1000000000000000000000000000001 by omega)
          walk_at "rd"
          intro q3 n3
          generalize eG3 : upd _ q3 _ = G3
          obtain ⟨g3, c3⟩ := gen_new n3 eG3
          clear eG3
          walk_at "rd"
          refine ⟨102 - (g + 1), by omega, _, _, rfl, (f.trans g1).trans g3, .inr ⟨q3, g + 1, r2, rfl, c3, b2, by omega, hge, fun j a b => ?_, rfl⟩⟩
          by_cases z : ht p j < g + 1
          · exact z
          · exact absurd ((ge_ht ok (show 1 ≤ g + 1 by omega) j).mpr (by omega)) (b4 j a b)

@[irreducible] def sp_check_level : Sp := fun vs H Q _ => ∃ i : Int, vs = [.int i] ∧ (0 ≤ i ∧ i ≤ 110) ∧ Q .non H
theorem use_level {i : Int} {H : Hp} {Q : VK} {E : XK} (h : 0 ≤ i ∧ i ≤ 110) (q : Q .non H) : sp_check_level [.int i] H Q E := by unfold sp_check_level; exact ⟨i, rfl, h, q⟩
theorem b_check_level {K : PySem.W.Frag} {fd : FuncData} (F : F_check_level K fd) : Binds K fd P_check_level [] := FunD.bindsN F fun _ _ _ _ _ _ us hl => match us, hl with | [_], _ => rfl
theorem ok_check_level (T : Txt K mg D) : FnOk P w K mg base CX0 3 (He.fAd K ("check_level", none)) (D D_check_level) P_check_level sp_check_level := by
  refine T.d_check_level.ok sc_check_level (fun vs H Q E h => ?_) (fun cdv A outer s H vs Q E hr h => ?_)
  · unfold sp_check_level at h
    first | (obtain ⟨rfl, _⟩ := h; rfl) | (obtain ⟨_, rfl, _⟩ := h; rfl) | (obtain ⟨_, _, rfl, _⟩ := h; rfl) | (obtain ⟨_, _, _, rfl, _⟩ := h; rfl) | (obtain ⟨_, _, _, _, rfl, _⟩ := h; rfl) | (obtain ⟨_, _, _, _, _, rfl, _⟩ := h; rfl) | (obtain ⟨_, _, _, _, _, _, rfl, _⟩ := h; rfl) | (obtain ⟨_, _, _, _, _, _, _, rfl, _⟩ := h; rfl) | (obtain ⟨_, _, _, _, _, _, _, _, rfl, _⟩ := h; rfl) | (obtain ⟨_, _, _, _, _, _, _, _, _, rfl, _⟩ := h; rfl) | (obtain ⟨_, _, _, _, _, _, _, _, _, _, rfl, _⟩ := h; rfl) | (obtain ⟨_, _, _, _, _, _, _, _, _, _, _, rfl, _⟩ := h; rfl)
  · refine ⟨_, PSs.nox (pss_one (ps_if (pt_not (pt_val (pe_call (ok_is_between T) (hr.mono (by decide)) rfl T.g_is_between T.d_is_between.kp (b_is_between T.d_is_between) .nil pass0 (pa_cons (pv 0) (pa_cons pe_int (pa_cons (pe_globi T.i_MOST_LEVEL) pa_nil)))))) (pss_one ps_never) pss_nil)), ?_⟩
    unfold sp_check_level at h
    obtain ⟨i, rfl, h, q⟩ := h
    walk_at "rd"
    refine use_between ?_
    rw [decide_eq_true h]
    walk_at "rd"
    exact q

/-- the heap pages of rows b .. e - 1: the first one, and the one behind the last one -/
noncomputable def lvF (p : Prt) (b e : Nat) : Nat := if b = e then 0 else pgN p b
noncomputable def lvA (p : Prt) (b e : Nat) : Nat := if b = e then 0 else pgN p (e - 1) + 1
@[irreducible] def sp_pages_of (K : PySem.W.Frag) : Sp := fun vs H Q _ => ∃ (s : Addr) (p : Prt) (b e : Nat), vs = [.ref s, .int b, .int e] ∧ SetAt K H s p ∧ p.Ok ∧ b ≤ e ∧ ∀ q H', H q = none → Same H H' → H' q = some (.tup [.int (lvF p b e : Nat), .int (lvA p b e : Nat)]) → Q (.ref q) H'
theorem use_pages_of {K : PySem.W.Frag} {s : Addr} {p : Prt} {b e : Nat} {i j : Int} {H : Hp} {Q : VK} {E : XK} (hi : i = (b : Int)) (hj : j = (e : Int)) (hs : SetAt K H s p) (ok : p.Ok) (hbe : b ≤ e)
  (k : ∀ q H', H q = none → Same H H' → H' q = some (.tup [.int (lvF p b e : Nat), .int (lvA p b e : Nat)]) → Q (.ref q) H') : sp_pages_of K [.ref s, .int i, .int j] H Q E := by subst hi hj; unfold sp_pages_of; exact ⟨s, p, b, e, rfl, hs, ok, hbe, k⟩
theorem b_pages_of {K : PySem.W.Frag} {fd : FuncData} (F : F_pages_of K fd) : Binds K fd P_pages_of [] := FunD.bindsN F fun _ _ _ _ _ _ us hl => match us, hl with | [_, _, _], _ => rfl
theorem ok_pages_of (T : Txt K mg D) : FnOk P w K mg base CX0 6 (He.fAd K ("pages_of", none)) (D D_pages_of) P_pages_of (sp_pages_of K) := by
  refine T.d_pages_of.ok sc_pages_of (fun vs H Q E h => ?_) (fun cdv A outer s H vs Q E hr h => ?_)
  · unfold sp_pages_of at h
    first | (obtain ⟨rfl, _⟩ := h; rfl) | (obtain ⟨_, rfl, _⟩ := h; rfl) | (obtain ⟨_, _, rfl, _⟩ := h; rfl) | (obtain ⟨_, _, _, rfl, _⟩ := h; rfl) | (obtain ⟨_, _, _, _, rfl, _⟩ := h; rfl) | (obtain ⟨_, _, _, _, _, rfl, _⟩ := h; rfl) | (obtain ⟨_, _, _, _, _, _, rfl, _⟩ := h; rfl) | (obtain ⟨_, _, _, _, _, _, _, rfl, _⟩ := h; rfl) | (obtain ⟨_, _, _, _, _, _, _, _, rfl, _⟩ := h; rfl) | (obtain ⟨_, _, _, _, _, _, _, _, _, rfl, _⟩ := h; rfl) | (obtain ⟨_, _, _, _, _, _, _, _, _, _, rfl, _⟩ := h; rfl) | (obtain ⟨_, _, _, _, _, _, _, _, _, _, _, rfl, _⟩ := h; rfl)
  · refine ⟨_, PSs.nox (pss_cons (ps_if (pt_cmpR op_eq (pv 1) (pv 2) (nomark _)) (pss_one (ps_ret (pe_tup (pa_cons pe_int (pa_cons pe_int pa_nil))))) pss_nil)
      (pss_one (ps_ret (pe_tup (pa_cons (pe_call (ok_page_at T) (hr.mono (by decide)) rfl T.g_page_at T.d_page_at.kp (b_page_at T.d_page_at) .nil pass0 (pa_cons (pv 0) (pa_cons (pv 1) pa_nil))) (pa_cons (pe_op op_add (pe_call (ok_page_at T) (hr.mono (by decide)) rfl T.g_page_at T.d_page_at.kp (b_page_at T.d_page_at) .nil pass0 (pa_cons (pv 0) (pa_cons (pe_op op_sub (pv 2) pe_int) pa_nil))) pe_int) pa_nil)))))), ?_⟩
    unfold sp_pages_of at h
    obtain ⟨s, p, b, e, rfl, hs, ok, hbe, k⟩ := h
    unfold lvF lvA at k
    walk_at "rd"
    refine ite2 (fun c => ?_) (fun c => ?_)
    · have c := dvi c
      have c : b = e := by omega
      walk_at "rd"
      intro q n
      generalize eG : upd _ q _ = G
      obtain ⟨g, hq⟩ := gen_new n eG
      clear eG
      exact k q G n g (by rw [hq, if_pos c, if_pos c]; rfl)
    · have c := dvn c
      have c : ¬ b = e := by omega
      walk_at "rd"
      refine use_page_at rfl hs ok fun G1 g1 => ?_
      walk_at "rd"
      refine use_page_at (r := e - 1) (by omega) (hs.same g1) ok fun G2 g2 => ?_
      walk_at "rd"
      intro q n3
      generalize eG3 : upd _ q _ = G3
      obtain ⟨g3, hq⟩ := gen_new n3 eG3
      clear eG3
      exact k q G3 ((g1.trans g2).free n3) ((g1.trans g2).trans g3) (by rw [hq, if_neg c, if_neg c]; rfl)

@[irreducible] def sp_live (K : PySem.W.Frag) : Sp := fun vs H Q _ => ∃ (s : Addr) (p : Prt) (m : Nat), vs = [.ref s, .int m] ∧ SetAt K H s p ∧ p.Ok ∧ ∀ q H', H q = none → Same H H' → H' q = some (.tup [.int (lvF p (kbN p m) m : Nat), .int (lvA p (kbN p m) m : Nat)]) → Q (.ref q) H'
theorem use_live {K : PySem.W.Frag} {s : Addr} {p : Prt} {m : Nat} {i : Int} {H : Hp} {Q : VK} {E : XK} (hi : i = (m : Int)) (hs : SetAt K H s p) (ok : p.Ok)
  (k : ∀ q H', H q = none → Same H H' → H' q = some (.tup [.int (lvF p (kbN p m) m : Nat), .int (lvA p (kbN p m) m : Nat)]) → Q (.ref q) H') : sp_live K [.ref s, .int i] H Q E := by subst hi; unfold sp_live; exact ⟨s, p, m, rfl, hs, ok, k⟩
theorem b_live {K : PySem.W.Frag} {fd : FuncData} (F : F_live K fd) : Binds K fd P_live [] := FunD.bindsN F fun _ _ _ _ _ _ us hl => match us, hl with | [_, _], _ => rfl
theorem ok_live (T : Txt K mg D) : FnOk P w K mg base CX0 7 (He.fAd K ("live", none)) (D D_live) P_live (sp_live K) := by
  refine T.d_live.ok sc_live (fun vs H Q E h => ?_) (fun cdv A outer s H vs Q E hr h => ?_)
  · unfold sp_live at h
    first | (obtain ⟨rfl, _⟩ := h; rfl) | (obtain ⟨_, rfl, _⟩ := h; rfl) | (obtain ⟨_, _, rfl, _⟩ := h; rfl) | (obtain ⟨_, _, _, rfl, _⟩ := h; rfl) | (obtain ⟨_, _, _, _, rfl, _⟩ := h; rfl) | (obtain ⟨_, _, _, _, _, rfl, _⟩ := h; rfl) | (obtain ⟨_, _, _, _, _, _, rfl, _⟩ := h; rfl) | (obtain ⟨_, _, _, _, _, _, _, rfl, _⟩ := h; rfl) | (obtain ⟨_, _, _, _, _, _, _, _, rfl, _⟩ := h; rfl) | (obtain ⟨_, _, _, _, _, _, _, _, _, rfl, _⟩ := h; rfl) | (obtain ⟨_, _, _, _, _, _, _, _, _, _, rfl, _⟩ := h; rfl) | (obtain ⟨_, _, _, _, _, _, _, _, _, _, _, rfl, _⟩ := h; rfl)
  · refine ⟨_, PSs.nox (pss_one (ps_ret (pe_call (ok_pages_of T) (hr.mono (by decide)) rfl T.g_pages_of T.d_pages_of.kp (b_pages_of T.d_pages_of) .nil pass0 (pa_cons (pv 0) (pa_cons (pe_callB (call_max2 rfl) (by rfl) T.n_max (by decide +kernel) (pa_cons pe_int (pa_cons (pe_op op_sub (pv 1) (pe_fldK (K := K) (pv 0) rfl)) pa_nil))) (pa_cons (pv 1) pa_nil)))))), ?_⟩
    unfold sp_live at h
    obtain ⟨s, p, m, rfl, hs, ok, k⟩ := h
    obtain ⟨dx, t, hb, _⟩ := id hs
    walk_at "rd"
    exact use_pages_of (b := kbN p m) (kb_max ok m) rfl hs ok (kb_le ok m).1 k

@[irreducible] def sp_root_level : Sp := fun vs H Q _ => ∃ (b e L : Nat) (f : Int), vs = [.int b, .int e, .int f] ∧ (2 ≤ f ∧ f ≤ 8) ∧ IsHt f.toNat b e L ∧ Q (.int ((L - 1 : Nat) : Int)) H
theorem use_root_level {b e L : Nat} {f i j : Int} {H : Hp} {Q : VK} {E : XK} (hi : i = (b : Int)) (hj : j = (e : Int)) (hf : 2 ≤ f ∧ f ≤ 8) (h : IsHt f.toNat b e L) (q : Q (.int ((L - 1 : Nat) : Int)) H) : sp_root_level [.int i, .int j, .int f] H Q E := by
  subst hi hj; unfold sp_root_level; exact ⟨b, e, L, f, rfl, hf, h, q⟩
theorem div_pow {f : Int} (hf : 2 ≤ f) (x k : Nat) : ((x / f.toNat ^ k : Nat) : Int) / f = ((x / f.toNat ^ (k + 1) : Nat) : Int) := by
  rw [Nat.pow_succ, ← Nat.div_div_eq_div_mul, Int.natCast_ediv (x / f.toNat ^ k), Int.toNat_of_nonneg (by omega)]
theorem div_one' {f : Int} (hf : 2 ≤ f) (x : Nat) : (x : Int) / f = ((x / f.toNat ^ 1 : Nat) : Int) := by
  have := div_pow hf x 0
  rw [Nat.pow_zero, Nat.div_one] at this
  exact this
theorem b_root_level {K : PySem.W.Frag} {fd : FuncData} (F : F_root_level K fd) : Binds K fd P_root_level [] := FunD.bindsN F fun _ _ _ _ _ _ us hl => match us, hl with | [_, _, _], _ => rfl
theorem ok_root_level (T : Txt K mg D) : FnOk P w K mg base CX0 1 (He.fAd K ("root_level", none)) (D D_root_level) P_root_level sp_root_level := by
  refine T.d_root_level.ok sc_root_level (fun vs H Q E h => ?_) (fun cdv A outer s H vs Q E hr h => ?_)
  · unfold sp_root_level at h
    first | (obtain ⟨rfl, _⟩ := h; rfl) | (obtain ⟨_, rfl, _⟩ := h; rfl) | (obtain ⟨_, _, rfl, _⟩ := h; rfl) | (obtain ⟨_, _, _, rfl, _⟩ := h; rfl) | (obtain ⟨_, _, _, _, rfl, _⟩ := h; rfl) | (obtain ⟨_, _, _, _, _, rfl, _⟩ := h; rfl) | (obtain ⟨_, _, _, _, _, _, rfl, _⟩ := h; rfl) | (obtain ⟨_, _, _, _, _, _, _, rfl, _⟩ := h; rfl) | (obtain ⟨_, _, _, _, _, _, _, _, rfl, _⟩ := h; rfl) | (obtain ⟨_, _, _, _, _, _, _, _, _, rfl, _⟩ := h; rfl) | (obtain ⟨_, _, _, _, _, _, _, _, _, _, rfl, _⟩ := h; rfl) | (obtain ⟨_, _, _, _, _, _, _, _, _, _, _, rfl, _⟩ := h; rfl)
  · refine ⟨_, PSs.nox (pss_cons (ps_par3 (i := 0) (j := 1) (l := 3) rfl sc_root_level.nd rfl rfl rfl (by decide) (by decide) (by decide) rfl rfl rfl (pa_cons (pe_op op_fdivW (pv 0) (pv 2)) (pa_cons (pe_op op_fdivW (pv 1) (pv 2)) (pa_cons pe_int pa_nil))) (by rfl))
      (pss_cons (ps_while PassesOwn.never (pt_cmpR op_ne (pv 0) (pv 1) (nomark _)) (pss_one (ps_par3 (i := 0) (j := 1) (l := 3) rfl sc_root_level.nd rfl rfl rfl (by decide) (by decide) (by decide) rfl rfl rfl (pa_cons (pe_op op_fdivW (pv 0) (pv 2)) (pa_cons (pe_op op_fdivW (pv 1) (pv 2)) (pa_cons (pe_op op_add (pv 3) pe_int) pa_nil))) (by rfl))))
      (pss_one (ps_ret (pv 3))))), ?_⟩
    unfold sp_root_level at h
    obtain ⟨b, e, L, f, rfl, ⟨f0, f1⟩, hL, q⟩ := h
    walk_at "rd"
    refine ⟨fun m σ H' => H' = H ∧ ∃ i : Nat, σ = [some (.int (b / f.toNat ^ (i + 1) : Nat)), some (.int (e / f.toNat ^ (i + 1) : Nat)), some (.int f), some (.int (i : Nat))] ∧ i + 1 ≤ L ∧ m = L - i, ⟨L, rfl, 0, ?_, hL.1, rfl⟩, ?_⟩
    · exact congr (congrArg (fun u v : Int => ([some (.int u), some (.int v), some (.int f), some (.int 0)] : L2.St)) (div_one' f0 b)) (div_one' f0 e)
    rintro m σ H' ⟨rfl, i, rfl, hi, rfl⟩
    walk_at "rd"
    refine iteB (fun d => ?_) (fun d => ?_)
    · have hne : b / f.toNat ^ (i + 1) ≠ e / f.toNat ^ (i + 1) := fun z => by
        rw [z, decide_eq_true rfl] at d
        cases d
      have hlt : i + 1 < L := by
        by_cases z : i + 1 = L
        · rw [z] at hne; exact absurd hL.2.1 hne
        · omega
      refine ⟨fun σ' H'' => ∃ m', m' < L - i ∧ H'' = H' ∧ ∃ i : Nat, σ' = [some (.int (b / f.toNat ^ (i + 1) : Nat)), some (.int (e / f.toNat ^ (i + 1) : Nat)), some (.int f), some (.int (i : Nat))] ∧ i + 1 ≤ L ∧ m' = L - i, fun _ _ h => h, ?_⟩
      walk_at "rd"
      refine ⟨L - (i + 1), by omega, rfl, i + 1, ?_, hlt, rfl⟩
      exact congr (congrArg (fun u v : Int => ([some (.int u), some (.int v), some (.int f), some (.int ((i + 1 : Nat) : Int))] : L2.St)) (div_pow f0 b (i + 1))) (div_pow f0 e (i + 1))
    · have heq : b / f.toNat ^ (i + 1) = e / f.toNat ^ (i + 1) := by
        have d2 := of_decide_eq_true (show decide (V.int ((b / f.toNat ^ (i + 1) : Nat) : Int) = V.int ((e / f.toNat ^ (i + 1) : Nat) : Int)) = true by revert d; cases decide (V.int ((b / f.toNat ^ (i + 1) : Nat) : Int) = V.int ((e / f.toNat ^ (i + 1) : Nat) : Int)) <;> simp)
        injection d2 with d2
        omega
      have hiL : i + 1 = L := by
        by_cases z : i + 1 = L
        · exact z
        · exact absurd heq (hL.2.2 (i + 1) (by omega) (by omega))
      walk_at "rd"
      rw [show L - 1 = i by omega] at q
      exact q

/-- items that are pairs of ints -/
def AllN (H : Hp) (xs : List V) : Prop := ∀ v ∈ xs, ∃ (t : Addr) (l i : Int), v = .ref t ∧ H t = some (.tup [.int l, .int i])
theorem AllN.same {H H' : Hp} {xs : List V} (h : AllN H xs) (s : Same H H') : AllN H' xs := fun v hv => by
  obtain ⟨t, l, i, e1, e2⟩ := h v hv
  exact ⟨t, l, i, e1, s _ _ e2⟩
@[irreducible] def sp_nodes_over (K : PySem.W.Frag) : Sp := fun vs H Q _ => ∃ (s g : Addr) (p : Prt) (b e : Nat), vs = [.ref s, .ref g] ∧ SetAt K H s p ∧ p.Ok ∧ H g = some (.tup [.int b, .int e]) ∧ (b ≤ e ∧ e ≤ b + 1000 ∧ e ≤ 1000000000000000000000000000002) ∧
  ∀ q xs H', H q = none → Same H H' → H' q = some (.lst xs) → AllN H' xs → xs.length ≤ 110000 → (b = e → xs = []) → (b < e → ∃ L t i, IsHt p.fan.toNat b (e - 1) L ∧ atI xs (-1) = some (.ref t) ∧ H' t = some (.tup [.int ((L - 1 : Nat) : Int), .int i])) → Q (.ref q) H'
theorem use_nodes_over {K : PySem.W.Frag} {s g : Addr} {p : Prt} {b e : Nat} {H : Hp} {Q : VK} {E : XK} (hs : SetAt K H s p) (ok : p.Ok) (hg : H g = some (.tup [.int b, .int e])) (hbe : b ≤ e ∧ e ≤ b + 1000 ∧ e ≤ 1000000000000000000000000000002)
  (k : ∀ q xs H', H q = none → Same H H' → H' q = some (.lst xs) → AllN H' xs → xs.length ≤ 110000 → (b = e → xs = []) → (b < e → ∃ L t i, IsHt p.fan.toNat b (e - 1) L ∧ atI xs (-1) = some (.ref t) ∧ H' t = some (.tup [.int ((L - 1 : Nat) : Int), .int i])) → Q (.ref q) H') :
  sp_nodes_over K [.ref s, .ref g] H Q E := by unfold sp_nodes_over; exact ⟨s, g, p, b, e, rfl, hs, ok, hg, hbe, k⟩
theorem b_nodes_over {K : PySem.W.Frag} {fd : FuncData} (F : F_nodes_over K fd) : Binds K fd P_nodes_over [] := FunD.bindsN F fun _ _ _ _ _ _ us hl => match us, hl with | [_, _], _ => rfl
theorem ok_nodes_over (T : Txt K mg D) : FnOk P w K mg base CX0 2 (He.fAd K ("nodes_over", none)) (D D_nodes_over) P_nodes_over (sp_nodes_over K) := by
  refine T.d_nodes_over.ok sc_nodes_over (fun vs H Q E h => ?_) (fun cdv A outer s H vs Q E hr h => ?_)
  · unfold sp_nodes_over at h
    first | (obtain ⟨rfl, _⟩ := h; rfl) | (obtain ⟨_, rfl, _⟩ := h; rfl) | (obtain ⟨_, _, rfl, _⟩ := h; rfl) | (obtain ⟨_, _, _, rfl, _⟩ := h; rfl) | (obtain ⟨_, _, _, _, rfl, _⟩ := h; rfl) | (obtain ⟨_, _, _, _, _, rfl, _⟩ := h; rfl) | (obtain ⟨_, _, _, _, _, _, rfl, _⟩ := h; rfl) | (obtain ⟨_, _, _, _, _, _, _, rfl, _⟩ := h; rfl) | (obtain ⟨_, _, _, _, _, _, _, _, rfl, _⟩ := h; rfl) | (obtain ⟨_, _, _, _, _, _, _, _, _, rfl, _⟩ := h; rfl) | (obtain ⟨_, _, _, _, _, _, _, _, _, _, rfl, _⟩ := h; rfl) | (obtain ⟨_, _, _, _, _, _, _, _, _, _, _, rfl, _⟩ := h; rfl)
  · refine ⟨_, PSs.nox (pss_cons (ps_set (i := 2) sc_nodes_over.nd rfl (Or.inl rfl) (pe_lst pa_nil))
      (pss_cons (ps_if (pt_cmpR op_eq (pe_ix (ix_tupK (K := K)) (pv 1) pe_int (fun _ _ => rfl)) (pe_ix (ix_tupK (K := K)) (pv 1) pe_int (fun _ _ => rfl)) (nomark _)) (pss_one (ps_ret (pv 2))) pss_nil)
      (pss_cons (ps_par (i := 3) (j := 4) (by rfl) sc_nodes_over.nd rfl rfl (by decide) rfl rfl (pa_cons (pe_ix (ix_tupK (K := K)) (pv 1) pe_int (fun _ _ => rfl)) (pa_cons (pe_op op_sub (pe_ix (ix_tupK (K := K)) (pv 1) pe_int (fun _ _ => rfl)) pe_int) pa_nil)) (by rfl))
      (pss_cons (ps_for PassesOwn.never rfl (pi_range1 (by rfl) T.n_range (pa_cons (pe_op op_add (pe_call (ok_root_level T) (hr.mono (by decide)) rfl T.g_root_level T.d_root_level.kp (b_root_level T.d_root_level) .nil pass0 (pa_cons (pv 3) (pa_cons (pv 4) (pa_cons (pe_fldK (K := K) (pv 0) rfl) pa_nil)))) pe_int) pa_nil)) (pg_name (i := 5) sc_nodes_over.nd rfl (Or.inr rfl)) (pss_cons (ps_par (i := 3) (j := 4) (by rfl) sc_nodes_over.nd rfl rfl (by decide) rfl rfl (pa_cons (pe_op op_fdivW (pv 3) (pe_fldK (K := K) (pv 0) rfl)) (pa_cons (pe_op op_fdivW (pv 4) (pe_fldK (K := K) (pv 0) rfl)) pa_nil)) (by rfl))
      (pss_one (ps_expr (pe_bm PySem.F.plainAttrs_list PySem.F.slot_list_extend PySem.F.type_list_extend mt_extend (pv 2) (pa_cons (pe_lc (own := [("index", 6)]) rfl sc_nodes_over.nd (pi_rangeB (by rfl) T.n_range (pa_cons (pv 3) (pa_cons (pe_op op_add (pv 4) pe_int) pa_nil))) (blkOk_by (N := N_nodes_over) (sc := defScope s_nodes_over) (by decide +kernel)) (fun _ _ _ _ _ => (pg_name (i := 6) sc_nodes_over.nd rfl (Or.inl rfl))) (fun _ _ _ _ _ => pts_nil) (fun _ _ _ _ _ => (pe_tup (pa_cons (pv 5) (pa_cons (pv 6) pa_nil))))) pa_nil))))))
      (pss_one (ps_ret (pv 2))))))), ?_⟩
    unfold sp_nodes_over at h
    obtain ⟨s, g, p, b, e, rfl, hs, ok, hg, ⟨hbe, hbe2, hbe3⟩, k⟩ := h
    obtain ⟨dx, t, hb, _⟩ := id hs
    walk_at "rd"
    intro q n0
    generalize eG0 : upd _ q _ = G0
    obtain ⟨g0, c0⟩ := gen_new n0 eG0
    clear eG0
    have hg0 := g0 _ _ hg
    have hb0 := g0 _ _ hb
    walk_at "rd"
    refine ite2 (fun c => ?_) (fun c => ?_)
    · have c := dvi c
      have c : b = e := by omega
      walk_at "rd"
      exact k q [] G0 n0 g0 c0 (fun v hv => (nomatch hv)) (Nat.zero_le _) (fun _ => rfl) (fun z => by omega)
    · have c := dvn c
      have c : b < e := by omega
      have hf := ok.f
      obtain ⟨L, hL, _⟩ := isht_ex (fan2 ok) (show b ≤ e - 1 by omega)
      walk_at "rd"
      refine use_root_level rfl (show (e : Int) - 1 = ((e - 1 : Nat) : Int) by omega) hf hL ?_
      have hL1 := hL.1
      have hcap : L ≤ 102 := by
        by_cases z : L ≤ 102
        · exact z
        · have hne := hL.2.2 102 (by omega) (by omega)
          have hb2 : e - 1 < p.fan.toNat ^ 102 := by
            have h2 := Nat.pow_le_pow_left (fan2 ok) 102
            have h3 : 1000000000000000000000000000002 < 2 ^ 102 := by decide
            omega
          rw [Nat.div_eq_of_lt hb2, Nat.div_eq_of_lt (show b < p.fan.toNat ^ 102 by omega)] at hne
          exact absurd rfl hne
      walk_at "rd"
      generalize hN : Int.toNat _ = N
      obtain rfl : N = L := by omega
      have nq : ∀ {a : Addr} {o : HO}, H a = some o → a ≠ q := fun h => ne_of_none h n0
      refine for_range (lo := 0) (n := N) (fun i σ G => ∃ (xs : List V) (v5 v6 : Option V), σ = [some (.ref s), some (.ref g), some (.ref q), some (.int (b / p.fan.toNat ^ i : Nat)), some (.int ((e - 1) / p.fan.toNat ^ i : Nat)), v5, v6] ∧ SX [q] G0 G ∧ G q = some (.lst xs) ∧ AllN G xs ∧ xs.length ≤ 1001 * i ∧
        (0 < i → ∃ t z, atI xs (-1) = some (.ref t) ∧ G t = some (.tup [.int ((i - 1 : Nat) : Int), .int z]))) ⟨[], none, none, ?_, SX.refl, c0, fun v hv => (nomatch hv), Nat.zero_le _, fun z => by omega⟩ ?_ ?_
      · rw [Nat.pow_zero, Nat.div_one, Nat.div_one]
        exact congrArg (fun u : Int => ([some (.ref s), some (.ref g), some (.ref q), some (.int b), some (.int u), none, none] : L2.St)) (show (e : Int) - 1 = ((e - 1 : Nat) : Int) by omega)
      · rintro i σ G hi ⟨xs, v5, v6, rfl, fx, hq, hA, hlen, hlast⟩
        have hbG := fx _ _ (by simp [nq hb]) hb0
        have hmono := Nat.div_le_div_right (c := p.fan.toNat ^ (i + 1)) (show b ≤ e - 1 by omega)
        have hdiff : (e - 1) / p.fan.toNat ^ (i + 1) ≤ b / p.fan.toNat ^ (i + 1) + 1000 := by
          have h1 := Nat.div_le_div_right (c := p.fan.toNat ^ (i + 1)) (show e - 1 ≤ b + 1000 by omega)
          have hpos := fan_pos ok (i + 1)
          have h2 : (b + 1000) / p.fan.toNat ^ (i + 1) ≤ b / p.fan.toNat ^ (i + 1) + 1000 := by
            refine Nat.le_of_lt_succ ((Nat.div_lt_iff_lt_mul hpos).mpr ?_)
            have h3 := Nat.lt_div_mul_add hpos (a := b)
            have h4 := Nat.mul_le_mul_left 1000 hpos
            rw [Nat.succ_mul, Nat.add_mul]
            omega
          omega
        have ex := div_pow hf.1 b i
        have ey := div_pow hf.1 (e - 1) i
        generalize hx : b / p.fan.toNat ^ (i + 1) = x at hmono hdiff ex
        generalize hy : (e - 1) / p.fan.toNat ^ (i + 1) = y at hmono hdiff ey
        walk_at "rd"
        refine ⟨.inl ⟨rfl, _, SqL.of hq⟩, ?_⟩
        walk_at "rd"
        intro D nD
        refine lc_range (lo := ((b / p.fan.toNat ^ i : Nat) : Int) / p.fan) (n := Int.toNat _) (fun j G' => ∃ ys : List V, G' D = some (.lst ys) ∧ SX [D] G G' ∧ AllN G' ys ∧ ys.length = j ∧ (0 < j → ∃ t z, atI ys (-1) = some (.ref t) ∧ G' t = some (.tup [.int (i : Nat), .int z]))) ⟨[], upd_same, SX.refl.mut nD, fun v hv => (nomatch hv), rfl, fun z => by omega⟩ ?_ ?_
        · rintro j G' hj ⟨ys, hD, fz, hB, hl, hl2⟩
          refine ⟨rfl, ?_⟩
          walk_at "rd"
          intro t n2
          generalize eG2 : upd _ t _ = G2
          obtain ⟨g2, c2⟩ := gen_new n2 eG2
          clear eG2
          have hD2 := g2 _ _ hD
          have ntD : t ≠ D := (ne_of_none hD n2).symm
          refine ⟨_, hD2, szlt (by rw [ex, ey] at hj; omega), ys ++ [.ref t], upd_same, (fz.trans g2.sx).upd (by simp), fun v hv => ?_, by rw [List.length_append, hl]; rfl, fun _ => ⟨t, _, atI_last _ _, by rw [upd_ne ntD, c2]; exact congrArg (fun u : Int => some (HO.tup [V.int u, V.int (((b / p.fan.toNat ^ i : Nat) : Int) / p.fan + (j : Int))])) (show (0 : Int) + (i : Int) = (i : Int) by omega)⟩⟩
          rcases List.mem_append.mp hv with hv | hv
          · obtain ⟨t', l', i', e1, e2⟩ := hB v hv
            have := g2 _ _ e2
            exact ⟨t', l', i', e1, by rw [upd_ne (ne_of this hD2 (by intro z; cases z))]; exact this⟩
          · rw [List.mem_singleton.mp hv]
            exact ⟨t, _, _, rfl, by rw [upd_ne ntD]; exact c2⟩
        · rintro G' ⟨ys, hD, fz, hB, hl, hl2⟩
          have sG' : Same G G' := fun c o ho => fz _ _ (by simp [ne_of_none ho nD]) ho
          have hq' := sG' _ _ hq
          have hyl : ys.length ≤ 1001 ∧ 0 < ys.length := by
            rw [hl, ex, ey]
            omega
          walk_at "rd"
          refine ⟨_, _, _, _, rfl, rfl, hq', hD, by rw [sizeLine_eq]; omega, ?_⟩
          walk_at "rd"
          have nDq : D ≠ q := (ne_of_none hq nD).symm
          obtain ⟨t, z, e1, e2⟩ := hl2 (by rw [← hl]; exact hyl.2)
          have up : ∀ {a : Addr} {zs : List V} (o : HO), G' a = some (.tup zs) → upd G' q o a = some (.tup zs) := fun o h => by rw [upd_ne (ne_of h hq' (by intro z; cases z))]; exact h
          refine ⟨xs ++ ys, some (.int (0 + (i : Int))), v6, ?_, (fx.trans sG'.sx).upd (by simp), upd_same, fun v hv => ?_, by rw [List.length_append]; omega, fun _ => ⟨t, z, ?_, up _ e2⟩⟩
          · exact congr (congrArg (fun u v : Int => ([some (.ref s), some (.ref g), some (.ref q), some (.int u), some (.int v), some (.int (0 + (i : Int))), v6] : L2.St)) ex) ey
          · rcases List.mem_append.mp hv with hv | hv
            · obtain ⟨t', l', i', e1, e2⟩ := (hA.same sG') v hv
              exact ⟨t', l', i', e1, up _ e2⟩
            · obtain ⟨t', l', i', e1, e2⟩ := hB v hv
              exact ⟨t', l', i', e1, up _ e2⟩
          · obtain ⟨ys', w, rfl⟩ : ∃ ys' w, ys = ys' ++ [w] := ⟨ys.dropLast, ys.getLast (by intro z; rw [z] at hyl; simp at hyl), (List.dropLast_concat_getLast _).symm⟩
            rw [← List.append_assoc, atI_last]
            rw [atI_last] at e1
            exact e1
      · rintro σ G ⟨xs, v5, v6, rfl, fx, hq, hA, hlen, hlast⟩
        walk_at "rd"
        obtain ⟨t, z, e1, e2⟩ := hlast (by omega)
        exact k q xs G n0 (fun c o ho => fx _ _ (by simp [ne_of_none ho n0]) (g0 _ _ ho)) hq hA (by omega) (fun z => by omega) (fun _ => ⟨N, t, z, hL, e1, e2⟩)

theorem lv_le {p : Prt} (ok : p.Ok) {b e : Nat} (h : b ≤ e) (h1 : e ≤ b + 100) (h2 : e ≤ 1000000000000000000000000000000) : lvF p b e ≤ lvA p b e ∧ lvA p b e ≤ lvF p b e + 1000 ∧ lvA p b e ≤ 1000000000000000000000000000002 := by
  unfold lvF lvA
  by_cases c : b = e
  · rw [if_pos c, if_pos c]; omega
  · rw [if_neg c, if_neg c]
    have a1 := pgN_mono ok (show b ≤ e - 1 by omega)
    have a2 := pgN_diff ok (show b ≤ e - 1 by omega)
    have a3 := pgN_le ok (e - 1)
    omega
def TopN (p : Prt) (m : Nat) (H : Hp) (xs : List V) : Prop := (m = 0 → xs = []) ∧ (0 < m → xs ≠ [] ∧ ∃ t i, atI xs (-1) = some (.ref t) ∧ H t = some (.tup [.int ((ht p m - 1 : Nat) : Int), .int i]))
@[irreducible] def sp_tree_nodes (K : PySem.W.Frag) : Sp := fun vs H Q _ => ∃ (s : Addr) (p : Prt) (m : Nat), vs = [.ref s, .int m] ∧ SetAt K H s p ∧ p.Ok ∧ m ≤ 1000000000000000000000000000000 ∧
  ∀ q xs H', Same H H' → H' q = some (.lst xs) → AllN H' xs → xs.length ≤ 110000 → TopN p m H' xs → Q (.ref q) H'
theorem use_tree_nodes {K : PySem.W.Frag} {s : Addr} {p : Prt} {m : Nat} {i : Int} {H : Hp} {Q : VK} {E : XK} (hi : i = (m : Int)) (hs : SetAt K H s p) (ok : p.Ok) (hm : m ≤ 1000000000000000000000000000000)
  (k : ∀ q xs H', Same H H' → H' q = some (.lst xs) → AllN H' xs → xs.length ≤ 110000 → TopN p m H' xs → Q (.ref q) H') : sp_tree_nodes K [.ref s, .int i] H Q E := by subst hi; unfold sp_tree_nodes; exact ⟨s, p, m, rfl, hs, ok, hm, k⟩
theorem b_tree_nodes {K : PySem.W.Frag} {fd : FuncData} (F : F_tree_nodes K fd) : Binds K fd P_tree_nodes [] := FunD.bindsN F fun _ _ _ _ _ _ us hl => match us, hl with | [_, _], _ => rfl
theorem ok_tree_nodes (T : Txt K mg D) : FnOk P w K mg base CX0 8 (He.fAd K ("tree_nodes", none)) (D D_tree_nodes) P_tree_nodes (sp_tree_nodes K) := by
  refine T.d_tree_nodes.ok sc_tree_nodes (fun vs H Q E h => ?_) (fun cdv A outer s H vs Q E hr h => ?_)
  · unfold sp_tree_nodes at h
    first | (obtain ⟨rfl, _⟩ := h; rfl) | (obtain ⟨_, rfl, _⟩ := h; rfl) | (obtain ⟨_, _, rfl, _⟩ := h; rfl) | (obtain ⟨_, _, _, rfl, _⟩ := h; rfl) | (obtain ⟨_, _, _, _, rfl, _⟩ := h; rfl) | (obtain ⟨_, _, _, _, _, rfl, _⟩ := h; rfl) | (obtain ⟨_, _, _, _, _, _, rfl, _⟩ := h; rfl) | (obtain ⟨_, _, _, _, _, _, _, rfl, _⟩ := h; rfl) | (obtain ⟨_, _, _, _, _, _, _, _, rfl, _⟩ := h; rfl) | (obtain ⟨_, _, _, _, _, _, _, _, _, rfl, _⟩ := h; rfl) | (obtain ⟨_, _, _, _, _, _, _, _, _, _, rfl, _⟩ := h; rfl) | (obtain ⟨_, _, _, _, _, _, _, _, _, _, _, rfl, _⟩ := h; rfl)
  · refine ⟨_, PSs.nox (pss_cons (ps_expr (pe_call (ok_check_settings T) (hr.mono (by decide)) rfl T.g_check_settings T.d_check_settings.kp (b_check_settings T.d_check_settings) .nil pass0 (pa_cons (pv 0) pa_nil)))
      (pss_cons (ps_expr (pe_call (ok_check_moment T) (hr.mono (by decide)) rfl T.g_check_moment T.d_check_moment.kp (b_check_moment T.d_check_moment) .nil pass0 (pa_cons (pv 1) pa_nil)))
      (pss_one (ps_ret (pe_call (ok_nodes_over T) (hr.mono (by decide)) rfl T.g_nodes_over T.d_nodes_over.kp (b_nodes_over T.d_nodes_over) .nil pass0 (pa_cons (pv 0) (pa_cons (pe_call (ok_live T) (hr.mono (by decide)) rfl T.g_live T.d_live.kp (b_live T.d_live) .nil pass0 (pa_cons (pv 0) (pa_cons (pv 1) pa_nil))) pa_nil))))))), ?_⟩
    unfold sp_tree_nodes at h
    obtain ⟨s, p, m, rfl, hs, ok, hm, k⟩ := h
    obtain ⟨dx, t, hb, _⟩ := id hs
    walk_at "rd"
    refine use_check_settings hb ?_
    walk_at "rd"
    refine use_check_moment ⟨by omega, by omega⟩ ?_
    walk_at "rd"
    refine use_live rfl hs ok fun q1 G1 n1 g1 c1 => ?_
    have hk := kb_le ok m
    refine use_nodes_over (hs.same g1) ok c1 (lv_le ok hk.1 (by omega) hm) fun q xs G2 n2 g2 c2 hA hl h1 h2 => ?_
    refine k q xs G2 (g1.trans g2) c2 hA hl ⟨fun h0 => h1 ?_, fun h0 => ?_⟩
    · subst h0
      have := (kb_eq ok 0).mpr rfl
      unfold lvF lvA
      rw [if_pos this, if_pos this]
    · have hne : ¬ kbN p m = m := fun z => by have := (kb_eq ok m).mp z; omega
      have e1 : lvF p (kbN p m) m = pgN p (kbN p m) := by unfold lvF; rw [if_neg hne]
      have e2 : lvA p (kbN p m) m = pgN p (m - 1) + 1 := by unfold lvA; rw [if_neg hne]
      have hlt : lvF p (kbN p m) m < lvA p (kbN p m) m := by rw [e1, e2]; have := kb_pg ok (show 1 ≤ m by omega); omega
      obtain ⟨L, t, i, hL, a1, a2⟩ := h2 hlt
      rw [e1, e2, Nat.add_sub_cancel] at hL
      have eL : ht p m = L := (ht_is ok (show 1 ≤ m by omega)).uniq hL
      refine ⟨fun z => ?_, t, i, a1, by rw [eL]; exact a2⟩
      rw [z] at a1
      exact absurd a1 (by unfold atI; simp)

theorem nb_pair (l i : Int) : nbD (.tuple (pyi [l, i])) = true := nb_ints [l, i]
theorem alln_dp {K : PySem.W.Frag} {H : Hp} : ∀ {xs : List V}, AllN H xs → ∃ ds, DpAll K H xs ds ∧ nbA ds = true ∧ PyData.depthAll ds ≤ 1 ∧ (ds = [] ↔ xs = [])
  | [], _ => ⟨[], .nil, rfl, by decide, ⟨fun _ => rfl, fun _ => rfl⟩⟩
  | v :: xs, h => by
    obtain ⟨t, l, i, rfl, e⟩ := h v (List.mem_cons_self ..)
    obtain ⟨ds, h1, h2, h3, _⟩ := alln_dp (K := K) (fun w hw => h w (List.mem_cons_of_mem _ hw))
    refine ⟨.tuple (pyi [l, i]) :: ds, .cons (.tup (SqT.of e) (dp_pyi [l, i])) h1, ?_, ?_, ⟨fun z => (nomatch z), fun z => (nomatch z)⟩⟩
    · show (nbD (.tuple (pyi [l, i])) && nbA ds) = true
      rw [nb_pair, h2]; rfl
    · show max (PyData.depth (.tuple (pyi [l, i]))) (PyData.depthAll ds) ≤ 1
      have : PyData.depth (.tuple (pyi [l, i])) = 1 := by show PyData.depthAll (pyi [l, i]) + 1 = 1; rw [dep_ints]
      omega
@[irreducible] def sp_tree_root (K : PySem.W.Frag) : Sp := fun vs H Q _ => ∃ (s : Addr) (p : Prt) (m : Nat), vs = [.ref s, .int m] ∧ SetAt K H s p ∧ p.Ok ∧ m ≤ 1000000000000000000000000000000 ∧
  (m = 0 → ∀ H', Same H H' → Q .non H') ∧ (0 < m → ∀ t i H', Same H H' → H' t = some (.tup [.int ((ht p m - 1 : Nat) : Int), .int i]) → Q (.ref t) H')
theorem use_tree_root {K : PySem.W.Frag} {s : Addr} {p : Prt} {m : Nat} {i : Int} {H : Hp} {Q : VK} {E : XK} (hi : i = (m : Int)) (hs : SetAt K H s p) (ok : p.Ok) (hm : m ≤ 1000000000000000000000000000000)
  (k0 : m = 0 → ∀ H', Same H H' → Q .non H') (k1 : 0 < m → ∀ t i H', Same H H' → H' t = some (.tup [.int ((ht p m - 1 : Nat) : Int), .int i]) → Q (.ref t) H') : sp_tree_root K [.ref s, .int i] H Q E := by
  subst hi; unfold sp_tree_root; exact ⟨s, p, m, rfl, hs, ok, hm, k0, k1⟩
theorem b_tree_root {K : PySem.W.Frag} {fd : FuncData} (F : F_tree_root K fd) : Binds K fd P_tree_root [] := FunD.bindsN F fun _ _ _ _ _ _ us hl => match us, hl with | [_, _], _ => rfl
theorem ok_tree_root (T : Txt K mg D) : FnOk P w K mg base CX0 9 (He.fAd K ("tree_root", none)) (D D_tree_root) P_tree_root (sp_tree_root K) := by
  refine T.d_tree_root.ok sc_tree_root (fun vs H Q E h => ?_) (fun cdv A outer s H vs Q E hr h => ?_)
  · unfold sp_tree_root at h
    first | (obtain ⟨rfl, _⟩ := h; rfl) | (obtain ⟨_, rfl, _⟩ := h; rfl) | (obtain ⟨_, _, rfl, _⟩ := h; rfl) | (obtain ⟨_, _, _, rfl, _⟩ := h; rfl) | (obtain ⟨_, _, _, _, rfl, _⟩ := h; rfl) | (obtain ⟨_, _, _, _, _, rfl, _⟩ := h; rfl) | (obtain ⟨_, _, _, _, _, _, rfl, _⟩ := h; rfl) | (obtain ⟨_, _, _, _, _, _, _, rfl, _⟩ := h; rfl) | (obtain ⟨_, _, _, _, _, _, _, _, rfl, _⟩ := h; rfl) | (obtain ⟨_, _, _, _, _, _, _, _, _, rfl, _⟩ := h; rfl) | (obtain ⟨_, _, _, _, _, _, _, _, _, _, rfl, _⟩ := h; rfl) | (obtain ⟨_, _, _, _, _, _, _, _, _, _, _, rfl, _⟩ := h; rfl)
  · refine ⟨_, PSs.nox (pss_cons (ps_set (i := 2) sc_tree_root.nd rfl (Or.inl rfl) (pe_call (ok_tree_nodes T) (hr.mono (by decide)) rfl T.g_tree_nodes T.d_tree_nodes.kp (b_tree_nodes T.d_tree_nodes) .nil pass0 (pa_cons (pv 0) (pa_cons (pv 1) pa_nil))))
      (pss_one (ps_ret (pe_ifExp (pt_cmpR (op_eqNK (K := K) hr.units) (pv 2) (pe_lst pa_nil) (nomark _)) pe_non (pe_ix (ix_listK (K := K)) (pv 2) (pe_un un_neg pe_int) (fun _ _ => rfl)))))), ?_⟩
    unfold sp_tree_root at h
    obtain ⟨s, p, m, rfl, hs, ok, hm, k0, k1⟩ := h
    walk_at "rd"
    refine use_tree_nodes rfl hs ok hm fun q xs G1 g1 c1 hA hl ⟨h0, h1⟩ => ?_
    walk_at "rd"
    intro q2 n2
    generalize eG2 : upd _ q2 _ = G2
    obtain ⟨g2, c2⟩ := gen_new n2 eG2
    clear eG2
    obtain ⟨ds, d1, d2, d3, d4⟩ := alln_dp (K := K) (hA.same g2)
    refine use_eqN (.lst (SqL.of (g2 _ _ c1)) d1) (.lst (SqL.of c2) .nil) ⟨d2, by show PyData.depthAll ds + 1 ≤ 64; omega⟩ (nb_list []) fun e he => ?_
    by_cases z : m = 0
    · have he : e = true := he.mpr (by rw [d4.mpr (h0 z)])
      subst he
      walk_at "rd"
      exact k0 z G2 (g1.trans g2)
    · obtain ⟨hne, t, i, a1, a2⟩ := h1 (by omega)
      have he : e = false := by
        cases e with
        | false => rfl
        | true =>
          have := he.mp rfl
          injection this with this
          exact absurd (d4.mp this) hne
      subst he
      walk_at "rd"
      refine ⟨_, _, _, _, rfl, rfl, SqL.of (g2 _ _ c1), a1, ?_⟩
      exact k1 (by omega) t i G2 (g1.trans g2) (g2 _ _ a2)

@[irreducible] def sp_tree_height (K : PySem.W.Frag) : Sp := fun vs H Q _ => ∃ (s : Addr) (p : Prt) (m : Nat), vs = [.ref s, .int m] ∧ SetAt K H s p ∧ p.Ok ∧ m ≤ 1000000000000000000000000000000 ∧ ∀ H', Same H H' → Q (.int (ht p m : Nat)) H'
theorem use_tree_height {K : PySem.W.Frag} {s : Addr} {p : Prt} {m : Nat} {i : Int} {H : Hp} {Q : VK} {E : XK} (hi : i = (m : Int)) (hs : SetAt K H s p) (ok : p.Ok) (hm : m ≤ 1000000000000000000000000000000) (k : ∀ H', Same H H' → Q (.int (ht p m : Nat)) H') :
  sp_tree_height K [.ref s, .int i] H Q E := by subst hi; unfold sp_tree_height; exact ⟨s, p, m, rfl, hs, ok, hm, k⟩
theorem b_tree_height {K : PySem.W.Frag} {fd : FuncData} (F : F_tree_height K fd) : Binds K fd P_tree_height [] := FunD.bindsN F fun _ _ _ _ _ _ us hl => match us, hl with | [_, _], _ => rfl
theorem ok_tree_height (T : Txt K mg D) : FnOk P w K mg base CX0 10 (He.fAd K ("tree_height", none)) (D D_tree_height) P_tree_height (sp_tree_height K) := by
  refine T.d_tree_height.ok sc_tree_height (fun vs H Q E h => ?_) (fun cdv A outer s H vs Q E hr h => ?_)
  · unfold sp_tree_height at h
    first | (obtain ⟨rfl, _⟩ := h; rfl) | (obtain ⟨_, rfl, _⟩ := h; rfl) | (obtain ⟨_, _, rfl, _⟩ := h; rfl) | (obtain ⟨_, _, _, rfl, _⟩ := h; rfl) | (obtain ⟨_, _, _, _, rfl, _⟩ := h; rfl) | (obtain ⟨_, _, _, _, _, rfl, _⟩ := h; rfl) | (obtain ⟨_, _, _, _, _, _, rfl, _⟩ := h; rfl) | (obtain ⟨_, _, _, _, _, _, _, rfl, _⟩ := h; rfl) | (obtain ⟨_, _, _, _, _, _, _, _, rfl, _⟩ := h; rfl) | (obtain ⟨_, _, _, _, _, _, _, _, _, rfl, _⟩ := h; rfl) | (obtain ⟨_, _, _, _, _, _, _, _, _, _, rfl, _⟩ := h; rfl) | (obtain ⟨_, _, _, _, _, _, _, _, _, _, _, rfl, _⟩ := h; rfl)
  · refine ⟨_, PSs.nox (pss_cons (ps_set (i := 2) sc_tree_height.nd rfl (Or.inl rfl) (pe_call (ok_tree_root T) (hr.mono (by decide)) rfl T.g_tree_root T.d_tree_root.kp (b_tree_root T.d_tree_root) .nil pass0 (pa_cons (pv 0) (pa_cons (pv 1) pa_nil))))
      (pss_one (ps_ret (pe_ifExp (pt_cmpR op_isN (pv 2) pe_non (nomark _)) pe_int (pe_op op_add (pe_ix (ix_tupK (K := K)) (pv 2) pe_int (fun _ _ => rfl)) pe_int))))), ?_⟩
    unfold sp_tree_height at h
    obtain ⟨s, p, m, rfl, hs, ok, hm, k⟩ := h
    walk_at "rd"
    refine use_tree_root rfl hs ok hm (fun z G1 g1 => ?_) (fun z t i G1 g1 c1 => ?_)
    · subst z
      have k := k G1 g1
      rw [ht_zero] at k
      walk_at "rd"
      exact k
    · have k := k G1 g1
      have h1 := (ht_is ok (show 1 ≤ m by omega)).1
      rw [show ((ht p m : Nat) : Int) = ((ht p m - 1 : Nat) : Int) + 1 by omega] at k
      walk_at "rd"
      exact k

@[irreducible] def sp_next_border (K : PySem.W.Frag) : Sp := fun vs H Q _ => ∃ (s : Addr) (p : Prt) (m l : Nat), vs = [.ref s, .int m, .int l] ∧ SetAt K H s p ∧ p.Ok ∧ m ≤ 1000000000000000000000000000000 ∧ l ≤ 110 ∧
  (∀ H', Same H H' → Q .non H') ∧ (∀ q (r b : Nat) H', Same H H' → r < 1000000000000000000000000000000 → H' q = some (.tup [.int r, .int b]) → Q (.ref q) H')
theorem use_next_border {K : PySem.W.Frag} {s : Addr} {p : Prt} {m l : Nat} {i j : Int} {H : Hp} {Q : VK} {E : XK} (hi : i = (m : Int)) (hj : j = (l : Int)) (hs : SetAt K H s p) (ok : p.Ok) (hm : m ≤ 1000000000000000000000000000000) (hl : l ≤ 110)
  (k0 : ∀ H', Same H H' → Q .non H') (k1 : ∀ q (r b : Nat) H', Same H H' → r < 1000000000000000000000000000000 → H' q = some (.tup [.int r, .int b]) → Q (.ref q) H') : sp_next_border K [.ref s, .int i, .int j] H Q E := by
  subst hi hj; unfold sp_next_border; exact ⟨s, p, m, l, rfl, hs, ok, hm, hl, k0, k1⟩
theorem b_next_border {K : PySem.W.Frag} {fd : FuncData} (F : F_next_border K fd) : Binds K fd P_next_border [] := FunD.bindsN F fun _ _ _ _ _ _ us hl => match us, hl with | [_, _, _], _ => rfl
theorem ok_next_border (T : Txt K mg D) : FnOk P w K mg base CX0 6 (He.fAd K ("next_border", none)) (D D_next_border) P_next_border (sp_next_border K) := by
  refine T.d_next_border.ok sc_next_border (fun vs H Q E h => ?_) (fun cdv A outer s H vs Q E hr h => ?_)
  · unfold sp_next_border at h
    first | (obtain ⟨rfl, _⟩ := h; rfl) | (obtain ⟨_, rfl, _⟩ := h; rfl) | (obtain ⟨_, _, rfl, _⟩ := h; rfl) | (obtain ⟨_, _, _, rfl, _⟩ := h; rfl) | (obtain ⟨_, _, _, _, rfl, _⟩ := h; rfl) | (obtain ⟨_, _, _, _, _, rfl, _⟩ := h; rfl) | (obtain ⟨_, _, _, _, _, _, rfl, _⟩ := h; rfl) | (obtain ⟨_, _, _, _, _, _, _, rfl, _⟩ := h; rfl) | (obtain ⟨_, _, _, _, _, _, _, _, rfl, _⟩ := h; rfl) | (obtain ⟨_, _, _, _, _, _, _, _, _, rfl, _⟩ := h; rfl) | (obtain ⟨_, _, _, _, _, _, _, _, _, _, rfl, _⟩ := h; rfl) | (obtain ⟨_, _, _, _, _, _, _, _, _, _, _, rfl, _⟩ := h; rfl)
  · refine ⟨_, PSs.nox (pss_cons (ps_expr (pe_call (ok_check_settings T) (hr.mono (by decide)) rfl T.g_check_settings T.d_check_settings.kp (b_check_settings T.d_check_settings) .nil pass0 (pa_cons (pv 0) pa_nil)))
      (pss_cons (ps_expr (pe_call (ok_check_moment T) (hr.mono (by decide)) rfl T.g_check_moment T.d_check_moment.kp (b_check_moment T.d_check_moment) .nil pass0 (pa_cons (pv 1) pa_nil)))
      (pss_cons (ps_expr (pe_call (ok_check_level T) (hr.mono (by decide)) rfl T.g_check_level T.d_check_level.kp (b_check_level T.d_check_level) .nil pass0 (pa_cons (pv 2) pa_nil)))
      (pss_cons (ps_par (i := 3) (j := 4) (by rfl) sc_next_border.nd rfl rfl (by decide) rfl rfl (pa_cons (pe_call (ok_multiplied T) (hr.mono (by decide)) rfl T.g_multiplied T.d_multiplied.kp (b_multiplied T.d_multiplied) .nil pass0 (pa_cons (pe_fldK (K := K) (pv 0) rfl) (pa_cons (pv 2) pa_nil))) (pa_cons (pe_call (ok_page_at T) (hr.mono (by decide)) rfl T.g_page_at T.d_page_at.kp (b_page_at T.d_page_at) .nil pass0 (pa_cons (pv 0) (pa_cons (pv 1) pa_nil))) pa_nil)) (by rfl))
      (Evl.pss_cut (ps_if (pt_cmpR op_lt (pe_call (ok_first_at T) (hr.mono (by decide)) rfl T.g_first_at T.d_first_at.kp (b_first_at T.d_first_at) .nil pass0 (pa_cons (pv 0) (pa_cons (pv 4) pa_nil))) (pv 1) (nomark _)) (pss_one (ps_aug (i := 4) sc_next_border.nd rfl (Or.inl rfl) pe_int ip_add)) pss_nil)
      (pss_cons (ps_set (i := 5) sc_next_border.nd rfl (Or.inl rfl) (pe_op op_mulW (pe_callB (call_max2 rfl) (by rfl) T.n_max (by decide +kernel) (pa_cons pe_int (pa_cons (pe_op op_fdivW (pe_op op_sub (pe_op op_add (pv 4) (pv 3)) pe_int) (pv 3)) pa_nil))) (pv 3)))
      (pss_cons (ps_set (i := 6) sc_next_border.nd rfl (Or.inl rfl) (pe_call (ok_first_at T) (hr.mono (by decide)) rfl T.g_first_at T.d_first_at.kp (b_first_at T.d_first_at) .nil pass0 (pa_cons (pv 0) (pa_cons (pv 5) pa_nil))))
      (pss_one (ps_ret (pe_ifExp (pt_cmpR op_lt (pv 6) (pe_globi T.i_MOST_ROW) (nomark _)) (pe_tup (pa_cons (pv 6) (pa_cons (pv 5) pa_nil))) pe_non)))))))))), ?_⟩
    unfold sp_next_border at h
    obtain ⟨s, p, m, l, rfl, hs, ok, hm, hl, k0, k1⟩ := h
    obtain ⟨dx, t, hb, _⟩ := id hs
    have hf := ok.f
    walk_at "rd"
    refine use_check_settings hb ?_
    walk_at "rd"
    refine use_check_moment ⟨by omega, by omega⟩ ?_
    walk_at "rd"
    refine use_level ⟨by omega, by omega⟩ ?_
    walk_at "rd"
    refine use_mult rfl (by omega) (by omega) ?_
    rw [fan_pow ok]
    have w0 := fan_pos ok l
    have w1 := fan_big ok (show l ≤ 330 by omega)
    generalize p.fan.toNat ^ l = W at w0 w1
    walk_at "rd"
    refine use_page_at rfl hs ok fun G1 g1 => ?_
    walk_at "rd"
    refine ⟨fun σ' H' => Same H H' ∧ ∃ n : Nat, n ≤ 1000000000000000000000000000001 ∧ σ' = [some (.ref s), some (.int m), some (.int l), some (.int W), some (.int n), none, none], ?_, ?_⟩
    · walk_at "rd"
      refine use_first_at rfl (hs.same g1) ok fun G2 g2 => ?_
      walk_at "rd"
      have hpm := pgN_le ok m
      refine ite2 (fun c => ?_) (fun c => ?_)
      · walk_at "rd"
        exact ⟨g1.trans g2, pgN p m + 1, by omega, rfl⟩
      · walk_at "rd"
        exact ⟨g1.trans g2, pgN p m, by omega, rfl⟩
    rintro σ' G ⟨g, n, hn, rfl⟩
    walk_at "rd"
    refine ⟨cdW w0 w1, ?_⟩
    walk_at "rd"
    have e1 : (if ((n : Int) + (W : Int) - 1) / (W : Int) > 1 then ((n : Int) + (W : Int) - 1) / (W : Int) else 1) = ((max 1 ((n + W - 1) / W) : Nat) : Int) := by
      rw [show (n : Int) + (W : Int) - 1 = ((n + W - 1 : Nat) : Int) by omega, ← Int.natCast_ediv]
      split <;> omega
    have hq : (n + W - 1) / W ≤ n + 1 := Nat.div_le_of_le_mul (by
      have := Nat.mul_le_mul_right n w0
      rw [Nat.mul_add, Nat.mul_one]
      omega)
    rw [e1]
    have hM2 : max 1 ((n + W - 1) / W) ≤ 100000000000000000000000000000000 := by omega
    generalize max 1 ((n + W - 1) / W) = M at hM2
    refine ⟨cmW hM2 w1, ?_⟩
    clear e1 hq
    walk_at "rd"
    refine use_first_at (n := M * W) (Int.natCast_mul _ _).symm (hs.same g) ok fun G3 g3 => ?_
    generalize hS : startN p (M * W) = S
    iterate 3 walk_at "s1"
    change if (decide ((S : Int) < 1000000000000000000000000000000)) = true then _ else _
    generalize hdc : decide ((S : Int) < 1000000000000000000000000000000) = dc
    cases dc with
    | true =>
      have c := of_decide_eq_true hdc
      walk_at "rd"
      intro q n4
      generalize eG4 : upd _ q _ = G4
      obtain ⟨g4, c4⟩ := gen_new n4 eG4
      clear eG4
      exact k1 q S (M * W) G4 ((g.trans g3).trans g4) (by omega) (by rw [c4, Int.natCast_mul])
    | false =>
      walk_at "rd"
      exact k0 G3 (g.trans g3)

theorem four_at {a b c d r : Int} (h0 : 0 ≤ r) (h1 : r < 4) : ∃ m, (m = a ∨ m = b ∨ m = c ∨ m = d) ∧ atI ([.int a, .int b, .int c, .int d] : List V) r = some (V.int m) := by
  obtain rfl | rfl | rfl | rfl : r = 0 ∨ r = 1 ∨ r = 2 ∨ r = 3 := by omega
  · exact ⟨a, .inl rfl, rfl⟩
  · exact ⟨b, .inr (.inl rfl), rfl⟩
  · exact ⟨c, .inr (.inr (.inl rfl)), rfl⟩
  · exact ⟨d, .inr (.inr (.inr rfl)), rfl⟩
def MoOk (z : Int) : Prop := 0 ≤ z ∧ z ≤ 999999999999999999999999999800
@[irreducible] def sp_law_moments (K : PySem.W.Frag) : Sp := fun vs H Q _ => ∃ (s d : Addr) (p : Prt) (f : Nat → Int), vs = [.ref s, .ref d] ∧ SetAt K H s p ∧ p.Ok ∧ DgOk f ∧ H d = some (.lst (dgL f)) ∧
  ∀ q (ms : List Int) H', Same H H' → H' q = some (.lst (ms.map V.int)) → ms.length = 8 → ms.Pairwise (· ≤ ·) → (∀ z ∈ ms, MoOk z) → Q (.ref q) H'
theorem use_moments {K : PySem.W.Frag} {s d : Addr} {p : Prt} {f : Nat → Int} {H : Hp} {Q : VK} {E : XK} (hs : SetAt K H s p) (ok : p.Ok) (hf : DgOk f) (hd : H d = some (.lst (dgL f)))
  (k : ∀ q (ms : List Int) H', Same H H' → H' q = some (.lst (ms.map V.int)) → ms.length = 8 → ms.Pairwise (· ≤ ·) → (∀ z ∈ ms, MoOk z) → Q (.ref q) H') : sp_law_moments K [.ref s, .ref d] H Q E := by
  unfold sp_law_moments; exact ⟨s, d, p, f, rfl, hs, ok, hf, hd, k⟩
theorem b_law_moments {K : PySem.W.Frag} {fd : FuncData} (F : F_law_moments K fd) : Binds K fd P_law_moments [] := FunD.bindsN F fun _ _ _ _ _ _ us hl => match us, hl with | [_, _], _ => rfl
theorem ok_law_moments (T : Txt K mg D) : FnOk P w K mg base CX0 7 (He.fAd K ("_law_moments", none)) (D D_law_moments) P_law_moments (sp_law_moments K) := by
  refine T.d_law_moments.ok sc_law_moments (fun vs H Q E h => ?_) (fun cdv A outer s H vs Q E hr h => ?_)
  · unfold sp_law_moments at h
    first | (obtain ⟨rfl, _⟩ := h; rfl) | (obtain ⟨_, rfl, _⟩ := h; rfl) | (obtain ⟨_, _, rfl, _⟩ := h; rfl) | (obtain ⟨_, _, _, rfl, _⟩ := h; rfl) | (obtain ⟨_, _, _, _, rfl, _⟩ := h; rfl) | (obtain ⟨_, _, _, _, _, rfl, _⟩ := h; rfl) | (obtain ⟨_, _, _, _, _, _, rfl, _⟩ := h; rfl) | (obtain ⟨_, _, _, _, _, _, _, rfl, _⟩ := h; rfl) | (obtain ⟨_, _, _, _, _, _, _, _, rfl, _⟩ := h; rfl) | (obtain ⟨_, _, _, _, _, _, _, _, _, rfl, _⟩ := h; rfl) | (obtain ⟨_, _, _, _, _, _, _, _, _, _, rfl, _⟩ := h; rfl) | (obtain ⟨_, _, _, _, _, _, _, _, _, _, _, rfl, _⟩ := h; rfl)
  · refine ⟨_, PSs.nox (pss_cons (ps_set (i := 2) sc_law_moments.nd rfl (Or.inl rfl) (pe_lst pa_nil))
      (pss_cons (ps_for PassesOwn.never rfl (pi_range1 (by rfl) T.n_range (pa_cons pe_int pa_nil)) (pg_name (i := 3) sc_law_moments.nd rfl (Or.inl rfl)) (pss_cons (ps_set (i := 4) sc_law_moments.nd rfl (Or.inl rfl) (pe_op op_add (pe_op op_mul (pe_ix (ix_listK (K := K)) (pv 1) (pe_op op_add pe_int (pv 3)) (fun _ _ => rfl)) (pe_ix (ix_listK (K := K)) (pe_lst (pa_cons (pe_powc (c := 1000) (by decide)) (pa_cons (pe_powc (c := 1000000000000) (by decide)) (pa_cons (pe_powc (c := 100000000000000000000) (by decide)) (pa_cons (pe_powc (c := 100000000000000000000000000) (by decide)) pa_nil))))) (pe_op op_mod (pe_callTy call_int1 (by rfl) T.n_int (by decide +kernel) (pa_cons (pe_ix (ix_listK (K := K)) (pv 1) (pe_op op_add pe_int (pv 3)) (fun _ _ => rfl)) pa_nil)) pe_int) (fun _ _ => rfl))) (pe_ix (ix_listK (K := K)) (pv 1) (pe_op op_add pe_int (pv 3)) (fun _ _ => rfl))))
      (pss_cons (ps_set (i := 5) sc_law_moments.nd rfl (Or.inl rfl) (pe_call (ok_next_border T) (hr.mono (by decide)) rfl T.g_next_border T.d_next_border.kp (b_next_border T.d_next_border) .nil pass0 (pa_cons (pv 0) (pa_cons (pv 4) (pa_cons (pe_op op_mod (pe_callTy call_int1 (by rfl) T.n_int (by decide +kernel) (pa_cons (pe_ix (ix_listK (K := K)) (pv 1) (pe_op op_add pe_int (pv 3)) (fun _ _ => rfl)) pa_nil)) pe_int) pa_nil)))))
      (Evl.pss_cut (ps_set (i := 6) sc_law_moments.nd rfl (Or.inl rfl) (pe_ifExp (pt_cmpR op_isN (pv 5) pe_non (nomark _)) (pv 4) (pe_op op_add (pe_ix (ix_tupK (K := K)) (pv 5) pe_int (fun _ _ => rfl)) (pe_op op_mod (pe_callTy call_int1 (by rfl) T.n_int (by decide +kernel) (pa_cons (pe_ix (ix_listK (K := K)) (pv 1) (pe_op op_add pe_int (pv 3)) (fun _ _ => rfl)) pa_nil)) pe_int))))
      (pss_one (ps_set (i := 2) sc_law_moments.nd rfl (Or.inl rfl) (pe_op (op_catSK (K := K)) (pv 2) (pe_lst (pa_cons (pv 4) (pa_cons (pe_callB (call_min2 rfl) (by rfl) T.n_min (by decide +kernel) (pa_cons (pv 6) (pa_cons (pe_op op_sub (pe_powc (c := 1000000000000000000000000000000) (by decide)) pe_int) pa_nil))) pa_nil))))))))))
      (pss_one (ps_ret (pe_callB cr_sorted (by rfl) T.n_sorted (by decide +kernel) (pa_cons (pv 2) pa_nil)))))), ?_⟩
    unfold sp_law_moments at h
    obtain ⟨s, d, p, f, rfl, hs, ok, hf, hd, k⟩ := h
    walk_at "rd"
    intro q0 n0
    generalize eG0 : upd _ q0 _ = G0
    obtain ⟨g0, c0⟩ := gen_new n0 eG0
    clear eG0
    walk_at "rd"
    refine for_range (lo := 0) (n := 4) (fun i σ G => ∃ (q : Addr) (ms : List Int) (v3 v4 v5 v6 : Option V), σ = [some (.ref s), some (.ref d), some (.ref q), v3, v4, v5, v6] ∧ Same G0 G ∧ G q = some (.lst (ms.map V.int)) ∧ ms.length = 2 * i ∧ (∀ z ∈ ms, MoOk z)) ⟨q0, [], _, _, _, _, rfl, Same.refl _, c0, rfl, fun z hz => (nomatch hz)⟩ ?_ ?_
    · rintro i σ G hi ⟨q, ms, v3, v4, v5, v6, rfl, fx, hq, hl, hm⟩
      have hd' := fx _ _ (g0 _ _ hd)
      have b1 := hf (12 + i)
      have b2 := hf (20 + i)
      have b4 := mod_bd (x := f (24 + i)) (show (0 : Int) < 60 by decide) (Int.le_refl 60)
      have b5 := mod_bd (x := f (28 + i)) (show (0 : Int) < 9 by decide) (Int.le_refl 9)
      walk_at "rd"
      refine ⟨_, _, _, _, rfl, rfl, SqL.of hd', dg_at (j := 12 + i) (by omega) (by omega), ?_⟩
      walk_at "rd"
      intro q1 n1
      generalize eG1 : upd _ q1 _ = G1
      obtain ⟨g1, c1⟩ := gen_new n1 eG1
      clear eG1
      have hd1 := g1 _ _ hd'
      obtain ⟨w, hw, hat⟩ := four_at (a := 1000) (b := 1000000000000) (c := 100000000000000000000) (d := 100000000000000000000000000) (r := f (16 + i) % 4) (Int.emod_nonneg _ (by decide)) (Int.emod_lt_of_pos _ (by decide))
      walk_at "rd"
      refine ⟨_, _, _, _, rfl, rfl, SqL.of hd1, dg_at (j := 16 + i) (by omega) (by omega), ?_⟩
      walk_at "rd"
      refine ⟨_, _, _, _, rfl, rfl, SqL.of c1, hat, ?_⟩
      walk_at "rd"
      refine ⟨_, _, _, _, rfl, rfl, SqL.of hd1, dg_at (j := 20 + i) (by omega) (by omega), ?_⟩
      walk_at "rd"
      refine ⟨_, _, _, _, rfl, rfl, SqL.of hd1, dg_at (j := 24 + i) (by omega) (by omega), ?_⟩
      walk_at "rd"
      have hw2 : 0 ≤ f (12 + i) * w ∧ f (12 + i) * w ≤ 100800000000000000000000000000 := by rcases hw with rfl | rfl | rfl | rfl <;> omega
      have hS0 : 0 ≤ f (12 + i) * w + f (20 + i) ∧ f (12 + i) * w + f (20 + i) ≤ 100800000000000000000000002000 := by omega
      refine use_next_border (m := (f (12 + i) * w + f (20 + i)).toNat) (l := (f (24 + i) % 60).toNat) (Int.toNat_of_nonneg hS0.1).symm (Int.toNat_of_nonneg b4.1).symm (hs.same ((g0.trans fx).trans g1)) ok (by omega) (by omega) (fun G2 g2 => ?_) (fun t r b G2 g2 hr c2 => ?_)
      · have hd2 := g2 _ _ hd1
        have hq2 := g2 _ _ (g1 _ _ hq)
        walk_at "rd"
        refine ⟨fun σ' H' => H' = G2 ∧ ∃ (z : Int) (v3 v5 : Option V), 0 ≤ z ∧ σ' = [some (.ref s), some (.ref d), some (.ref q), v3, some (.int (f (12 + i) * w + f (20 + i))), v5, some (.int z)], ?_, ?_⟩
        · walk_at "rd"
          exact ⟨(f (12 + i) * w + f (20 + i)), _, _, hS0.1, rfl⟩
        rintro σ' H' ⟨rfl, z, v3, v5, hz, rfl⟩
        walk_at "rd"
        intro q3 n3
        generalize eG3 : upd _ q3 _ = G3
        obtain ⟨g3, c3⟩ := gen_new n3 eG3
        clear eG3
        have hq3 := g3 _ _ hq2
        refine use_cat (SqL.of hq3) (SqL.of c3) (by rw [List.length_map, hl]; simp; omega) fun q4 G4 n4 g4 c4 => ?_
        refine ⟨q4, ms ++ [(f (12 + i) * w + f (20 + i)), _], _, _, _, _, rfl, (((fx.trans g1).trans g2).trans g3).trans g4, by rw [c4, List.map_append]; rfl, by rw [List.length_append, hl]; rfl, fun y hy => ?_⟩
        rcases List.mem_append.mp hy with hy | hy
        · exact hm y hy
        · simp only [List.mem_cons, List.mem_nil_iff, or_false] at hy
          unfold MoOk
          rcases hy with rfl | rfl
          · omega
          · (repeat' split) <;> omega
      · have hd2 := g2 _ _ hd1
        have hq2 := g2 _ _ (g1 _ _ hq)
        walk_at "rd"
        refine ⟨fun σ' H' => H' = G2 ∧ ∃ (z : Int) (v3 v5 : Option V), 0 ≤ z ∧ σ' = [some (.ref s), some (.ref d), some (.ref q), v3, some (.int (f (12 + i) * w + f (20 + i))), v5, some (.int z)], ?_, ?_⟩
        · walk_at "rd"
          refine ⟨_, _, _, _, rfl, rfl, SqL.of hd2, dg_at (j := 28 + i) (by omega) (by omega), ?_⟩
          walk_at "rd"
          exact ⟨(r : Int) + f (28 + i) % 9, _, _, by omega, rfl⟩
        rintro σ' H' ⟨rfl, z, v3, v5, hz, rfl⟩
        walk_at "rd"
        intro q3 n3
        generalize eG3 : upd _ q3 _ = G3
        obtain ⟨g3, c3⟩ := gen_new n3 eG3
        clear eG3
        have hq3 := g3 _ _ hq2
        refine use_cat (SqL.of hq3) (SqL.of c3) (by rw [List.length_map, hl]; simp; omega) fun q4 G4 n4 g4 c4 => ?_
        refine ⟨q4, ms ++ [(f (12 + i) * w + f (20 + i)), _], _, _, _, _, rfl, (((fx.trans g1).trans g2).trans g3).trans g4, by rw [c4, List.map_append]; rfl, by rw [List.length_append, hl]; rfl, fun y hy => ?_⟩
        rcases List.mem_append.mp hy with hy | hy
        · exact hm y hy
        · simp only [List.mem_cons, List.mem_nil_iff, or_false] at hy
          unfold MoOk
          rcases hy with rfl | rfl
          · omega
          · (repeat' split) <;> omega
    · rintro σ G ⟨q, ms, v3, v4, v5, v6, rfl, fx, hq, hl, hm⟩
      walk_at "rd"
      refine ⟨_, ms, rfl, SqL.of hq, by omega, fun ms2 q5 hp hs2 n5 => ?_⟩
      exact k q5 ms2 _ ((g0.trans fx).trans (same_new n5)) upd_same (by rw [hp.length_eq, hl]) hs2 (fun z hz => hm z (hp.mem_iff.mp hz))

noncomputable def hts (p : Prt) (x n : Nat) : List Int := (List.range n).map fun i => ((ht p (x + i) : Nat) : Int)
theorem hts_sum (p : Prt) (x : Nat) : ∀ n, (hts p x n).sum = (sH p (x + n) : Int) - (sH p x : Int)
  | 0 => by simp [hts]
  | n + 1 => by
    have e : hts p x (n + 1) = hts p x n ++ [((ht p (x + n) : Nat) : Int)] := by unfold hts; rw [List.range_succ, List.map_append]; rfl
    rw [e, List.sum_append, hts_sum p x n, show x + (n + 1) = x + n + 1 by omega]
    simp only [sH]
    push_cast
    simp
    omega
theorem hts_get (p : Prt) {x n i : Nat} (h : i < n) : (hts p x n)[i]? = some ((ht p (x + i) : Nat) : Int) := by
  unfold hts
  rw [List.getElem?_map, List.getElem?_range h]
  rfl
theorem hts_len (p : Prt) (x n : Nat) : (hts p x n).length = n := by unfold hts; rw [List.length_map, List.length_range]
theorem hts_mem {p : Prt} {x n : Nat} {z : Int} (h : z ∈ hts p x n) : ∃ i, i < n ∧ z = ((ht p (x + i) : Nat) : Int) := by
  obtain ⟨i, hi, e⟩ := List.mem_map.mp h
  exact ⟨i, List.mem_range.mp hi, e.symm⟩
theorem eq_true_of {d e : PyData} {b : Bool} (hb : b = true ↔ d = e) (h : d = e) : b = true := hb.mpr h
theorem ne_false_of {d e : PyData} {b : Bool} (hb : b = true ↔ ¬ d = e) (h : d = e) : b = false := by cases b with | true => exact absurd h (hb.mp rfl) | false => rfl
theorem nb_int (i : Int) : NB (.int i) := ⟨rfl, by show 0 ≤ 64; decide⟩
theorem nb_non : NB .none := ⟨rfl, by show 0 ≤ 64; decide⟩
theorem cS_seg {p : Prt} (ok : p.Ok) (n x : Nat) : ∀ d, (∀ j, x ≤ j → j < x + d → ht p j ≤ n) → (cS p (x + d) n : Int) - (cS p x n : Int) = (sH p (x + d) : Int) - (sH p x : Int)
  | 0, _ => by simp
  | d + 1, h => by
    have ih := cS_seg ok n x d (fun j a b => h j a (by omega))
    rw [show x + (d + 1) = x + d + 1 by omega, cS_succ ok]
    simp only [sH]
    rw [Nat.min_eq_left (h (x + d) (by omega) (by omega))]
    push_cast
    omega
theorem cnt_step {P : Nat → Prop} (x : Nat) : ∀ d, 0 < (cnt P (x + d) : Int) - (cnt P x : Int) → ∃ j, x ≤ j ∧ j < x + d ∧ P j
  | 0, h => by simp at h
  | d + 1, h => by
    by_cases hp : P (x + d)
    · exact ⟨x + d, by omega, by omega, hp⟩
    · rw [show x + (d + 1) = x + d + 1 by omega, cnt_neg hp] at h
      obtain ⟨j, a, b, c⟩ := cnt_step x d h
      exact ⟨j, a, by omega, c⟩
theorem cnt_none {P : Nat → Prop} (x : Nat) : ∀ d, ¬ 0 < (cnt P (x + d) : Int) - (cnt P x : Int) → ∀ j, x ≤ j → j < x + d → ¬ P j
  | 0, _, j, a, b => by omega
  | d + 1, h, j, a, b => by
    have mono : (cnt P x : Int) ≤ cnt P (x + d) := by
      have : ∀ e, cnt P x ≤ cnt P (x + e) := fun e => by
        induction e with
        | zero => exact Nat.le_refl _
        | succ e ih =>
          rw [show x + (e + 1) = x + e + 1 by omega]
          show cnt P x ≤ cnt P (x + e) + _
          exact Nat.le_trans ih (Nat.le_add_right _ _)
      have := this d
      omega
    rw [show x + (d + 1) = x + d + 1 by omega] at h
    by_cases hp : P (x + d)
    · rw [cnt_pos hp] at h
      push_cast at h
      omega
    · rw [cnt_neg hp] at h
      by_cases e : j = x + d
      · rw [e]; exact hp
      · exact cnt_none x d h j a (by omega)
theorem bl_eq2 {i j : Int} {Q : VK} {H : Hp} (h : i = j) (q : Q (.bl true) H) : Q (.bl (decide (V.int i = V.int j))) H := by
  subst h
  rw [decide_eq_true rfl]
  exact q
@[irreducible] def sp_law_stretch_right (K : PySem.W.Frag) : Sp := fun vs H Q _ => ∃ (s : Addr) (p : Prt) (x y z : Nat), vs = [.ref s, .int x, .int y, .int z] ∧ SetAt K H s p ∧ p.Ok ∧ (x ≤ y ∧ y ≤ z ∧ z ≤ 1000000000000000000000000000000) ∧ ∀ H', Same H H' → Q (.bl true) H'
theorem use_sright {K : PySem.W.Frag} {s : Addr} {p : Prt} {x y z : Nat} {i j l : Int} {H : Hp} {Q : VK} {E : XK} (hi : i = (x : Int)) (hj : j = (y : Int)) (hl : l = (z : Int)) (hs : SetAt K H s p) (ok : p.Ok) (hxy : x ≤ y ∧ y ≤ z ∧ z ≤ 1000000000000000000000000000000) (k : ∀ H', Same H H' → Q (.bl true) H') :
  sp_law_stretch_right K [.ref s, .int i, .int j, .int l] H Q E := by subst hi hj hl; unfold sp_law_stretch_right; exact ⟨s, p, x, y, z, rfl, hs, ok, hxy, k⟩
theorem b_law_stretch_right {K : PySem.W.Frag} {fd : FuncData} (F : F_law_stretch_right K fd) : Binds K fd P_law_stretch_right [] := FunD.bindsN F fun _ _ _ _ _ _ us hl => match us, hl with | [_, _, _, _], _ => rfl
theorem ok_law_stretch_right (T : Txt K mg D) : FnOk P w K mg base CX0 11 (He.fAd K ("_law_stretch_right", none)) (D D_law_stretch_right) P_law_stretch_right (sp_law_stretch_right K) := by
  refine T.d_law_stretch_right.ok sc_law_stretch_right (fun vs H Q E h => ?_) (fun cdv A outer s H vs Q E hr h => ?_)
  · unfold sp_law_stretch_right at h
    first | (obtain ⟨rfl, _⟩ := h; rfl) | (obtain ⟨_, rfl, _⟩ := h; rfl) | (obtain ⟨_, _, rfl, _⟩ := h; rfl) | (obtain ⟨_, _, _, rfl, _⟩ := h; rfl) | (obtain ⟨_, _, _, _, rfl, _⟩ := h; rfl) | (obtain ⟨_, _, _, _, _, rfl, _⟩ := h; rfl) | (obtain ⟨_, _, _, _, _, _, rfl, _⟩ := h; rfl) | (obtain ⟨_, _, _, _, _, _, _, rfl, _⟩ := h; rfl) | (obtain ⟨_, _, _, _, _, _, _, _, rfl, _⟩ := h; rfl) | (obtain ⟨_, _, _, _, _, _, _, _, _, rfl, _⟩ := h; rfl) | (obtain ⟨_, _, _, _, _, _, _, _, _, _, rfl, _⟩ := h; rfl) | (obtain ⟨_, _, _, _, _, _, _, _, _, _, _, rfl, _⟩ := h; rfl)
  · refine ⟨_, PSs.nox (pss_cons (ps_if (pt_cmpR op_ne (pe_call (ok_height_sum T) (hr.mono (by decide)) rfl T.g_height_sum T.d_height_sum.kp (b_height_sum T.d_height_sum) .nil pass0 (pa_cons (pv 0) (pa_cons (pv 1) (pa_cons (pv 3) pa_nil)))) (pe_op op_add (pe_call (ok_height_sum T) (hr.mono (by decide)) rfl T.g_height_sum T.d_height_sum.kp (b_height_sum T.d_height_sum) .nil pass0 (pa_cons (pv 0) (pa_cons (pv 1) (pa_cons (pv 2) pa_nil)))) (pe_call (ok_height_sum T) (hr.mono (by decide)) rfl T.g_height_sum T.d_height_sum.kp (b_height_sum T.d_height_sum) .nil pass0 (pa_cons (pv 0) (pa_cons (pv 2) (pa_cons (pv 3) pa_nil))))) (nomark _)) (pss_one (ps_ret pe_bl)) pss_nil)
      (Evl.pss_cut (ps_par3 (i := 4) (j := 5) (l := 6) rfl sc_law_stretch_right.nd rfl rfl rfl (by decide) (by decide) (by decide) rfl rfl rfl (pa_cons pe_int (pa_cons (pe_call (ok_greatest_height T) (hr.mono (by decide)) rfl T.g_greatest_height T.d_greatest_height.kp (b_greatest_height T.d_greatest_height) .nil pass0 (pa_cons (pv 0) (pa_cons (pv 1) (pa_cons (pv 3) pa_nil)))) (pa_cons pe_int pa_nil))) (by rfl))
      (pss_cons (ps_while PassesOwn.never (pt_cmpR op_gt (pe_call (ok_height_count T) (hr.mono (by decide)) rfl T.g_height_count T.d_height_count.kp (b_height_count T.d_height_count) .nil pass0 (pa_cons (pv 0) (pa_cons (pv 6) (pa_cons (pv 1) (pa_cons (pv 3) pa_nil))))) pe_int (nomark _)) (pss_cons (ps_set (i := 7) sc_law_stretch_right.nd rfl (Or.inl rfl) (pe_call (ok_height_count T) (hr.mono (by decide)) rfl T.g_height_count T.d_height_count.kp (b_height_count T.d_height_count) .nil pass0 (pa_cons (pv 0) (pa_cons (pv 6) (pa_cons (pv 1) (pa_cons (pv 3) pa_nil))))))
      (pss_cons (ps_if (pt_cmpR op_ne (pv 7) (pe_op op_add (pe_call (ok_height_count T) (hr.mono (by decide)) rfl T.g_height_count T.d_height_count.kp (b_height_count T.d_height_count) .nil pass0 (pa_cons (pv 0) (pa_cons (pv 6) (pa_cons (pv 1) (pa_cons (pv 2) pa_nil))))) (pe_call (ok_height_count T) (hr.mono (by decide)) rfl T.g_height_count T.d_height_count.kp (b_height_count T.d_height_count) .nil pass0 (pa_cons (pv 0) (pa_cons (pv 6) (pa_cons (pv 2) (pa_cons (pv 3) pa_nil)))))) (nomark _)) (pss_one (ps_ret pe_bl)) pss_nil)
      (pss_one (ps_par (i := 4) (j := 6) (by rfl) sc_law_stretch_right.nd rfl rfl (by decide) rfl rfl (pa_cons (pe_op op_add (pv 4) (pv 7)) (pa_cons (pe_op op_add (pv 6) pe_int) pa_nil)) (by rfl))))))
      (pss_cons (ps_if (pt_cmpR op_eq (pv 1) (pv 3) (nomark _)) (pss_one (ps_ret (pe_and (pe_cmpR op_isN (pv 5) pe_non (nomark _)) (pe_one (pe_cmpR op_eq (pv 4) pe_int (nomark _)))))) pss_nil)
      (pss_cons (ps_if (PW.pt (pw_or (pt_cmpR op_ne (pe_ix (ix_tupK (K := K)) (pv 5) pe_int (fun _ _ => rfl)) (pe_op op_sub (pv 6) pe_int) (nomark _)) (pw_or (pt_not (pt_chain op_le op_lt (pv 1) (pe_ix (ix_tupK (K := K)) (pv 5) pe_int (fun _ _ => rfl)) (pv 3))) (pw_or1 (pt_cmpR op_ne (pe_call (ok_tree_height T) (hr.mono (by decide)) rfl T.g_tree_height T.d_tree_height.kp (b_tree_height T.d_tree_height) .nil pass0 (pa_cons (pv 0) (pa_cons (pe_ix (ix_tupK (K := K)) (pv 5) pe_int (fun _ _ => rfl)) pa_nil))) (pe_ix (ix_tupK (K := K)) (pv 5) pe_int (fun _ _ => rfl)) (nomark _)))))) (pss_one (ps_ret pe_bl)) pss_nil)
      (pss_one (ps_ret (pe_cmpR op_eq (pv 4) (pe_call (ok_height_sum T) (hr.mono (by decide)) rfl T.g_height_sum T.d_height_sum.kp (b_height_sum T.d_height_sum) .nil pass0 (pa_cons (pv 0) (pa_cons (pv 1) (pa_cons (pv 3) pa_nil)))) (nomark _))))))))), ?_⟩
    unfold sp_law_stretch_right at h
    obtain ⟨s, p, x, y, z, rfl, hs, ok, ⟨hxy, hyz, hz⟩, k⟩ := h
    walk_at "rd"
    refine use_hsum (x := x) (y := z) rfl rfl hs ok ⟨by omega, hz⟩ fun G1 g1 => ?_
    walk_at "rd"
    refine use_hsum (x := x) (y := y) rfl rfl (hs.same g1) ok ⟨by omega, by omega⟩ fun G2 g2 => ?_
    walk_at "rd"
    refine use_hsum (x := y) (y := z) rfl rfl ((hs.same g1).same g2) ok ⟨by omega, by omega⟩ fun G3 g3 => ?_
    have s3 := (g1.trans g2).trans g3
    have hs3 := hs.same s3
    walk_at "rd"
    refine ne_eq (by omega) ?_
    walk_at "rd"
    refine ⟨fun σ' G4 => Same G3 G4 ∧ ∃ v, σ' = [some (.ref s), some (.int x), some (.int y), some (.int z), some (.int 0), some v, some (.int 1), none] ∧ ((x = z ∧ v = .non) ∨ ∃ (q : Addr) (r : Nat), x < z ∧ v = .ref q ∧ G4 q = some (.tup [.int (ht p r : Nat), .int (r : Nat)]) ∧ x ≤ r ∧ r < z ∧ (∀ j, x ≤ j → j < z → ht p j ≤ ht p r)), ?_, ?_⟩
    · walk_at "rd"
      refine use_greatest (x := x) (y := z) rfl rfl hs3 ok ⟨by omega, hz⟩ (fun hxz G4 g4 => ?_) (fun hlt q r G4 g4 r1 r2 r3 r4 c4 => ?_)
      · walk_at "rd"
        exact .inl ⟨hxz, rfl⟩
      · walk_at "rd"
        exact .inr ⟨q, r, hlt, rfl, c4, r1, r2, r3⟩
    rintro σ' G4 ⟨g4, v, rfl, hv⟩
    have hs4 := hs3.same g4
    walk_at "rd"
    refine ⟨fun m σ H' => ∃ (n : Nat) (w : Option V), σ = [some (.ref s), some (.int x), some (.int y), some (.int z), some (.int ((cS p z n : Int) - (cS p x n : Int))), some v, some (.int ((n + 1 : Nat) : Int)), w] ∧ Same G4 H' ∧ n ≤ 101 ∧ (n = 0 ∨ ∃ j, x ≤ j ∧ j < z ∧ n ≤ ht p j) ∧ m = 102 - n, ⟨102, 0, _, rfl, Same.refl _, Nat.zero_le _, .inl rfl, rfl⟩, ?_⟩
    rintro m σ H' ⟨n, w, rfl, f, hn, hex, rfl⟩
    obtain ⟨d, hd⟩ : ∃ d, z = x + d := ⟨z - x, by omega⟩
    walk_at "rd"
    refine use_hcount (l := n + 1) (x := x) (y := z) (by omega) rfl rfl (hs4.same f) ok ⟨by omega, by omega⟩ ⟨by omega, hz⟩ fun G5 g5 => ?_
    walk_at "rd"
    refine iteB (fun c => ?_) (fun c => ?_)
    · have c := of_decide_eq_true c
      have c : (cnt (GE p (n + 1)) z : Int) - (cnt (GE p (n + 1)) x : Int) > 0 := c
      obtain ⟨j, j1, j2, j3⟩ := cnt_step (P := GE p (n + 1)) x d (by rw [← hd]; exact c)
      have j4 := (ge_ht ok (show 1 ≤ n + 1 by omega) j).mp j3
      have j5 := ht_small ok (show j ≤ 1000000000000000000000000000001 by omega)
      refine ⟨fun σ' H'' => ∃ m', m' < 102 - n ∧ ∃ (n : Nat) (w : Option V), σ' = [some (.ref s), some (.int x), some (.int y), some (.int z), some (.int ((cS p z n : Int) - (cS p x n : Int))), some v, some (.int ((n + 1 : Nat) : Int)), w] ∧ Same G4 H'' ∧ n ≤ 101 ∧ (n = 0 ∨ ∃ j, x ≤ j ∧ j < z ∧ n ≤ ht p j) ∧ m' = 102 - n, fun _ _ h => h, ?_⟩
      walk_at "rd"
      refine use_hcount (l := n + 1) (x := x) (y := z) (by omega) rfl rfl ((hs4.same f).same g5) ok ⟨by omega, by omega⟩ ⟨by omega, hz⟩ fun G6 g6 => ?_
      walk_at "rd"
      refine use_hcount (l := n + 1) (x := x) (y := y) (by omega) rfl rfl (((hs4.same f).same g5).same g6) ok ⟨by omega, by omega⟩ ⟨by omega, by omega⟩ fun G7 g7 => ?_
      walk_at "rd"
      refine use_hcount (l := n + 1) (x := y) (y := z) (by omega) rfl rfl ((((hs4.same f).same g5).same g6).same g7) ok ⟨by omega, by omega⟩ ⟨by omega, by omega⟩ fun G8 g8 => ?_
      walk_at "rd"
      refine ne_eq (by omega) ?_
      walk_at "rd"
      refine ⟨102 - (n + 1), by omega, n + 1, some (.int ((cnt (GE p (n + 1)) z : Int) - (cnt (GE p (n + 1)) x : Int))), ?_, (((f.trans g5).trans g6).trans g7).trans g8, by omega, .inr ⟨j, j1, by omega, j4⟩, rfl⟩
      exact congr (congrArg (fun u v' : Int => ([some (.ref s), some (.int x), some (.int y), some (.int z), some (.int u), some v, some (.int v'), some (.int ((cnt (GE p (n + 1)) z : Int) - (cnt (GE p (n + 1)) x : Int)))] : L2.St)) (show (cS p z n : Int) - (cS p x n : Int) + ((cnt (GE p (n + 1)) z : Int) - (cnt (GE p (n + 1)) x : Int)) = (cS p z (n + 1) : Int) - (cS p x (n + 1) : Int) by simp only [cS]; omega)) (show ((n + 1 : Nat) : Int) + 1 = ((n + 1 + 1 : Nat) : Int) by omega)
    · have c := of_decide_eq_false c
      have c : ¬ (cnt (GE p (n + 1)) z : Int) - (cnt (GE p (n + 1)) x : Int) > 0 := c
      have hno := cnt_none (P := GE p (n + 1)) x d (by rw [← hd]; exact c)
      have hle : ∀ j, x ≤ j → j < x + d → ht p j ≤ n := fun j a b => by
        by_cases z : ht p j ≤ n
        · exact z
        · exact absurd ((ge_ht ok (show 1 ≤ n + 1 by omega) j).mpr (by omega)) (hno j a b)
      have hsum := cS_seg ok n x d hle
      rw [← hd] at hsum
      have fin := (f.trans g5)
      rcases hv with ⟨hxz, rfl⟩ | ⟨q, r, hlt, rfl, c4, r1, r2, r3⟩
      · walk_at "rd"
        refine iteT_of (decide_eq_true (by rw [hxz])) ?_
        walk_at "rd"
        exact bl_eq2 (by rw [hxz]; omega) (k G5 ((s3.trans g4).trans fin))
      · have c5 := fin _ _ c4
        have er : ht p r = n := by
          have := hle r r1 (by omega)
          rcases hex with h | ⟨j, j1, j2, j3⟩
          · omega
          · have := r3 j j1 j2
            omega
        walk_at "rd"
        refine iteF_of (decide_eq_false (by intro z; injection z with z; omega)) ?_
        walk_at "rd"
        refine ne_eq (by omega) ?_
        walk_at "rd"
        refine iteT_of (decide_eq_true (by omega)) ?_
        walk_at "rd"
        refine iteF_of (by rw [decide_eq_true (show (r : Int) < (z : Int) by omega)]; rfl) ?_
        walk_at "rd"
        refine use_tree_height (m := r) rfl (hs4.same fin) ok (by omega) fun G6 g6 => ?_
        have c6 := g6 _ _ c5
        walk_at "rd"
        refine ne_eq rfl ?_
        walk_at "rd"
        refine use_hsum (x := x) (y := z) rfl rfl ((hs4.same fin).same g6) ok ⟨by omega, hz⟩ fun G7 g7 => ?_
        walk_at "rd"
        exact bl_eq2 hsum (k G7 ((((s3.trans g4).trans fin).trans g6).trans g7))

@[irreducible] def sp_law_end_right (K : PySem.W.Frag) : Sp := fun vs H Q _ => ∃ (s : Addr) (p : Prt), vs = [.ref s] ∧ SetAt K H s p ∧ p.Ok ∧ ∀ H', Same H H' → Q (.bl true) H'
theorem use_end {K : PySem.W.Frag} {s : Addr} {p : Prt} {H : Hp} {Q : VK} {E : XK} (hs : SetAt K H s p) (ok : p.Ok) (k : ∀ H', Same H H' → Q (.bl true) H') : sp_law_end_right K [.ref s] H Q E := by unfold sp_law_end_right; exact ⟨s, p, rfl, hs, ok, k⟩
theorem hts_succ' (p : Prt) (x n : Nat) : hts p x (n + 1) = hts p x n ++ [((ht p (x + n) : Nat) : Int)] := by unfold hts; rw [List.range_succ, List.map_append]; rfl
theorem hts_take (p : Prt) (x : Nat) {m n : Nat} (h : m ≤ n) : (hts p x n).take m = hts p x m := by
  unfold hts
  rw [← List.map_take, List.take_range, Nat.min_eq_left h]
theorem b_law_end_right {K : PySem.W.Frag} {fd : FuncData} (F : F_law_end_right K fd) : Binds K fd P_law_end_right [] := FunD.bindsN F fun _ _ _ _ _ _ us hl => match us, hl with | [_], _ => rfl
theorem ok_law_end_right (T : Txt K mg D) : FnOk P w K mg base CX0 11 (He.fAd K ("_law_end_right", none)) (D D_law_end_right) P_law_end_right (sp_law_end_right K) := by
  refine T.d_law_end_right.ok sc_law_end_right (fun vs H Q E h => ?_) (fun cdv A outer s H vs Q E hr h => ?_)
  · unfold sp_law_end_right at h
    first | (obtain ⟨rfl, _⟩ := h; rfl) | (obtain ⟨_, rfl, _⟩ := h; rfl) | (obtain ⟨_, _, rfl, _⟩ := h; rfl) | (obtain ⟨_, _, _, rfl, _⟩ := h; rfl) | (obtain ⟨_, _, _, _, rfl, _⟩ := h; rfl) | (obtain ⟨_, _, _, _, _, rfl, _⟩ := h; rfl) | (obtain ⟨_, _, _, _, _, _, rfl, _⟩ := h; rfl) | (obtain ⟨_, _, _, _, _, _, _, rfl, _⟩ := h; rfl) | (obtain ⟨_, _, _, _, _, _, _, _, rfl, _⟩ := h; rfl) | (obtain ⟨_, _, _, _, _, _, _, _, _, rfl, _⟩ := h; rfl) | (obtain ⟨_, _, _, _, _, _, _, _, _, _, rfl, _⟩ := h; rfl) | (obtain ⟨_, _, _, _, _, _, _, _, _, _, _, rfl, _⟩ := h; rfl)
  · refine ⟨_, PSs.nox (pss_cons (ps_set (i := 1) sc_law_end_right.nd rfl (Or.inr rfl) (pe_op op_sub (pe_powc (c := 1000000000000000000000000000000) (by decide)) pe_int))
      (pss_cons (ps_set (i := 2) sc_law_end_right.nd rfl (Or.inr rfl) (pe_lc (own := [("k", 5)]) rfl sc_law_end_right.nd (pi_range1 (by rfl) T.n_range (pa_cons pe_int pa_nil)) (blkOk_by (N := N_law_end_right) (sc := defScope s_law_end_right) (by decide +kernel)) (fun _ _ _ _ _ => (pg_name (i := 5) sc_law_end_right.nd rfl (Or.inl rfl))) (fun _ _ _ _ _ => pts_nil) (fun _ _ _ _ _ => (pe_call (ok_tree_height T) (hr.mono (by decide)) rfl T.g_tree_height T.d_tree_height.kp (b_tree_height T.d_tree_height) .nil pass0 (pa_cons (pv 0) (pa_cons (pe_op op_add (pv 1) (pv 5)) pa_nil))))))
      (pss_cons (ps_for PassesOwn.never rfl (pi_rangeB (by rfl) T.n_range (pa_cons pe_int (pa_cons (pe_op op_add (pe_callB (cr_maxK (K := K) rfl) (by rfl) T.n_max (by decide +kernel) (pa_cons (pv 2) pa_nil)) pe_int) pa_nil))) (pg_name (i := 3) sc_law_end_right.nd rfl (Or.inr rfl)) (pss_cons (ps_set (i := 4) sc_law_end_right.nd rfl (Or.inl rfl) (pe_op (op_catSK (K := K)) (pe_lc (own := [("k", 5)]) rfl sc_law_end_right.nd (pi_range1 (by rfl) T.n_range (pa_cons pe_int pa_nil)) (blkOk_by (N := N_law_end_right) (sc := defScope s_law_end_right) (by decide +kernel)) (fun _ _ _ _ _ => (pg_name (i := 5) sc_law_end_right.nd rfl (Or.inl rfl))) (fun _ _ _ _ _ => (pts_one (pt_cmpR op_ge (pe_ix (ix_listK (K := K)) (pv 2) (pv 5) (fun _ _ => rfl)) (pv 3) (nomark _)))) (fun _ _ _ _ _ => (pe_op op_add (pv 1) (pv 5)))) (pe_lst (pa_cons pe_non pa_nil))))
      (pss_one (ps_if (pt_cmpR (op_neNK (K := K) hr.units) (pe_call (ok_next_height T) (hr.mono (by decide)) rfl T.g_next_height T.d_next_height.kp (b_next_height T.d_next_height) .nil pass0 (pa_cons (pv 0) (pa_cons (pv 1) (pa_cons (pv 3) pa_nil)))) (pe_ix (ix_listK (K := K)) (pv 4) pe_int (fun _ _ => rfl)) (nomark _)) (pss_one (ps_ret pe_bl)) pss_nil))))
      (pss_one (ps_ret (pe_cmpR op_eq (pe_call (ok_height_sum T) (hr.mono (by decide)) rfl T.g_height_sum T.d_height_sum.kp (b_height_sum T.d_height_sum) .nil pass0 (pa_cons (pv 0) (pa_cons (pv 1) (pa_cons (pe_powc (c := 1000000000000000000000000000000) (by decide)) pa_nil)))) (pe_callB (cr_sumK (K := K) rfl) (by rfl) T.n_sum (by decide +kernel) (pa_cons (pe_slice (sl_listK (K := K)) (pv 2) po_none (po_some (pe_un un_neg pe_int))) pa_nil)) (nomark _))))))), ?_⟩
    unfold sp_law_end_right at h
    obtain ⟨s, p, rfl, hs, ok, k⟩ := h
    walk_at "rd"
    intro D nD
    refine lc_range (lo := 0) (n := 30) (fun i G => G D = some (.lst ((hts p 999999999999999999999999999971 i).map V.int)) ∧ SX [D] H G) ⟨upd_same, SX.refl.mut nD⟩ ?_ ?_
    · rintro i G hi ⟨hD, f⟩
      refine ⟨rfl, ?_⟩
      have sG : Same H G := fun b o ho => f _ _ (by simp [ne_of_none ho nD]) ho
      walk_at "rd"
      refine use_tree_height (m := 999999999999999999999999999971 + i) (by omega) (hs.same sG) ok (by omega) fun G1 g1 => ?_
      refine ⟨_, g1 _ _ hD, szlt (by rw [List.length_map, hts_len]; omega), ?_, (f.trans g1.sx).upd (by simp)⟩
      rw [upd_same, hts_succ', List.map_append]
      rfl
    rintro G ⟨hD, f⟩
    have sG : Same H G := fun b o ho => f _ _ (by simp [ne_of_none ho nD]) ho
    have hsG := hs.same sG
    walk_at "rd"
    refine ⟨_, _, rfl, SqL.of hD, (by rw [hts_len]; decide), fun mm hm1 hm2 => ?_⟩
    obtain ⟨i0, hi0, e0⟩ := hts_mem hm1
    have hcap := ht_small ok (show 999999999999999999999999999971 + i0 ≤ 1000000000000000000000000000001 by omega)
    walk_at "rd"
    generalize hN : Int.toNat _ = N
    have hN2 : N ≤ 102 := by omega
    refine for_range (lo := 1) (n := N) (fun i σ G' => ∃ v3 v4 v5, σ = [some (.ref s), some (.int 999999999999999999999999999971), some (.ref D), v3, v4, v5] ∧ Same G G') ⟨_, _, _, rfl, Same.refl _⟩ ?_ ?_
    · rintro i σ G' hi ⟨v3, v4, v5, rfl, f'⟩
      have hDG := f' _ _ hD
      have hsG' := hsG.same f'
      walk_at "rd"
      intro D3 nD3
      refine lc_range (lo := 0) (n := 30) (fun j G2 => ∃ zs : List Int, G2 D3 = some (.lst (zs.map V.int)) ∧ SX [D3] G' G2 ∧ zs.length ≤ j ∧ (∀ z ∈ zs, ∃ r : Nat, z = ((999999999999999999999999999971 + r : Nat) : Int) ∧ r < j ∧ GE p (1 + i) (999999999999999999999999999971 + r)) ∧ (zs = [] → ∀ r, r < j → ¬ GE p (1 + i) (999999999999999999999999999971 + r)) ∧ (∀ z l', zs = z :: l' → ∀ r : Nat, ((999999999999999999999999999971 + r : Nat) : Int) < z → ¬ GE p (1 + i) (999999999999999999999999999971 + r))) ⟨[], upd_same, SX.refl.mut nD3, Nat.le_refl _, fun z hz => (nomatch hz), fun _ r a => by omega, fun z l e => (nomatch e)⟩ ?_ ?_
      · rintro j G2 hj ⟨zs, hD2, fy, hl2, h1, h2, h3⟩
        refine ⟨rfl, ?_⟩
        have hqG2 := fy _ _ (by simp [ne_of_none hDG nD3]) hDG
        walk_at "rd"
        refine ⟨_, _, _, .int (ht p (999999999999999999999999999971 + j) : Nat), rfl, rfl, SqL.of hqG2, atI_int (j := j) (by omega) (by rw [List.getElem?_map, hts_get p hj]; rfl), ?_⟩
        walk_at "rd"
        refine ite2 (fun d => ?_) (fun d => ?_)
        · have d := of_decide_eq_true d
          have d : ((ht p (999999999999999999999999999971 + j) : Nat) : Int) ≥ 1 + (i : Int) := d
          have hg : GE p (1 + i) (999999999999999999999999999971 + j) := (ge_ht ok (by omega) _).mpr (by omega)
          walk_at "rd"
          refine ⟨_, hD2, szlt (by rw [List.length_map]; omega), zs ++ [(999999999999999999999999999971 : Int) + ((0 : Int) + (j : Int))], by rw [upd_same, List.map_append]; rfl, fy.upd (by simp), by rw [List.length_append]; simp; omega, fun z hz => ?_, fun e => ?_, fun z l' e r b => ?_⟩
          · rcases List.mem_append.mp hz with hz | hz
            · obtain ⟨r, e1, e3, e4⟩ := h1 z hz
              exact ⟨r, e1, by omega, e4⟩
            · rw [List.mem_singleton.mp hz]
              exact ⟨j, by omega, by omega, hg⟩
          · cases zs <;> cases e
          · cases zs with
            | nil =>
              injection e with e1 _
              exact h2 rfl r (by omega)
            | cons z0 l0 =>
              injection e with e1 _
              subst e1
              exact h3 _ _ rfl r b
        · have d := dcn d
          have d : ¬ ((ht p (999999999999999999999999999971 + j) : Nat) : Int) ≥ 1 + (i : Int) := d
          have hg : ¬ GE p (1 + i) (999999999999999999999999999971 + j) := fun z => by have := (ge_ht ok (show 1 ≤ 1 + i by omega) _).mp z; omega
          refine ⟨zs, hD2, fy, by omega, fun z hz => ?_, fun e r a => ?_, h3⟩
          · obtain ⟨r, e1, e3, e4⟩ := h1 z hz
            exact ⟨r, e1, by omega, e4⟩
          · by_cases er : r = j
            · rw [er]; exact hg
            · exact h2 e r (by omega)
      · rintro G2 ⟨zs, hD2, fy, hl2, h1, h2, h3⟩
        have s24 : Same G' G2 := fun c o ho => fy _ _ (by simp [ne_of_none ho nD3]) ho
        walk_at "rd"
        intro q4 n4
        generalize eG4 : upd _ q4 _ = G4
        obtain ⟨g4, c4⟩ := gen_new n4 eG4
        clear eG4
        refine use_cat (SqL.of (g4 _ _ hD2)) (SqL.of c4) (by rw [List.length_map]; simp; omega) fun q5 G5 n5 g5 c5 => ?_
        walk_at "rd"
        refine use_next_height (m := 999999999999999999999999999971) (l := 1 + i) rfl (by omega) (((hsG'.same s24).same g4).same g5) ok ⟨by omega, by omega⟩ (by omega) fun v G6 g6 hff => ?_
        have c6 := g6 _ _ c5
        have fin := ((s24.trans g4).trans g5).trans g6
        walk_at "rd"
        cases zs with
        | nil =>
          refine ⟨_, _, _, .non, rfl, rfl, SqL.of c6, atI_int (j := 0) rfl rfl, ?_⟩
          have hno := h2 rfl
          rcases hff with ⟨rfl, _⟩ | ⟨r, rfl, b1, b2, b3, b4⟩
          · refine use_neN .non .non nb_non nb_non fun e he => ?_
            have he : e = false := ne_false_of he rfl
            subst he
            walk_at "rd"
            exact f'.trans fin
          · obtain ⟨d, rfl⟩ : ∃ d, r = 999999999999999999999999999971 + d := ⟨r - 999999999999999999999999999971, by omega⟩
            exact absurd b3 (hno d (by omega))
        | cons z0 l0 =>
          refine ⟨_, _, _, .int z0, rfl, rfl, SqL.of c6, atI_int (j := 0) rfl rfl, ?_⟩
          obtain ⟨r0, rfl, d2, d3⟩ := h1 z0 (List.mem_cons_self ..)
          have hlt := h3 _ _ rfl
          rcases hff with ⟨rfl, hno⟩ | ⟨r, rfl, b1, b2, b3, b4⟩
          · exact absurd (hno (999999999999999999999999999971 + r0) (by omega) d3) (by omega)
          · have er : r = 999999999999999999999999999971 + r0 := by
              by_cases z1 : 999999999999999999999999999971 + r0 < r
              · exact absurd d3 (b4 (999999999999999999999999999971 + r0) (by omega) z1)
              · by_cases z2 : r < 999999999999999999999999999971 + r0
                · obtain ⟨d, rfl⟩ : ∃ d, r = 999999999999999999999999999971 + d := ⟨r - 999999999999999999999999999971, by omega⟩
                  exact absurd b3 (hlt d (by omega))
                · omega
            refine use_neN (.int _) (.int _) (nb_int _) (nb_int _) fun e he => ?_
            have he : e = false := ne_false_of he (by rw [er])
            subst he
            walk_at "rd"
            exact f'.trans fin
    · rintro σ G' ⟨v3, v4, v5, rfl, f'⟩
      have hDG := f' _ _ hD
      walk_at "rd"
      refine use_hsum (x := 999999999999999999999999999971) (y := 1000000000000000000000000000000) rfl rfl (hsG.same f') ok ⟨by omega, by omega⟩ fun G5 g5 => ?_
      have hD5 := g5 _ _ hDG
      walk_at "rd"
      try unfold L2.tNoPart
      walk_at "rd"
      refine use_sl (lo := none) (hi := some (-1)) (ys := (hts p 999999999999999999999999999971 29).map V.int) (SqL.of hD5) (by unfold cutV; rw [List.length_map, hts_len, ← hts_take p 999999999999999999999999999971 (show 29 ≤ 30 by decide), List.map_take]; rfl) fun q6 G6 n6 g6 c6 => ?_
      walk_at "rd"
      refine ⟨_, _, rfl, SqL.of c6, ?_⟩
      have e9 : (sH p 1000000000000000000000000000000 : Int) - (sH p 999999999999999999999999999971 : Int) = (hts p 999999999999999999999999999971 29).sum := by rw [hts_sum]
      walk_at "rd"
      exact bl_eq2 e9 (k G6 (((sG.trans f').trans g5).trans g6))

theorem hts_succ (p : Prt) (x n : Nat) : hts p x (n + 1) = hts p x n ++ [((ht p (x + n) : Nat) : Int)] := by unfold hts; rw [List.range_succ, List.map_append]; rfl
@[irreducible] def sp_law_near_right (K : PySem.W.Frag) : Sp := fun vs H Q _ => ∃ (s : Addr) (p : Prt) (m : Nat), vs = [.ref s, .int m] ∧ SetAt K H s p ∧ p.Ok ∧ m ≤ 999999999999999999999999999800 ∧ ∀ H', Same H H' → Q (.bl true) H'
theorem use_near {K : PySem.W.Frag} {s : Addr} {p : Prt} {m : Nat} {i : Int} {H : Hp} {Q : VK} {E : XK} (hi : i = (m : Int)) (hs : SetAt K H s p) (ok : p.Ok) (hm : m ≤ 999999999999999999999999999800) (k : ∀ H', Same H H' → Q (.bl true) H') :
  sp_law_near_right K [.ref s, .int i] H Q E := by subst hi; unfold sp_law_near_right; exact ⟨s, p, m, rfl, hs, ok, hm, k⟩
theorem b_law_near_right {K : PySem.W.Frag} {fd : FuncData} (F : F_law_near_right K fd) : Binds K fd P_law_near_right [] := FunD.bindsN F fun _ _ _ _ _ _ us hl => match us, hl with | [_, _], _ => rfl
theorem ok_law_near_right (T : Txt K mg D) : FnOk P w K mg base CX0 11 (He.fAd K ("_law_near_right", none)) (D D_law_near_right) P_law_near_right (sp_law_near_right K) := by
  refine T.d_law_near_right.ok sc_law_near_right (fun vs H Q E h => ?_) (fun cdv A outer s H vs Q E hr h => ?_)
  · unfold sp_law_near_right at h
    first | (obtain ⟨rfl, _⟩ := h; rfl) | (obtain ⟨_, rfl, _⟩ := h; rfl) | (obtain ⟨_, _, rfl, _⟩ := h; rfl) | (obtain ⟨_, _, _, rfl, _⟩ := h; rfl) | (obtain ⟨_, _, _, _, rfl, _⟩ := h; rfl) | (obtain ⟨_, _, _, _, _, rfl, _⟩ := h; rfl) | (obtain ⟨_, _, _, _, _, _, rfl, _⟩ := h; rfl) | (obtain ⟨_, _, _, _, _, _, _, rfl, _⟩ := h; rfl) | (obtain ⟨_, _, _, _, _, _, _, _, rfl, _⟩ := h; rfl) | (obtain ⟨_, _, _, _, _, _, _, _, _, rfl, _⟩ := h; rfl) | (obtain ⟨_, _, _, _, _, _, _, _, _, _, rfl, _⟩ := h; rfl) | (obtain ⟨_, _, _, _, _, _, _, _, _, _, _, rfl, _⟩ := h; rfl)
  · refine ⟨_, PSs.nox (pss_cons (ps_set (i := 2) sc_law_near_right.nd rfl (Or.inr rfl) (pe_lc (own := [("k", 6)]) rfl sc_law_near_right.nd (pi_range1 (by rfl) T.n_range (pa_cons pe_int pa_nil)) (blkOk_by (N := N_law_near_right) (sc := defScope s_law_near_right) (by decide +kernel)) (fun _ _ _ _ _ => (pg_name (i := 6) sc_law_near_right.nd rfl (Or.inl rfl))) (fun _ _ _ _ _ => pts_nil) (fun _ _ _ _ _ => (pe_call (ok_tree_height T) (hr.mono (by decide)) rfl T.g_tree_height T.d_tree_height.kp (b_tree_height T.d_tree_height) .nil pass0 (pa_cons (pv 0) (pa_cons (pe_op op_add (pv 1) (pv 6)) pa_nil))))))
      (pss_cons (ps_if (pt_cmpR op_ne (pe_call (ok_height_sum T) (hr.mono (by decide)) rfl T.g_height_sum T.d_height_sum.kp (b_height_sum T.d_height_sum) .nil pass0 (pa_cons (pv 0) (pa_cons (pv 1) (pa_cons (pe_op op_add (pv 1) pe_int) pa_nil)))) (pe_callB (cr_sumK (K := K) rfl) (by rfl) T.n_sum (by decide +kernel) (pa_cons (pv 2) pa_nil)) (nomark _)) (pss_one (ps_ret pe_bl)) pss_nil)
      (pss_cons (ps_if (pt_cmpR (op_neNK (K := K) hr.units) (pe_call (ok_greatest_height T) (hr.mono (by decide)) rfl T.g_greatest_height T.d_greatest_height.kp (b_greatest_height T.d_greatest_height) .nil pass0 (pa_cons (pv 0) (pa_cons (pv 1) (pa_cons (pe_op op_add (pv 1) pe_int) pa_nil)))) (pe_tup (pa_cons (pe_callB (cr_maxK (K := K) rfl) (by rfl) T.n_max (by decide +kernel) (pa_cons (pv 2) pa_nil)) (pa_cons (pe_op op_add (pv 1) (pe_bm PySem.F.plainAttrs_list PySem.F.slot_list_index PySem.F.type_list_index mt_index (pv 2) (pa_cons (pe_callB (cr_maxK (K := K) rfl) (by rfl) T.n_max (by decide +kernel) (pa_cons (pv 2) pa_nil)) pa_nil))) pa_nil))) (nomark _)) (pss_one (ps_ret pe_bl)) pss_nil)
      (pss_cons (ps_for PassesOwn.never rfl (pi_list (pe_lc (own := [("one", 7)]) rfl sc_law_near_right.nd (pi_list (pe_callB (cr_sortS rfl) (by rfl) T.n_sorted (by decide +kernel) (pa_cons (pe_callTy (cr_setL (K := K) rfl) (by rfl) T.n_set (by decide +kernel) (pa_cons (pe_op (op_catSK (K := K)) (pv 2) (pe_lst (pa_cons pe_int (pa_cons pe_int (pa_cons (pe_op op_add (pe_callB (cr_maxK (K := K) rfl) (by rfl) T.n_max (by decide +kernel) (pa_cons (pv 2) pa_nil)) pe_int) pa_nil))))) pa_nil)) pa_nil))) (blkOk_by (N := N_law_near_right) (sc := defScope s_law_near_right) (by decide +kernel)) (fun _ _ _ _ _ => (pg_name (i := 7) sc_law_near_right.nd rfl (Or.inl rfl))) (fun _ _ _ _ _ => (pts_one (pt_cmpR op_gt (pv 7) pe_int (nomark _)))) (fun _ _ _ _ _ => (pv 7)))) (pg_name (i := 3) sc_law_near_right.nd rfl (Or.inr rfl)) (pss_cons (ps_setLc (i := 4) (own := [("k", 6)]) rfl sc_law_near_right.nd rfl rfl (sw_true rfl rfl rfl (by decide +kernel)) (pi_range1 (by rfl) T.n_range (pa_cons pe_int pa_nil)) (blkOk_by (N := N_law_near_right) (sc := defScope s_law_near_right) (by decide +kernel)) (fun _ _ _ _ _ => (pg_name (i := 6) sc_law_near_right.nd rfl (Or.inl rfl))) (fun _ _ _ _ _ => (pts_one (pt_cmpR op_ge (pe_ix (ix_listK (K := K)) (pv 2) (pv 6) (fun _ _ => rfl)) (pv 3) (nomark _)))) (fun _ _ _ _ _ => (pv 6)))
      (pss_cons (ps_if (pt_cmpR op_ne (pe_call (ok_height_count T) (hr.mono (by decide)) rfl T.g_height_count T.d_height_count.kp (b_height_count T.d_height_count) .nil pass0 (pa_cons (pv 0) (pa_cons (pv 3) (pa_cons (pv 1) (pa_cons (pe_op op_add (pv 1) pe_int) pa_nil))))) (pe_callB (call_lenK (K := K)) (by rfl) T.n_len (by decide +kernel) (pa_cons (pv 4) pa_nil)) (nomark _)) (pss_one (ps_ret pe_bl)) pss_nil)
      (pss_cons (ps_set (i := 5) sc_law_near_right.nd rfl (Or.inl rfl) (pe_call (ok_next_height T) (hr.mono (by decide)) rfl T.g_next_height T.d_next_height.kp (b_next_height T.d_next_height) .nil pass0 (pa_cons (pv 0) (pa_cons (pv 1) (pa_cons (pv 3) pa_nil)))))
      (pss_cons (ps_if (PW.pt (pw_or (PW.pt (pw_and (pt_cmpR (op_neNK (K := K) hr.units) (pv 4) (pe_lst pa_nil) (nomark _)) (pw_and1 (pt_cmpR op_ne (pv 5) (pe_op op_add (pv 1) (pe_ix (ix_listK (K := K)) (pv 4) pe_int (fun _ _ => rfl))) (nomark _))))) (pw_or1 (PW.pt (pw_and (pt_cmpR (op_eqNK (K := K) hr.units) (pv 4) (pe_lst pa_nil) (nomark _)) (pw_and (pt_cmpR op_notN (pv 5) pe_non (nomark _)) (pw_and1 (pt_cmpR op_lt (pv 5) (pe_op op_add (pv 1) pe_int) (nomark _))))))))) (pss_one (ps_ret pe_bl)) pss_nil)
      (pss_cons (ps_if (PW.pt (pw_and (pt_cmpR op_notN (pv 5) pe_non (nomark _)) (pw_and1 (pt_cmpR op_lt (pe_call (ok_tree_height T) (hr.mono (by decide)) rfl T.g_tree_height T.d_tree_height.kp (b_tree_height T.d_tree_height) .nil pass0 (pa_cons (pv 0) (pa_cons (pv 5) pa_nil))) (pv 3) (nomark _))))) (pss_one (ps_ret pe_bl)) pss_nil)
      (pss_one (ps_if (PW.pt (pw_and (pt_cmpR op_notN (pv 5) pe_non (nomark _)) (pw_and (pt_cmpR op_gt (pv 5) (pv 1) (nomark _)) (pw_and1 (pt_cmpR op_ge (pe_call (ok_tree_height T) (hr.mono (by decide)) rfl T.g_tree_height T.d_tree_height.kp (b_tree_height T.d_tree_height) .nil pass0 (pa_cons (pv 0) (pa_cons (pe_op op_sub (pv 5) pe_int) pa_nil))) (pv 3) (nomark _)))))) (pss_one (ps_ret pe_bl)) pss_nil))))))))
      (pss_one (ps_ret pe_bl)))))), ?_⟩
    unfold sp_law_near_right at h
    obtain ⟨s, p, m, rfl, hs, ok, hm, k⟩ := h
    walk_at "rd"
    intro D nD
    refine lc_range (lo := 0) (n := 40) (fun i G => G D = some (.lst ((hts p m i).map V.int)) ∧ SX [D] H G) ⟨upd_same, SX.refl.mut nD⟩ ?_ ?_
    · rintro i G hi ⟨hD, f⟩
      refine ⟨rfl, ?_⟩
      have sG : Same H G := fun b o ho => f _ _ (by simp [ne_of_none ho nD]) ho
      walk_at "rd"
      refine use_tree_height (m := m + i) (by omega) (hs.same sG) ok (by omega) fun G1 g1 => ?_
      refine ⟨_, g1 _ _ hD, szlt (by rw [List.length_map, hts_len]; omega), ?_, (f.trans g1.sx).upd (by simp)⟩
      rw [upd_same, hts_succ, List.map_append]
      rfl
    rintro G ⟨hD, f⟩
    have sG : Same H G := fun b o ho => f _ _ (by simp [ne_of_none ho nD]) ho
    have hsG := hs.same sG
    walk_at "rd"
    refine use_hsum (x := m) (y := m + 40) rfl (by omega) hsG ok ⟨by omega, by omega⟩ fun G1 g1 => ?_
    have hD1 := g1 _ _ hD
    walk_at "rd"
    refine ⟨_, _, rfl, SqL.of hD1, ?_⟩
    walk_at "rd"
    refine ne_eq (by rw [hts_sum]) ?_
    walk_at "rd"
    refine use_greatest (x := m) (y := m + 40) rfl (by omega) (hsG.same g1) ok ⟨by omega, by omega⟩ (fun z => by omega) (fun hlt q5 r G5 g5 r1 r2 r3 r4 c5 => ?_)
    have hD5 := g5 _ _ hD1
    have hlen : 0 < (hts p m 40).length := by rw [hts_len]; omega
    walk_at "rd"
    refine ⟨_, _, rfl, SqL.of hD5, hlen, fun mm hm1 hm2 => ?_⟩
    walk_at "rd"
    refine ⟨.inl ⟨rfl, _, SqL.of hD5⟩, ?_⟩
    walk_at "rd"
    refine ⟨_, _, rfl, SqL.of hD5, hlen, fun mm2 hm3 hm4 => ?_⟩
    have emm : mm2 = mm := by have := hm2 mm2 hm3; have := hm4 mm hm1; omega
    subst emm
    obtain ⟨i0, hi0, e0⟩ := hts_mem hm1
    obtain ⟨i1, hi1, ⟨hi2, hi3⟩, hi4⟩ := least_ex (P := fun i => i < 40 ∧ ((ht p (m + i) : Nat) : Int) = mm2) i0 ⟨hi0, e0.symm⟩
    walk_at "rd"
    refine ⟨_, _, _, i1, .int mm2, rfl, rfl, SqL.of hD5, rfl, (by rw [List.all_map]; exact List.all_eq_true.mpr fun z _ => rfl), (by rw [List.getElem?_map, hts_get p hi2, hi3]; rfl), (by unfold eqV; simp), (fun m2 z2 hm hz2 => ?_), ?_⟩
    · have hm3 : m2 < 40 := by omega
      rw [List.getElem?_map, hts_get p hm3] at hz2
      cases hz2
      have := hi4 m2 hm
      unfold eqV
      simp
      intro z
      exact this ⟨hm3, z⟩
    walk_at "rd"
    intro q6 n6
    generalize eG6 : upd _ q6 _ = G6
    obtain ⟨g6, c6⟩ := gen_new n6 eG6
    clear eG6
    have c56 := g6 _ _ c5
    have hD6 := g6 _ _ hD5
    have er : r = m + i1 := by
      obtain ⟨d, rfl⟩ : ∃ d, r = m + d := ⟨r - m, by omega⟩
      have a1 := r3 (m + i1) (by omega) (by omega)
      have a2 := hm2 _ (List.mem_of_getElem? (hts_get p (show d < 40 by omega)))
      by_cases z : d < i1
      · exact absurd ⟨by omega, by omega⟩ (hi4 d z)
      · by_cases z2 : i1 < d
        · have := r4 (m + i1) (by omega) (by omega)
          omega
        · omega
    refine use_neN (.tup (SqT.of c56) (dp_pyi [_, _])) (.tup (SqT.of c6) (dp_pyi [_, _])) (nb_tup _) (nb_tup _) fun e he => ?_
    have he : e = false := ne_false_of he (by rw [er, hi3, Int.natCast_add])
    subst he
    have sG6 : Same G G6 := (g1.trans g5).trans g6
    clear c5 c6 c56 r3 r4 hi4 hm2 hm4
    walk_at "rd"
    refine ⟨_, _, rfl, SqL.of hD6, hlen, fun mm3 hm5 hm6 => ?_⟩
    obtain ⟨i3, hi5, e3⟩ := hts_mem hm5
    have hcap : ∀ j, j < 40 → ht p (m + j) ≤ 101 := fun j hj => ht_small ok (by omega)
    walk_at "rd"
    intro q7 n7
    generalize eG7 : upd _ q7 _ = G7
    obtain ⟨g7, c7⟩ := gen_new n7 eG7
    clear eG7
    have hD7 := g7 _ _ hD6
    refine use_cat (SqL.of hD7) (SqL.of c7) (by rw [List.length_map, hts_len]; simp) fun q8 G8 n8 g8 c8 => ?_
    have c8' : G8 q8 = some (.lst ((hts p m 40 ++ [1, 2, mm3 + 1]).map V.int)) := by rw [c8, List.map_append]; rfl
    walk_at "rd"
    refine ⟨_, _, rfl, SqL.of c8', by rw [List.length_append, hts_len]; simp, fun q9 n9' G9 n9 g9 hn9 c9 => ?_⟩
    rw [List.length_append, hts_len] at hn9
    simp only [List.length_cons, List.length_nil] at hn9
    walk_at "rd"
    refine ⟨_, _, _, rfl, c9, by omega, fun ls q10 G10 pw hmem hll n10 g10 c10 => ?_⟩
    have hls : ∀ z ∈ ls, z ≤ 102 := fun z hz => by
      have h1 := of_decide_eq_true ((hmem z).mp hz)
      rcases List.mem_append.mp h1 with h1 | h1
      · obtain ⟨j, hj, rfl⟩ := hts_mem h1
        have := hcap j hj
        omega
      · simp only [List.mem_cons, List.mem_nil_iff, or_false] at h1
        have := hcap i3 hi5
        rcases h1 with rfl | rfl | rfl <;> omega
    have sG10 : Same G G10 := (((sG6.trans g7).trans g8).trans g9).trans g10
    walk_at "rd"
    intro D2 nD2
    have hll2 : ls.length ≤ 43 := by omega
    refine lc_list (K := K) (a := q10) (xs := ls.map V.int) (fun j G' => ∃ zs : List Int, G' D2 = some (.lst (zs.map V.int)) ∧ SX [D2] G10 G' ∧ zs.length ≤ j ∧ ∀ z ∈ zs, 1 ≤ z ∧ z ≤ 102) ⟨[], upd_same, SX.refl.mut nD2, Nat.le_refl _, fun z hz => (nomatch hz)⟩ ?_ ?_ ?_
    · rintro j G' _ ⟨_, _, fz, _⟩
      exact SqL.of (fz _ _ (by simp [ne_of_none c10 nD2]) c10)
    · rintro j v G' hx ⟨zs, hz1, fz, hz2, hz3⟩
      obtain ⟨z, hz, rfl⟩ := map_some hx
      have hj : j < ls.length := (List.getElem?_eq_some_iff.mp hz).1
      have hzl := hls z (List.mem_of_getElem? hz)
      refine ⟨rfl, ?_⟩
      walk_at "rd"
      refine ite2 (fun d => ?_) (fun d => ?_)
      · have d := of_decide_eq_true d
        have d : z > 0 := d
        walk_at "rd"
        refine ⟨_, hz1, szlt (by rw [List.length_map]; omega), zs ++ [z], by rw [upd_same, List.map_append]; rfl, fz.upd (by simp), by rw [List.length_append]; simp; omega, fun y hy => ?_⟩
        rcases List.mem_append.mp hy with hy | hy
        · exact hz3 y hy
        · rw [List.mem_singleton.mp hy]; omega
      · exact ⟨zs, hz1, fz, by omega, hz3⟩
    rintro G11 ⟨zs, hz1, fz, hz2, hz3⟩
    have s11 : Same G10 G11 := fun c o ho => fz _ _ (by simp [ne_of_none ho nD2]) ho
    have sG11 := sG10.trans s11
    have hD11 := sG11 _ _ hD
    have hs11 := hsG.same sG11
    walk_at "rd"
    refine for_list (xs := zs.map V.int) (fun i σ G' => ∃ v3 v4 v5 v6 v7, σ = [some (.ref s), some (.int m), some (.ref D), v3, v4, v5, v6, v7] ∧ Same G11 G') ⟨_, _, _, _, _, rfl, Same.refl _⟩ ?_ ?_ ?_
    · rintro i σ G' _ ⟨v3, v4, v5, v6, v7, rfl, f'⟩
      exact SqL.of (f' _ _ hz1)
    · rintro i v σ G' hx ⟨v3, v4, v5, v6, v7, rfl, f'⟩
      obtain ⟨z, hz, rfl⟩ := map_some hx
      have hzb := hz3 z (List.mem_of_getElem? hz)
      obtain ⟨l, rfl⟩ : ∃ l : Nat, z = (l : Int) := ⟨z.toNat, (Int.toNat_of_nonneg (by omega)).symm⟩
      have hDG := f' _ _ hD11
      have hsG' := hs11.same f'
      walk_at "rd"
      intro D3 nD3
      refine lc_range (lo := 0) (n := 40) (fun j G2 => ∃ zs : List Int, G2 D3 = some (.lst (zs.map V.int)) ∧ SX [D3] G' G2 ∧ cnt (GE p l) (m + j) = cnt (GE p l) m + zs.length ∧ zs.length ≤ j ∧ (∀ z ∈ zs, ∃ r : Nat, z = (r : Int) ∧ r < j ∧ GE p l (m + r)) ∧ (zs = [] → ∀ r, r < j → ¬ GE p l (m + r)) ∧ (∀ z l', zs = z :: l' → ∀ r : Nat, (r : Int) < z → ¬ GE p l (m + r))) ⟨[], upd_same, SX.refl.mut nD3, rfl, Nat.le_refl _, fun z hz => (nomatch hz), fun _ r a => by omega, fun z l e => (nomatch e)⟩ ?_ ?_
      · rintro j G2 hj ⟨zs, hD2, fy, hc, hl2, h1, h2, h3⟩
        refine ⟨rfl, ?_⟩
        have hqG2 := fy _ _ (by simp [ne_of_none hDG nD3]) hDG
        walk_at "rd"
        refine ⟨_, _, _, .int (ht p (m + j) : Nat), rfl, rfl, SqL.of hqG2, atI_int (j := j) (by omega) (by rw [List.getElem?_map, hts_get p hj]; rfl), ?_⟩
        walk_at "rd"
        refine ite2 (fun d => ?_) (fun d => ?_)
        · have d := of_decide_eq_true d
          have d : ((ht p (m + j) : Nat) : Int) ≥ (l : Int) := d
          have hg : GE p l (m + j) := (ge_ht ok (by omega) _).mpr (by omega)
          walk_at "rd"
          refine ⟨_, hD2, szlt (by rw [List.length_map]; omega), zs ++ [(0 : Int) + (j : Int)], by rw [upd_same, List.map_append]; rfl, fy.upd (by simp), ?_, by rw [List.length_append]; simp; omega, fun z hz => ?_, fun e => ?_, fun z l' e r b => ?_⟩
          · rw [show m + (j + 1) = m + j + 1 by omega, cnt_pos hg, hc, List.length_append]
            simp
            omega
          · rcases List.mem_append.mp hz with hz | hz
            · obtain ⟨r, e1, e3, e4⟩ := h1 z hz
              exact ⟨r, e1, by omega, e4⟩
            · rw [List.mem_singleton.mp hz]
              exact ⟨j, by omega, by omega, hg⟩
          · cases zs <;> cases e
          · cases zs with
            | nil =>
              injection e with e1 _
              exact h2 rfl r (by omega)
            | cons z0 l0 =>
              injection e with e1 _
              subst e1
              exact h3 _ _ rfl r b
        · have d := dcn d
          have d : ¬ ((ht p (m + j) : Nat) : Int) ≥ (l : Int) := d
          have hg : ¬ GE p l (m + j) := fun z => by have := (ge_ht ok (show 1 ≤ l by omega) _).mp z; omega
          refine ⟨zs, hD2, fy, by rw [show m + (j + 1) = m + j + 1 by omega, cnt_neg hg, hc], by omega, fun z hz => ?_, fun e r a => ?_, h3⟩
          · obtain ⟨r, e1, e3, e4⟩ := h1 z hz
            exact ⟨r, e1, by omega, e4⟩
          · by_cases er : r = j
            · rw [er]; exact hg
            · exact h2 e r (by omega)
      · rintro G2 ⟨zs, hD2, fy, hc, hl2, h1, h2, h3⟩
        have s24 : Same G' G2 := fun c o ho => fy _ _ (by simp [ne_of_none ho nD3]) ho
        walk_at "rd"
        refine use_hcount (l := l) (x := m) (y := m + 40) rfl rfl (by omega) (hsG'.same s24) ok ⟨by omega, by omega⟩ ⟨by omega, by omega⟩ fun G3 g3 => ?_
        have hD3 := g3 _ _ hD2
        walk_at "rd"
        refine ne_eq (by rw [List.length_map]; omega) ?_
        walk_at "rd"
        refine use_next_height (l := l) rfl rfl ((hsG'.same s24).same g3) ok ⟨by omega, by omega⟩ (by omega) fun v G4 g4 hff => ?_
        have hD4 := g4 _ _ hD3
        have s44 : Same G' G4 := (s24.trans g3).trans g4
        walk_at "rd"
        intro q12 n12
        generalize eG12 : upd _ q12 _ = G12
        obtain ⟨g12, c12⟩ := gen_new n12 eG12
        clear eG12
        have hD12 := g12 _ _ hD4
        have s412 := s44.trans g12
        refine use_neN (.lst (SqL.of hD12) (dp_pyi zs)) (.lst (SqL.of c12) .nil) (nb_list zs) (nb_list []) fun e he => ?_
        have last2 : ∀ (r : Nat) (G13 : Hp), Same G' G13 → m ≤ r → r ≤ 1000000000000000000000000000000 → GE p l r → (∀ j, m ≤ j → j < r → ¬ GE p l j) → True := fun _ _ _ _ _ _ _ => trivial
        cases zs with
        | nil =>
          have he : e = false := ne_false_of he rfl
          subst he
          have hno := h2 rfl
          walk_at "rd"
          intro q13 n13
          generalize eG13 : upd _ q13 _ = G13
          obtain ⟨g13, c13⟩ := gen_new n13 eG13
          clear eG13
          have hD13 := g13 _ _ hD12
          have s413 := s412.trans g13
          refine use_eqN (.lst (SqL.of hD13) .nil) (.lst (SqL.of c13) .nil) (nb_list []) (nb_list []) fun e he => ?_
          have he : e = true := he.mpr rfl
          subst he
          rcases hff with ⟨rfl, _⟩ | ⟨r, rfl, b1, b2, b3, b4⟩
          · walk_at "rd"
            exact ⟨_, _, _, _, _, rfl, f'.trans s413⟩
          · have hr : m + 40 ≤ r := by
              by_cases z : m + 40 ≤ r
              · exact z
              · obtain ⟨d, rfl⟩ : ∃ d, r = m + d := ⟨r - m, by omega⟩
                exact absurd b3 (hno d (by omega))
            walk_at "rd"
            refine ite2 (fun d => absurd (of_decide_eq_true d) (by omega)) (fun d => ?_)
            walk_at "rd"
            refine use_tree_height (m := r) rfl (hsG'.same s413) ok b1 fun G14 g14 => ?_
            have hge := (ge_ht ok (show 1 ≤ l by omega) r).mp b3
            walk_at "rd"
            refine ite2 (fun d => absurd (of_decide_eq_true d) (by omega)) (fun d => ?_)
            walk_at "rd"
            refine ite2 (fun d => ?_) (fun d => ?_)
            · have d := of_decide_eq_true d
              have d : (r : Int) > (m : Int) := d
              have hlt : ¬ l ≤ ht p (r - 1) := fun z => b4 (r - 1) (by omega) (by omega) ((ge_ht ok (show 1 ≤ l by omega) (r - 1)).mpr z)
              walk_at "rd"
              refine use_tree_height (m := r - 1) (by omega) ((hsG'.same s413).same g14) ok (by omega) fun G15 g15 => ?_
              walk_at "rd"
              refine ite2 (fun d => absurd (of_decide_eq_true d) (by omega)) (fun d => ?_)
              walk_at "rd"
              exact ⟨_, _, _, _, _, rfl, f'.trans ((s413.trans g14).trans g15)⟩
            · walk_at "rd"
              exact ⟨_, _, _, _, _, rfl, f'.trans (s413.trans g14)⟩
        | cons z0 l0 =>
          have he : e = true := he.mpr (by intro z; cases z)
          subst he
          obtain ⟨r0, rfl, d2, d3⟩ := h1 z0 (List.mem_cons_self ..)
          have hlt := h3 _ _ rfl
          rcases hff with ⟨rfl, hno⟩ | ⟨r, rfl, b1, b2, b3, b4⟩
          · exact absurd (hno (m + r0) (by omega) d3) (by omega)
          · have er : r = m + r0 := by
              by_cases z1 : m + r0 < r
              · exact absurd d3 (b4 (m + r0) (by omega) z1)
              · by_cases z2 : r < m + r0
                · obtain ⟨d, rfl⟩ : ∃ d, r = m + d := ⟨r - m, by omega⟩
                  exact absurd b3 (hlt d (by omega))
                · omega
            walk_at "rd"
            refine ⟨_, _, _, .int (r0 : Int), rfl, rfl, SqL.of hD12, atI_int (j := 0) rfl rfl, ?_⟩
            walk_at "rd"
            refine ne_eq (by omega) ?_
            walk_at "rd"
            intro q13 n13
            generalize eG13 : upd _ q13 _ = G13
            obtain ⟨g13, c13⟩ := gen_new n13 eG13
            clear eG13
            have hD13 := g13 _ _ hD12
            have s413 := s412.trans g13
            refine use_eqN (.lst (SqL.of hD13) (dp_pyi _)) (.lst (SqL.of c13) .nil) (nb_list _) (nb_list []) fun e he => ?_
            have he : e = false := by
              cases e with
              | false => rfl
              | true => exact absurd (he.mp rfl) (by intro z; cases z)
            subst he
            walk_at "rd"
            refine use_tree_height (m := r) rfl (hsG'.same s413) ok b1 fun G14 g14 => ?_
            have hge := (ge_ht ok (show 1 ≤ l by omega) r).mp b3
            walk_at "rd"
            refine ite2 (fun d => absurd (of_decide_eq_true d) (by omega)) (fun d => ?_)
            walk_at "rd"
            refine ite2 (fun d => ?_) (fun d => ?_)
            · have d := of_decide_eq_true d
              have d : (r : Int) > (m : Int) := d
              have hlt2 : ¬ l ≤ ht p (r - 1) := fun z => b4 (r - 1) (by omega) (by omega) ((ge_ht ok (show 1 ≤ l by omega) (r - 1)).mpr z)
              walk_at "rd"
              refine use_tree_height (m := r - 1) (by omega) ((hsG'.same s413).same g14) ok (by omega) fun G15 g15 => ?_
              walk_at "rd"
              refine ite2 (fun d => absurd (of_decide_eq_true d) (by omega)) (fun d => ?_)
              walk_at "rd"
              exact ⟨_, _, _, _, _, rfl, f'.trans ((s413.trans g14).trans g15)⟩
            · walk_at "rd"
              exact ⟨_, _, _, _, _, rfl, f'.trans (s413.trans g14)⟩
    · rintro σ G' ⟨v3, v4, v5, v6, v7, rfl, f'⟩
      walk_at "rd"
      exact k G' (sG.trans (sG11.trans f'))

theorem cut_from (xs : List V) (b : Nat) : cutV xs (some (b : Int)) none = xs.drop b := by
  unfold cutV
  rw [HT.sIx_nat, HT.sIx_none]
  by_cases h : b ≤ xs.length
  · rw [Nat.min_eq_left h, List.take_of_length_le (by rw [List.length_drop]; omega)]
  · rw [Nat.min_eq_right (by omega), List.drop_length, List.drop_of_length_le (by omega), List.take_nil]
@[irreducible] def sp_law (K : PySem.W.Frag) : Sp := fun vs H Q _ => ∃ (a : Addr) (ns : List Int), vs = [.ref a] ∧ SqL K H a (ns.map V.int) ∧ ns.length ≤ 63 ∧ ∀ H', Q (.bl true) H'
theorem b_law {K : PySem.W.Frag} {fd : FuncData} (F : F_law K fd) : Binds K fd P_law [] := FunD.bindsN F fun _ _ _ _ _ _ us hl => match us, hl with | [_], _ => rfl
theorem ok_law (T : Txt K mg D) : FnOk P w K mg base CX0 12 (He.fAd K ("law", none)) (D D_law) P_law (sp_law K) := by
  refine T.d_law.ok sc_law (fun vs H Q E h => ?_) (fun cdv A outer s H vs Q E hr h => ?_)
  · unfold sp_law at h
    first | (obtain ⟨rfl, _⟩ := h; rfl) | (obtain ⟨_, rfl, _⟩ := h; rfl) | (obtain ⟨_, _, rfl, _⟩ := h; rfl) | (obtain ⟨_, _, _, rfl, _⟩ := h; rfl) | (obtain ⟨_, _, _, _, rfl, _⟩ := h; rfl) | (obtain ⟨_, _, _, _, _, rfl, _⟩ := h; rfl) | (obtain ⟨_, _, _, _, _, _, rfl, _⟩ := h; rfl) | (obtain ⟨_, _, _, _, _, _, _, rfl, _⟩ := h; rfl) | (obtain ⟨_, _, _, _, _, _, _, _, rfl, _⟩ := h; rfl) | (obtain ⟨_, _, _, _, _, _, _, _, _, rfl, _⟩ := h; rfl) | (obtain ⟨_, _, _, _, _, _, _, _, _, _, rfl, _⟩ := h; rfl) | (obtain ⟨_, _, _, _, _, _, _, _, _, _, _, rfl, _⟩ := h; rfl)
  · refine ⟨_, PSs.nox (pss_cons (ps_for PassesOwn.never rfl (pi_list (pe_op (op_catSK (K := K)) (pe_slice (sl_listK (K := K)) (pv 0) po_none (po_some pe_int)) (pe_slice (sl_listK (K := K)) (pe_lst (pa_cons pe_int pa_nil)) (po_some (pe_callB (call_lenK (K := K)) (by rfl) T.n_len (by decide +kernel) (pa_cons (pv 0) pa_nil))) po_none))) (pg_name (i := 1) sc_law.nd rfl (Or.inl rfl)) (pss_cons (ps_set (i := 2) sc_law.nd rfl (Or.inl rfl) (pe_call (ok_law_digits T) (hr.mono (by decide)) rfl T.g_law_digits T.d_law_digits.kp (b_law_digits T.d_law_digits) .nil pass0 (pa_cons (pv 1) (pa_cons pe_int pa_nil))))
      (pss_cons (ps_set (i := 3) sc_law.nd rfl (Or.inr rfl) (pe_call (ok_law_settings T) (hr.mono (by decide)) rfl T.g_law_settings T.d_law_settings.kp (b_law_settings T.d_law_settings) .nil pass0 (pa_cons (pe_call (ok_law_parts T) (hr.mono (by decide)) rfl T.g_law_parts T.d_law_parts.kp (b_law_parts T.d_law_parts) .nil pass0 (pa_cons (pv 2) pa_nil)) pa_nil)))
      (pss_cons (ps_set (i := 4) sc_law.nd rfl (Or.inl rfl) (pe_call (ok_law_moments T) (hr.mono (by decide)) rfl T.g_law_moments T.d_law_moments.kp (b_law_moments T.d_law_moments) .nil pass0 (pa_cons (pv 3) (pa_cons (pv 2) pa_nil))))
      (pss_cons (ps_if (pt_cmpR (op_neNK (K := K) hr.units) (pe_lc (own := [("moment", 6)]) rfl sc_law.nd (pi_list (pv 4)) (blkOk_by (N := N_law) (sc := defScope s_law) (by decide +kernel)) (fun _ _ _ _ _ => (pg_name (i := 6) sc_law.nd rfl (Or.inl rfl))) (fun _ _ _ _ _ => (pts_one (pt_not (pt_val (pe_call (ok_law_near_right T) (hr.mono (by decide)) rfl T.g_law_near_right T.d_law_near_right.kp (b_law_near_right T.d_law_near_right) .nil pass0 (pa_cons (pv 3) (pa_cons (pv 6) pa_nil))))))) (fun _ _ _ _ _ => (pv 6))) (pe_lst pa_nil) (nomark _)) (pss_one (ps_ret pe_bl)) pss_nil)
      (pss_cons (ps_for PassesOwn.never rfl (pi_tup (pe_tup (pa_cons pe_int (pa_cons pe_int pa_nil)))) (pg_name (i := 5) sc_law.nd rfl (Or.inl rfl)) (pss_one (ps_if (pt_not (pt_val (pe_call (ok_law_stretch_right T) (hr.mono (by decide)) rfl T.g_law_stretch_right T.d_law_stretch_right.kp (b_law_stretch_right T.d_law_stretch_right) .nil pass0 (pa_cons (pv 3) (pa_cons (pe_ix (ix_listK (K := K)) (pv 4) (pv 5) (fun _ _ => rfl)) (pa_cons (pe_ix (ix_listK (K := K)) (pv 4) (pe_op op_add (pv 5) pe_int) (fun _ _ => rfl)) (pa_cons (pe_ix (ix_listK (K := K)) (pv 4) (pe_op op_add (pv 5) pe_int) (fun _ _ => rfl)) pa_nil))))))) (pss_one (ps_ret pe_bl)) pss_nil)))
      (pss_one (ps_if (PW.pt (pw_or (pt_not (pt_val (pe_call (ok_law_stretch_right T) (hr.mono (by decide)) rfl T.g_law_stretch_right T.d_law_stretch_right.kp (b_law_stretch_right T.d_law_stretch_right) .nil pass0 (pa_cons (pv 3) (pa_cons pe_int (pa_cons (pe_ix (ix_listK (K := K)) (pv 4) pe_int (fun _ _ => rfl)) (pa_cons (pe_powc (c := 1000000000000000000000000000000) (by decide)) pa_nil))))))) (pw_or1 (pt_not (pt_val (pe_call (ok_law_end_right T) (hr.mono (by decide)) rfl T.g_law_end_right T.d_law_end_right.kp (b_law_end_right T.d_law_end_right) .nil pass0 (pa_cons (pv 3) pa_nil))))))) (pss_one (ps_ret pe_bl)) pss_nil))))))))
      (pss_one (ps_ret pe_bl))), ?_⟩
    unfold sp_law at h
    obtain ⟨a, ns, rfl, hS, hl, k⟩ := h
    walk_at "rd"
    try unfold L2.tNoPart
    walk_at "rd"
    refine use_sl (lo := none) (hi := some 1) (ys := (ns.take 1).map V.int) hS (by rw [show (1 : Int) = ((1 : Nat) : Int) by rfl, cut_to, List.map_take]) fun q1 H1 n1 g1 c1 => ?_
    walk_at "rd"
    intro q2 n2
    generalize eH2 : upd _ q2 _ = H2
    obtain ⟨g2, c2⟩ := gen_new n2 eH2
    clear eH2
    walk_at "rd"
    refine ⟨_, _, rfl, .inl ((g1.trans g2).seq hS), ?_⟩
    walk_at "rd"
    try unfold L2.tNoPart
    refine use_sl (lo := some (((ns.map V.int).length : Nat) : Int)) (hi := none) (ys := ([19].drop ns.length).map V.int) (SqL.of c2) (by rw [cut_from, List.length_map, List.map_drop]; rfl) fun q3 H3 n3 g3 c3 => ?_
    refine use_cat (SqL.of (g3 _ _ (g2 _ _ c1))) (SqL.of c3) (by rw [List.length_map, List.length_map, List.length_take, List.length_drop]; simp; omega) fun q4 H4 n4 g4 c4 => ?_
    rw [← List.map_append] at c4
    generalize ns.take 1 ++ [19].drop ns.length = cs at c4
    refine ⟨_, rfl, ⟨_, SqL.of c4⟩, for_list (xs := cs.map V.int) (fun i σ G => ∃ v1 v2 v3 v4 v5 v6, σ = [some (.ref a), v1, v2, v3, v4, v5, v6] ∧ Same H4 G) ⟨_, _, _, _, _, _, rfl, Same.refl _⟩ ?_ ?_ ?_⟩
    · rintro i σ G _ ⟨v1, v2, v3, v4, v5, v6, rfl, f⟩
      exact SqL.of (f _ _ c4)
    · rintro i v σ G hx ⟨v1, v2, v3, v4, v5, v6, rfl, f⟩
      obtain ⟨c, hc, rfl⟩ := map_some hx
      walk_at "rd"
      refine use_digits fun d fd G1 m1 s1 hf hd => ?_
      walk_at "rd"
      refine use_pd hf hd fun pa p G2 m2 s2 ok _ hp => ?_
      have hd2 := s2 _ _ hd
      walk_at "rd"
      refine use_settings hp ok fun b G3 m3 s3 hs => ?_
      have hd3 := s3 _ _ hd2
      walk_at "rd"
      refine use_moments hs ok hf hd3 fun qm ms G4 s4 hq hl8 hpw hmo => ?_
      have hs4 := hs.same s4
      have f4 := (((f.trans s1).trans s2).trans s3).trans s4
      walk_at "rd"
      intro D nD
      refine lc_list (K := K) (a := qm) (xs := ms.map V.int) (fun j G => SX [D] G4 G ∧ G D = some (.lst [])) ⟨SX.refl.mut nD, upd_same⟩ ?_ ?_ ?_
      · rintro j G' _ ⟨fz, _⟩
        exact SqL.of (fz _ _ (by simp [ne_of_none hq nD]) hq)
      · rintro j v G' hx ⟨fz, hD⟩
        obtain ⟨z, hz, rfl⟩ := map_some hx
        have hzb := hmo z (List.mem_of_getElem? hz)
        unfold MoOk at hzb
        have sG' : Same G4 G' := fun c o ho => fz _ _ (by simp [ne_of_none ho nD]) ho
        refine ⟨rfl, ?_⟩
        walk_at "rd"
        refine use_near (m := z.toNat) (Int.toNat_of_nonneg hzb.1).symm (hs4.same sG') ok (by omega) fun G5 g5 => ?_
        walk_at "rd"
        exact ⟨fz.trans g5.sx, g5 _ _ hD⟩
      rintro G5 ⟨fz, hD⟩
      have s5 : Same G4 G5 := fun c o ho => fz _ _ (by simp [ne_of_none ho nD]) ho
      walk_at "rd"
      intro q6 n6
      generalize eG6 : upd _ q6 _ = G6
      obtain ⟨g6, c6⟩ := gen_new n6 eG6
      clear eG6
      refine use_neN (.lst (SqL.of (g6 _ _ hD)) .nil) (.lst (SqL.of c6) .nil) (nb_list []) (nb_list []) fun e he => ?_
      have he : e = false := ne_false_of he rfl
      subst he
      have hq6 := (s5.trans g6) _ _ hq
      have hs6 := (hs4.same s5).same g6
      match ms, hl8, hpw, hmo, hq6 with
      | [m0, m1, m2, m3, m4, m5, m6, m7], _, hpw, hmo, hq6 =>
      simp only [List.pairwise_cons, List.mem_cons, List.mem_nil_iff, or_false, forall_eq_or_imp, forall_eq, List.not_mem_nil, false_implies, implies_true, List.Pairwise.nil, and_true] at hpw hmo
      unfold MoOk at hmo
      walk_at "rd"
      intro q7 n7
      generalize eG7 : upd _ q7 _ = G7
      obtain ⟨g7, c7⟩ := gen_new n7 eG7
      clear eG7
      have hq7 := g7 _ _ hq6
      have hs7 := hs6.same g7
      walk_at "rd"
      refine for_tup (K := K) (a := q7) (xs := [.int 0, .int 4]) (fun j σ G' => ∃ v5 v6, σ = [some (.ref a), some (.int c), some (.ref d), some (.ref b), some (.ref qm), v5, v6] ∧ Same G7 G') ⟨_, _, rfl, Same.refl _⟩ ?_ ?_ ?_
      · rintro j σ G' _ ⟨v5', v6', rfl, f7⟩
        exact SqT.of (f7 _ _ c7)
      · rintro j v σ G' hx ⟨v5', v6', rfl, f7⟩
        have hqG := f7 _ _ hq7
        match j, hx with
        | 0, hx =>
          cases hx
          walk_at "rd"
          refine use_sright (x := m0.toNat) (y := m1.toNat) (z := m3.toNat) (by omega) (by omega) (by omega) (hs7.same f7) ok ⟨by omega, by omega, by omega⟩ fun G8 g8 => ?_
          walk_at "rd"
          exact f7.trans g8
        | 1, hx =>
          cases hx
          walk_at "rd"
          refine use_sright (x := m4.toNat) (y := m5.toNat) (z := m7.toNat) (by omega) (by omega) (by omega) (hs7.same f7) ok ⟨by omega, by omega, by omega⟩ fun G8 g8 => ?_
          walk_at "rd"
          exact f7.trans g8
        | j + 2, hx => simp at hx
      · rintro σ G' ⟨v5', v6', rfl, f7⟩
        have hqG := f7 _ _ hq7
        walk_at "rd"
        refine use_sright (x := 0) (y := m3.toNat) (z := 1000000000000000000000000000000) rfl (by omega) rfl (hs7.same f7) ok ⟨by omega, by omega, by omega⟩ fun G8 g8 => ?_
        walk_at "rd"
        refine use_end ((hs7.same f7).same g8) ok fun G9 g9 => ?_
        walk_at "rd"
        exact ⟨_, _, _, _, _, _, rfl, (((((f4.trans s5).trans g6).trans g7).trans f7).trans g8).trans g9⟩
    · rintro σ G ⟨v1, v2, v3, v4, v5, v6, rfl, f⟩
      walk_at "rd"
      exact k _

end
end KR
open PySem PySem.W PySem.Calls PyProof.Rows in
set_option maxRecDepth 100000 in
set_option maxHeartbeats 0 in
theorem PySem.Challenge.cw_keeprows_k85_whole_heights_far_away_holds : PySem.Challenge.rw_keeprows_k85_whole_heights_far_away.Holds := by
  w_on; o_law
  refine HandSHeadRun.head_any (r := OpenLaw.row PySem.Challenge.rw_keeprows_k85_whole_heights_far_away) (q := view (OpenLaw.row PySem.Challenge.rw_keeprows_k85_whole_heights_far_away).prog [56]) (H := KR.hk) (ob := KR.ob) (M := 4000) (loose := KR.looseN) (d := HandSHeadRun.topDef (OpenLaw.row PySem.Challenge.rw_keeprows_k85_whole_heights_far_away).prog 56) (kwd := []) KR.ob_eq
    (by kernel_rfl) (fun s => by kernel_rfl) KR.run (by kernel_rfl) (by kernel_rfl) (by kernel_rfl) (by rfl) (by first | assumption | decide +kernel) (by decide +kernel) ⟨rfl, rfl, rfl, rfl, rfl, by decide +kernel⟩ ?hw ?hc
  case hw => w_witness2
  case hc =>
    refine L2.walk_ofE (l := PySem.Challenge.rw_keeprows_k85_whole_heights_far_away) (n := 63) (k := 12) (x := "script") (CX := L2.CX0) rfl (by decide) (by kernel_rfl) ⟨rfl, by decide, by decide⟩ ?F (fun _ _ _ _ z => z)
    intro w mg fa h Y G hmg0
    obtain ⟨K, KX, c, cx⟩ := Y
    have hmg : mg ("law" : PySem.Str) = some (.ref fa) := by
      have e : (HandSHeadRun.topDef (OpenLaw.row PySem.Challenge.rw_keeprows_k85_whole_heights_far_away).prog 56).name = ("law" : PySem.Str) := by kernel_rfl
      rw [← e]
      exact hmg0
    obtain ⟨D, T⟩ := KR.txt_of KX G c cx
    have e1 := hmg.symm.trans T.g_law
    cases e1
    exact ⟨K, D KR.D_law, KR.sp_law K, KX, fun s v => L2.FunD.bindsA (ps := ["script"]) T.d_law (fun _ _ _ _ _ _ us hl => match us, hl with | [_], _ => rfl) s [v] rfl, fun H a ns hl _ hS => by unfold KR.sp_law; exact ⟨a, ns, rfl, hS, hl, fun _ => rfl⟩, fun base _ _ => KR.ok_law T⟩
