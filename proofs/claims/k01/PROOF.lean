import PyProof.Rows.All
import Wide.All
import OpenK.AllK
import Wide.FinOn
import HandS.ForMost
import HandS.Exc
import HandS.TryOnly
import HandS.TryMany
import HandS.WordsExc
import HandS.Defaults
import HandS.MakeKwOnly
import HandS.IsInst
import HandS.Sort
import HandS.OwnEq
import HandS.Conv
import HandS.Flow
import HandS.Wide
import HandS.Evl
import HandS.Style
import HandS.Head0
import HandS.Head1
import HandS.Head2
import HandS.HeadEnd
import HandS.HeadHook1
import HandS.HeadHook2
import KE.KStateDown
import PyProof.LongRange
import PySem.Challenge.RW_keeprows_k01_settings_made
set_option Elab.async false
set_option linter.all false
set_option maxRecDepth 100000
set_option maxHeartbeats 16000000
set_option pp.deepTerms false
set_option pp.deepTerms.threshold 2
namespace KR
open PySem PySem.Spec PyProof.Rows L2
/-! ### small rules -/
theorem iteB {c : Bool} {A B : Prop} (h1 : c = true → A) (h2 : c = false → B) : if c = true then A else B := by
  cases c with
  | true => exact h1 rfl
  | false => exact h2 rfl
theorem iteT_of {c : Bool} {A B : Prop} (h : c = true) (a : A) : if c = true then A else B := by subst h; exact iteT a
theorem iteF_of {c : Bool} {A B : Prop} (h : c = false) (b : B) : if c = true then A else B := by subst h; exact iteF b
@[irreducible] def rIsiI (K : PySem.W.Frag) : List V → Hp → VK → Prop := rIsi K
theorem call_isiI {X : Cx} : CallR X (.builtin "isinstance") (rIsiI X.K) := by unfold rIsiI; exact call_isi
theorem isi_int {K : PySem.W.Frag} {H : Hp} {i : Int} {Q : VK} (q : Q (.bl true) H) : rIsiI K [.int i, .ty "int"] H Q := by
  unfold rIsiI; exact ⟨_, _, _, _, true, rfl, .ty _, .base (.int i), kit_ty (by decide +kernel), q⟩
theorem isi_bool {K : PySem.W.Frag} {H : Hp} {i : Int} {Q : VK} (q : Q (.bl false) H) : rIsiI K [.int i, .ty "bool"] H Q := by
  unfold rIsiI; exact ⟨_, _, _, _, false, rfl, .ty _, .base (.int i), kit_ty (by decide +kernel), q⟩
theorem isi_list {K : PySem.W.Frag} {H : Hp} {a : Addr} {xs : List V} {Q : VK} (h : H a = some (.lst xs)) (q : Q (.bl true) H) : rIsiI K [.ref a, .ty "list"] H Q := by
  unfold rIsiI; exact ⟨_, _, _, _, true, rfl, .ty _, .base (.lst h), kit_ty (by decide +kernel), q⟩
theorem pe_le {X : Cx} {e : Expr} {t t' : TE} (h : PE X e t) (k : ∀ σ H Q, t' σ H Q → t σ H Q) : PE X e t' := ⟨fun pins s σ H Q I hw => h.run pins s σ H Q I (k σ H Q hw)⟩
theorem pe_powc {X : Cx} {a b c : Int} {i j : Nat} {p1 p2 pos : Pos} (h : 0 ≤ b ∧ b ≤ 1000000 ∧ a.natAbs < 2 ^ 64 ∧ a ^ b.toNat = c) :
    PE X (.BinOp (.Constant (.int a) i p1) .Pow (.Constant (.int b) j p2) pos) (tC (.int c)) :=
  pe_le (pe_op op_pow pe_int pe_int) fun σ H Q q => ⟨a, b, rfl, rfl, ⟨h.1, h.2.1, h.2.2.1⟩, (show Q (.int (a ^ b.toNat)) H by rw [h.2.2.2]; exact q)⟩
theorem pe_globi {X : Cx} {x : Str} {i : Int} {pos : Pos} (hm : ∃ t, X.mg x = some (.int i t)) (hg : Gl X x := by rfl) (hd : (x == ("__debug__" : Str)) = false := by decide) : PE X (.Name x pos) (tC (.int i)) := by
  obtain ⟨t, h⟩ := hm
  exact pe_glob hg h ⟨t, rfl⟩ hd
/-! ### side conditions of numbers -/
theorem log2_lt {n : Nat} {k : Nat} (h : n < 2 ^ k) (hk : 0 < k) : n.log2 < k := by
  by_cases hn : n = 0
  · subst hn; simpa using hk
  · exact (Nat.log2_lt hn).2 h
theorem cdw {i j : Int} (h0 : 0 < j) (h1 : j ≤ 1000000000000000000000000000000000000000000) : CDivW i j :=
  ⟨h0, log2_lt (Nat.lt_of_lt_of_le (Nat.lt_succ_of_le (show j.natAbs ≤ 1000000000000000000000000000000000000000000 by omega)) (by decide +kernel)) (by decide)⟩
theorem cdv {i j : Int} (h0 : 0 < j) (h1 : j < 1073741824) : CDiv i j := ⟨h0, h1⟩
theorem cml {i j : Int} (h0 : -18446744073709551616 < i) (h1 : i < 18446744073709551616) : CMul i j := .inl ⟨h0, h1⟩
theorem cmr {i j : Int} (h0 : -18446744073709551616 < j) (h1 : j < 18446744073709551616) : CMul i j := .inr ⟨h0, h1⟩
/-! ### heaps: what was tracked stands, but for one address -/
def SB (s : Addr) (H H' : Hp) : Prop := ∀ b o, b ≠ s → H b = some o → H' b = some o
theorem SB.refl {s : Addr} {H : Hp} : SB s H H := fun _ _ _ h => h
theorem SB.trans {s : Addr} {H H1 H2 : Hp} (a : SB s H H1) (b : SB s H1 H2) : SB s H H2 := fun c o n h => b c o n (a c o n h)
theorem _root_.L2.Same.sb {s : Addr} {H H' : Hp} (a : Same H H') : SB s H H' := fun c o _ h => a c o h
theorem SB.free {s : Addr} {H H' : Hp} (e : SB s H H') {l : Addr} (n : l ≠ s) (h : H' l = none) : H l = none := by
  cases q : H l with
  | none => rfl
  | some o => rw [e l o n q] at h; cases h
theorem SB.upd {s : Addr} {H : Hp} {o : HO} : SB s H (upd H s o) := fun b u n h => by rw [upd_ne n]; exact h
theorem same_new {H : Hp} {p : Addr} {o : HO} (h : H p = none) : Same H (upd H p o) := fun b u e => by rw [upd_ne (ne_of_none e h)]; exact e
theorem gen_new {H H' : Hp} {p : Addr} {o : HO} (n : H p = none) (e : upd H p o = H') : Same H H' ∧ H' p = some o := by
  subst e
  exact ⟨same_new n, upd_same⟩
/-- a new object, its heap a letter -/
theorem new_obj {H : Hp} {o : HO} {R : Addr → Hp → Prop} (h : ∀ p H', H p = none → Same H H' → H' p = some o → R p H') : ∀ p, H p = none → R p (upd H p o) :=
  fun p hp => h p _ hp (same_new hp) upd_same
theorem new_ref {H : Hp} {o : HO} {Q : VK} (h : ∀ p H', H p = none → Same H H' → H' p = some o → Q (.ref p) H') : ∀ p, H p = none → Q (.ref p) (upd H p o) :=
  fun p hp => h p _ hp (same_new hp) upd_same
theorem hp_same {H H' : Hp} {a : Addr} {o : HO} (s : Same H H') (h : H a = some o) : H' a = some o := s a o h
theorem hp_sb {s a : Addr} {H H' : Hp} {o : HO} (e : SB s H H') (n : a ≠ s) (h : H a = some o) : H' a = some o := e a o n h
end KR
namespace KR
open PySem PySem.Spec PyProof.Rows L2 MeetsSeq
/-! ### list + list where the left one may be of the written part -/
theorem add_any {l b : Addr} {items items2 : Array Value} {n n2 : Nat} {sl sl2 : Array (Option Value)} (hz : items.size + items2.size ≤ sizeLine) :
    Meets (Builtin.«list.__add__» ⟨[.ref l, .ref b], []⟩) (fun _ R s =>
      (s.heap.get? l = some ⟨.type "list", none, .seq items n, sl⟩ ∧ s.heap.get? b = some ⟨.type "list", none, .seq items2 n2, sl2⟩) ∧
      R (.ok (.ret (Value.ref s.heap.objs.size))) { s with heap := s.heap.push { cls := Value.type "list", data := Data.seq (items ++ items2) } }) :=
  .of_wp fun prog w A R s h => by
    obtain ⟨hp, g, d, tk, os⟩ := s
    obtain ⟨⟨e1, e2⟩, h⟩ := h
    have f1 := AutoSeq1.idx_int
    have f2 := AutoSeq1.sub_tuple_tuple
    have f3 := AutoSeq1.sub_list_list
    have f4 := AutoSeq1.sub_tuple_list
    have f5 := AutoSeq1.sub_list_tuple
    wp_walk using wpAny_loadPart' e1, wpAny_loadPart' e2
    exact ⟨_, rfl, h⟩
def rCatS (K : PySem.W.Frag) : R2 := fun x y H Q => ∃ l b xs zs, x = .ref l ∧ y = .ref b ∧ SqL K H l xs ∧ SqL K H b zs ∧ xs.length + zs.length ≤ 100000 ∧
  ∀ p H', H p = none → Same H H' → H' p = some (.lst (xs ++ zs)) → Q (.ref p) H'
theorem op_catS {X : Cx} : OpR X (binaryOp .Add) (rCatS X.K) := by
  intro pins s σ H x y v u Q I rx ry h
  obtain ⟨l, b, xs, zs, rfl, rfl, hl, hb, hz, q⟩ := h
  cases rx
  cases ry
  obtain ⟨its, r, ⟨o, n, e, ec, ed, es⟩, _⟩ := I.list hl
  obtain ⟨its2, r2, ⟨o2, n2, e2, ec2, ed2, es2⟩, _⟩ := I.list hb
  obtain ⟨c, d, dt, sl⟩ := o
  obtain ⟨c2, d2, dt2, sl2⟩ := o2
  dsimp only at ec ed es ec2 ed2 es2
  subst ec ed es ec2 ed2 es2
  have hlen : its.length + its2.length ≤ sizeLine := by
    rw [← r.length, ← r2.length]
    exact Nat.le_trans hz (by decide)
  refine concat_meets ⟨_, e, rfl⟩ ⟨_, e2, rfl⟩ noFill_list_add seq_list_add F.slot_list_add F.entry_list_add (F.args_list_add_2 _ _) (add_any (by rw [List.size_toArray, List.size_toArray]; exact hlen)) ⟨⟨e, e2⟩, ?_⟩
  have ea : its.toArray ++ its2.toArray = (its ++ its2).toArray := by simp
  rw [ea]
  have hn := I.fresh
  have J := I.lnew (t' := s.toks) (r.append r2) (by rw [List.length_append]; exact Nat.le_trans hz (by decide))
  exact ⟨.ref _, _, J, rfl, q _ _ hn (same_new hn) upd_same⟩
end KR
namespace KR
open PySem PySem.Spec PyProof.Rows L2
/-! ### frames -/
def SX (X : List Addr) (H H' : Hp) : Prop := ∀ b o, b ∉ X → H b = some o → H' b = some o
theorem SX.refl {X : List Addr} {H : Hp} : SX X H H := fun _ _ _ h => h
theorem SX.trans {X : List Addr} {H H1 H2 : Hp} (a : SX X H H1) (b : SX X H1 H2) : SX X H H2 := fun c o n h => b c o n (a c o n h)
theorem SX.mono {X Y : List Addr} {H H1 : Hp} (a : SX X H H1) (h : ∀ x ∈ X, x ∈ Y) : SX Y H H1 := fun c o n q => a c o (fun z => n (h c z)) q
theorem SB.sx {s : Addr} {X : List Addr} {H H1 : Hp} (a : SB s H H1) (h : s ∈ X) : SX X H H1 := fun c o n q => a c o (fun z => n (z ▸ h)) q
theorem _root_.L2.Same.sx {X : List Addr} {H H1 : Hp} (a : Same H H1) : SX X H H1 := fun c o _ q => a c o q
theorem SX.sb {s : Addr} {H H1 : Hp} (a : SX [s] H H1) : SB s H H1 := fun c o n q => a c o (by simpa using n) q
theorem SX.upd {X : List Addr} {H H' : Hp} {p : Addr} {o : HO} (a : SX X H H') (h : p ∈ X) : SX X H (upd H' p o) := fun c u n q => by
  have e : c ≠ p := fun z => n (by rw [z]; exact h)
  rw [upd_ne e]; exact a c u n q
theorem SX.mut {X : List Addr} {H H' : Hp} {p : Addr} {o : HO} (a : SX X H H') (h : H p = none) : SX X H (L2.upd H' p o) := fun c u n q => by
  rw [upd_ne (ne_of_none q h)]; exact a c u n q
theorem SB.mut {s : Addr} {H H' : Hp} {p : Addr} {o : HO} (a : SB s H H') (h : H p = none) : SB s H (L2.upd H' p o) := fun c u n q => by
  rw [upd_ne (ne_of_none q h)]; exact a c u n q
theorem _root_.L2.Same.mut {H H' : Hp} {p : Addr} {o : HO} (a : Same H H') (h : H p = none) : Same H (L2.upd H' p o) := fun c u q => by
  rw [upd_ne (ne_of_none q h)]; exact a c u q
theorem SX.drop {X : List Addr} {H H' : Hp} {p : Addr} (a : SX (p :: X) H H') (h : H p = none) : SX X H H' := fun c u n q => by
  refine a c u (fun z => ?_) q
  rcases List.mem_cons.mp z with e | e
  · rw [e, h] at q; cases q
  · exact n e
theorem szl {n : Nat} (h : n ≤ 100000) : n ≤ sizeLine := Nat.le_trans h (by decide)
theorem szlt {n : Nat} (h : n ≤ 100000) : n < sizeLine := Nat.lt_of_le_of_lt h (by decide)
theorem atI_int {xs : List V} {i : Int} {j : Nat} {v : V} (hi : i = (j : Int)) (h : xs[j]? = some v) : atI xs i = some v := by subst hi; exact atI_nat h
theorem at_of_lt {xs : List V} {i : Int} (h0 : 0 ≤ i) (h1 : i < xs.length) : ∃ v, v ∈ xs ∧ atI xs i = some v ∧ xs[i.toNat]? = some v := by
  have h : i.toNat < xs.length := by omega
  refine ⟨xs[i.toNat], List.getElem_mem h, ?_, List.getElem?_eq_getElem h⟩
  have e : i = (i.toNat : Int) := by omega
  exact atI_int (xs := xs) (v := xs[i.toNat]) e (List.getElem?_eq_getElem h)
theorem map_some {ns : List Int} {i : Nat} {v : V} (h : (ns.map V.int)[i]? = some v) : ∃ z, ns[i]? = some z ∧ v = .int z := by
  rw [List.getElem?_map] at h
  cases e : ns[i]? with
  | none => rw [e] at h; cases h
  | some z => rw [e] at h; exact ⟨z, rfl, (Option.some.inj h).symm⟩
theorem gen_st {H H' : Hp} {a : Addr} {o : HO} (e : upd H a o = H') : SB a H H' ∧ H' a = some o := by subst e; exact ⟨SB.upd, upd_same⟩
theorem lt1000 {n : Nat} (h : Nat.ble (n + 1) 1000 = true) : n < 1000 := Nat.le_of_ble_eq_true h
theorem kb_of {K : PySem.W.Frag} {x qual : Str} {params : Arguments} {body : List Stmt} {scope : Scope} {f : Addr} {fd : FuncData} {ps : List Str} (F : FunD K x qual params body scope [] [] f fd) (n : Nat) (ks : List Str)
    (g : {α : Type} → List α → List α → List α) (hrel : ∀ {vs zs : List V} {us ws : List Value}, Vals vs us → Vals zs ws → vs.length = n → zs.length = ks.length → Vals (g vs zs) (g us ws))
    (h : ∀ (kV doc pm : Value) (an : Option Addr) (cdv ct : Value) (us ws : List Value), us.length = n → ws.length = ks.length → bindArgs (PySem.W.fnOf x qual params body scope .none kV doc pm an cdv ct) ⟨us, ks.zip ws⟩ = pure (ps.zip (g us ws)))
    (hb : ∀ {vs zs : List V} {us ws : List Value}, Vals vs us → Vals zs ws → Vals (g vs zs) (g us ws)) :
    KBn K fd ps n ks (fun us ws => g us ws) (fun vs zs => g vs zs) := by
  obtain ⟨oc, od, dV, kV, doc, pm, an, cdv, ct, osl, rfl, lk, hcd, hD, hK⟩ := F.ex
  rcases hD with ⟨_, rfl⟩ | ⟨e, _⟩
  · exact ⟨fun s us ws _ l1 l2 => BindsTo.of_eq (h kV doc pm an cdv ct us ws l1 l2), fun r1 r2 => hb r1 r2⟩
  · exact absurd rfl e
/-- keywords in the parameters' order -/
theorem kb_app {K : PySem.W.Frag} {x qual : Str} {params : Arguments} {body : List Stmt} {scope : Scope} {f : Addr} {fd : FuncData} {ps : List Str} (F : FunD K x qual params body scope [] [] f fd) (n : Nat) (ks : List Str)
    (h : ∀ (kV doc pm : Value) (an : Option Addr) (cdv ct : Value) (us ws : List Value), us.length = n → ws.length = ks.length → bindArgs (PySem.W.fnOf x qual params body scope .none kV doc pm an cdv ct) ⟨us, ks.zip ws⟩ = pure (ps.zip (us ++ ws))) :
    KBn K fd ps n ks (fun us ws => us ++ ws) (fun vs zs => vs ++ zs) := kb_of F n ks (fun a b => a ++ b) (fun r1 r2 _ _ => r1.append r2) h fun r1 r2 => r1.append r2
theorem gen_mk {H H' : Hp} {x dx : Addr} {o u : HO} (n : H x = none) (nd : H dx = none) (e : upd (upd H dx u) x o = H') : Same H H' ∧ H' x = some o := by
  subst e
  exact ⟨fun b v h => by rw [upd_ne (ne_of_none h n), upd_ne (ne_of_none h nd)]; exact h, upd_same⟩
theorem same_sb_new {H H1 H2 : Hp} {x : Addr} (a : Same H H1) (b : SB x H1 H2) (n : H x = none) : Same H H2 := fun c o h => b c o (ne_of_none h n) (a c o h)
/-! ### the head's facts, and a further Bool -/
def obsB (n : Nat) (fa : List He.Fa) (fn : List He.DefD) (ex : PySem.W.Frag → Bool) (g : Addr → Option Obj) : He.AlD :=
  ((He.obsD fa fn (He.frG g (He.asD g n))).1 && ex (He.frG g (He.asD g n)), (He.obsD fa fn (He.frG g (He.asD g n))).2)
def hookB (n : Nat) (fa : List He.Fa) (fn : List He.DefD) (ex : PySem.W.Frag → Bool) : PySem.W.Hook where
  α := He.AlD
  obs := fun s => obsB n fa fn ex s.heap.get?
  val := fun _ => He.valD fn
  says := fun _ h => ∃ K : PySem.W.Frag, K.In h ∧ He.SaysD fa fn K ∧ ex K = true
  of := fun _ s e => by
    refine ⟨He.frG s.heap.get? (He.asD s.heap.get? n), He.frG_in, ?_⟩
    have e1 : ((He.obsD fa fn (He.frG s.heap.get? (He.asD s.heap.get? n))).1 && ex (He.frG s.heap.get? (He.asD s.heap.get? n))) = true := congrArg (fun z : He.AlD => z.1) e
    have e2 : (obsB n fa fn ex s.heap.get?).2 = (He.valD fn).2 := congrArg (fun z : He.AlD => z.2) e
    obtain ⟨h1, h2⟩ := He.ba e1
    exact ⟨Prod.ext h1 e2, h2⟩
  keeps := fun _ _ _ h k => by
    obtain ⟨K, hK, c⟩ := h
    exact ⟨K, PySem.W.Frag.In.keeps hK k, c⟩
theorem obsB_eq {n : Nat} {fa : List He.Fa} {fn : List He.DefD} {ex : PySem.W.Frag → Bool} {g : Addr → Option Obj} {s : Shared} (h : ∀ a, g a = s.heap.get? a) : obsB n fa fn ex g = (hookB n fa fn ex).obs s := by
  have e : g = s.heap.get? := funext h
  subst e
  rfl
/-- what isinstance wants of a class -/
structure IsC (K : PySem.W.Frag) (C : Addr) : Prop where
  cl : PySem.W.findIn K (.ref C) "__class__" = some (some (.builtin "object.__class__"))
  g : PySem.W.specialIn K (.builtin "object.__class__") "__get__" = some (some (.builtin "getset_descriptor.__get__"))
  t : PySem.W.takesIn K (.builtin "object.__class__") = some true
  m : PySem.W.mroIn K C (.type "object") = some true
def isCB (C : Str) (K : PySem.W.Frag) : Bool :=
  decide (PySem.W.findIn K (.ref (He.ga K C)) "__class__" = some (some (.builtin "object.__class__"))) && (decide (PySem.W.specialIn K (.builtin "object.__class__") "__get__" = some (some (.builtin "getset_descriptor.__get__"))) &&
    (decide (PySem.W.takesIn K (.builtin "object.__class__") = some true) && decide (PySem.W.mroIn K (He.ga K C) (.type "object") = some true)))
theorem isCB_ok {C : Str} {K : PySem.W.Frag} (h : isCB C K = true) : IsC K (He.ga K C) := by
  unfold isCB at h
  obtain ⟨h1, h⟩ := He.ba h
  obtain ⟨h2, h⟩ := He.ba h
  obtain ⟨h3, h4⟩ := He.ba h
  exact ⟨of_decide_eq_true h1, of_decide_eq_true h2, of_decide_eq_true h3, of_decide_eq_true h4⟩
def kitB1 (ty : String) (C : Str) (b : Bool) (K : PySem.W.Frag) : Bool := decide (PySem.W.kitOne K (.type ty) (.ref (He.ga K C)) = some b)
def kitB2 (C : Str) (ty : String) (b : Bool) (K : PySem.W.Frag) : Bool := decide (PySem.W.kitOne K (.ref (He.ga K C)) (.type ty) = some b)
def kitB3 (C D : Str) (b : Bool) (K : PySem.W.Frag) : Bool := decide (PySem.W.kitOne K (.ref (He.ga K C)) (.ref (He.ga K D)) = some b)
theorem isi_own {K : PySem.W.Frag} {H : Hp} {a C dx D : Addr} {fs : List (Str × V)} {b : Bool} {Q : VK} (h : H a = some (.ins C dx fs)) (c : Cls K C) (i : IsC K C) (k : PySem.W.kitOne K (.ref C) (.ref D) = some b) (q : Q (.bl b) H) :
    rIsiI K [.ref a, .ref D] H Q := by
  unfold rIsiI; exact ⟨_, _, _, _, b, rfl, .own _, .base (.ins h c i.cl i.g i.t i.m), k, q⟩
theorem none_all {l : List Str} {fs : List (Str × V)} (h : (l.all fun x => (List.lookup x fs).isNone) = true) : ∀ x ∈ l, List.lookup x fs = none := fun x hx => by
  have := List.all_eq_true.mp h x hx
  exact Option.isNone_iff_eq_none.mp this
/-! ### data without bools: == is equality -/
mutual
def nbD : PyData → Bool
  | .none => true
  | .int _ => true
  | .str x => PyData.strOk x
  | .list xs => nbA xs
  | .tuple xs => nbA xs
  | .bool _ => false
  | .dict _ => false
def nbA : List PyData → Bool
  | [] => true
  | x :: xs => nbD x && nbA xs
end
mutual
theorem nb_lay : ∀ d : PyData, nbD d = true → PyData.canLay0 d = true
  | .none, _ => rfl
  | .int _, _ => rfl
  | .str x, h => h
  | .list xs, h => nb_layA xs h
  | .tuple xs, h => nb_layA xs h
  | .bool _, h => by cases h
  | .dict _, h => by cases h
theorem nb_layA : ∀ ds : List PyData, nbA ds = true → PyData.canLayAll0 ds = true
  | [], _ => rfl
  | x :: xs, h => by
    obtain ⟨h1, h2⟩ := He.ba (show (nbD x && nbA xs) = true from h)
    show (PyData.canLay0 x && PyData.canLayAll0 xs) = true
    rw [nb_lay x h1, nb_layA xs h2]
    rfl
end
mutual
theorem eqv_nb : ∀ d e : PyData, nbD d = true → nbD e = true → (PyData.eqv d e = true ↔ d = e)
  | .none, e, _, he => by cases e <;> simp_all [PyData.eqv, nbD]
  | .int i, e, _, he => by cases e <;> simp_all [PyData.eqv, nbD]
  | .str x, e, _, he => by cases e <;> simp_all [PyData.eqv, nbD]
  | .list xs, e, hd, he => by
    cases e with
    | list ys =>
      have k := eqv_nbA xs ys hd he
      constructor
      · intro h
        exact congrArg PyData.list (k.mp (by simpa [PyData.eqv] using h))
      · intro h
        injection h with h
        simpa [PyData.eqv] using k.mpr h
    | _ => simp_all [PyData.eqv, nbD]
  | .tuple xs, e, hd, he => by
    cases e with
    | tuple ys =>
      have k := eqv_nbA xs ys hd he
      constructor
      · intro h
        exact congrArg PyData.tuple (k.mp (by simpa [PyData.eqv] using h))
      · intro h
        injection h with h
        simpa [PyData.eqv] using k.mpr h
    | _ => simp_all [PyData.eqv, nbD]
  | .bool _, _, hd, _ => by cases hd
  | .dict _, _, hd, _ => by cases hd
theorem eqv_nbA : ∀ ds es : List PyData, nbA ds = true → nbA es = true → (PyData.eqvAll ds es = true ↔ ds = es)
  | [], [], _, _ => by simp [PyData.eqvAll]
  | [], _ :: _, _, _ => by simp [PyData.eqvAll]
  | _ :: _, [], _, _ => by simp [PyData.eqvAll]
  | x :: xs, y :: ys, hd, he => by
    obtain ⟨h1, h2⟩ := He.ba (show (nbD x && nbA xs) = true from hd)
    obtain ⟨h3, h4⟩ := He.ba (show (nbD y && nbA ys) = true from he)
    have k1 := eqv_nb x y h1 h3
    have k2 := eqv_nbA xs ys h2 h4
    simp only [PyData.eqvAll, Bool.and_eq_true, List.cons.injEq, k1, k2]
end
/-- d, without bools, not deep -/
def NB (d : PyData) : Prop := nbD d = true ∧ PyData.depth d ≤ 64
@[irreducible] def rEqN (K : PySem.W.Frag) : R2 := fun x y H Q => ∃ d e, Dp K H x d ∧ Dp K H y e ∧ NB d ∧ NB e ∧ ∀ b, (b = true ↔ d = e) → Q (.bl b) H
@[irreducible] def rNeN (K : PySem.W.Frag) : R2 := fun x y H Q => ∃ d e, Dp K H x d ∧ Dp K H y e ∧ NB d ∧ NB e ∧ ∀ b, (b = true ↔ ¬ d = e) → Q (.bl b) H
theorem NB.sh {d : PyData} (h : NB d) : SeqAt.shaped d = true := by
  unfold SeqAt.shaped
  rw [nb_lay d h.1, decide_eq_true h.2]
  rfl
theorem op_eqN {X : Cx} (hu : X.A.units + 64 < cLine) : OpR X (compareOp .Eq) (rEqN X.K) := by
  intro pins s σ H x y v u Q I rx ry h
  unfold rEqN at h
  obtain ⟨d, e, hd, he, n1, n2, q⟩ := h
  exact op_eqD hu pins s σ H x y v u Q I rx ry ⟨d, e, hd, he, n1.sh, n2.sh, q _ (eqv_nb d e n1.1 n2.1)⟩
theorem op_neN {X : Cx} (hu : X.A.units + 64 < cLine) : OpR X (compareOp .NotEq) (rNeN X.K) := by
  intro pins s σ H x y v u Q I rx ry h
  unfold rNeN at h
  obtain ⟨d, e, hd, he, n1, n2, q⟩ := h
  refine op_neD hu pins s σ H x y v u Q I rx ry ⟨d, e, hd, he, n1.sh, n2.sh, q _ ?_⟩
  have k := eqv_nb d e n1.1 n2.1
  cases hb : PyData.eqv d e with
  | true => rw [hb] at k; simp [k.mp rfl]
  | false => rw [hb] at k; simp at k; simp [k]
theorem use_eqN {K : PySem.W.Frag} {H : Hp} {x y : V} {d e : PyData} {Q : VK} (hx : Dp K H x d) (hy : Dp K H y e) (n1 : NB d) (n2 : NB e) (q : ∀ b, (b = true ↔ d = e) → Q (.bl b) H) : rEqN K x y H Q := by unfold rEqN; exact ⟨d, e, hx, hy, n1, n2, q⟩
theorem use_neN {K : PySem.W.Frag} {H : Hp} {x y : V} {d e : PyData} {Q : VK} (hx : Dp K H x d) (hy : Dp K H y e) (n1 : NB d) (n2 : NB e) (q : ∀ b, (b = true ↔ ¬ d = e) → Q (.bl b) H) : rNeN K x y H Q := by unfold rNeN; exact ⟨d, e, hx, hy, n1, n2, q⟩
/-! lists of pyi as data -/
def pyi (xs : List Int) : List PyData := xs.map PyData.int
theorem dp_pyi {K : PySem.W.Frag} {H : Hp} : ∀ xs : List Int, DpAll K H (xs.map V.int) (pyi xs)
  | [] => .nil
  | x :: xs => .cons (.int x) (dp_pyi xs)
theorem nb_ints : ∀ xs : List Int, nbA (pyi xs) = true
  | [] => rfl
  | x :: xs => by
    show (nbD (.int x) && nbA (pyi xs)) = true
    rw [nb_ints xs]
    rfl
theorem dep_ints : ∀ xs : List Int, PyData.depthAll (pyi xs) = 0
  | [] => rfl
  | x :: xs => by
    show max (PyData.depth (.int x)) (PyData.depthAll (pyi xs)) = 0
    rw [dep_ints xs]
    rfl
theorem nb_list (xs : List Int) : NB (.list (pyi xs)) := ⟨nb_ints xs, by show PyData.depthAll (pyi xs) + 1 ≤ 64; rw [dep_ints]; decide⟩
theorem nb_tup (xs : List Int) : NB (.tuple (pyi xs)) := ⟨nb_ints xs, by show PyData.depthAll (pyi xs) + 1 ≤ 64; rw [dep_ints]; decide⟩
theorem ints_inj {xs ys : List Int} (h : pyi xs = pyi ys) : xs = ys := by
  have := congrArg (fun z : List PyData => z.map fun d => match d with | .int i => i | _ => 0) h
  simpa [pyi, List.map_map, Function.comp_def] using this
theorem list_ints {xs ys : List Int} : PyData.list (pyi xs) = PyData.list (pyi ys) ↔ xs = ys := ⟨fun h => ints_inj (by injection h), fun h => by rw [h]⟩
theorem tup_ints {xs ys : List Int} : PyData.tuple (pyi xs) = PyData.tuple (pyi ys) ↔ xs = ys := ⟨fun h => ints_inj (by injection h), fun h => by rw [h]⟩
/-! ### the rules, the written part named (a comprehension's block has the def's) -/
section
variable {X : Cx} {K : PySem.W.Frag}
theorem ix_listK (h : X.K = K := by rfl) : IxR X (rIxL K) := h ▸ ix_list
theorem ix_tupK (h : X.K = K := by rfl) : IxR X (rIxT K) := h ▸ ix_tup
def rLenN (K : PySem.W.Frag) : List V → Hp → VK → Prop := fun xs H Q => ∃ p ys, xs = [.ref p] ∧ (SqL K H p ys ∨ SqT K H p ys) ∧ Q (.int ys.length) H
theorem call_lenK (h : X.K = K := by rfl) : CallR X (.builtin "len") (rLenN K) := h ▸ call_len_seq
def rListN (K : PySem.W.Frag) : List V → Hp → VK → Prop := fun xs H Q => ∃ p ys, xs = [.ref p] ∧ (SqL K H p ys ∨ SqT K H p ys) ∧ ∀ l, H l = none → Q (.ref l) (upd H l (.lst ys))
theorem call_listK (h : X.K = K := by rfl) : CallR X (.type "list") (rListN K) := h ▸ call_list_of
def rTupN (K : PySem.W.Frag) : List V → Hp → VK → Prop := fun xs H Q => ∃ p ys, xs = [.ref p] ∧ ((SqL K H p ys ∧ ∀ l, H l = none → Q (.ref l) (upd H l (.tup ys))) ∨ (SqT K H p ys ∧ Q (.ref p) H))
theorem call_tupK (h : X.K = K := by rfl) : CallR X (.type "tuple") (rTupN K) := h ▸ call_tuple_of
theorem op_catSK (h : X.K = K := by rfl) : OpR X (binaryOp .Add) (rCatS K) := h ▸ op_catS
theorem op_inK (h : X.K = K := by rfl) : OpR X (compareOp .In) (rIn K false) := h ▸ op_in_seq
theorem op_notInK (h : X.K = K := by rfl) : OpR X (compareOp .NotIn) (rIn K true) := h ▸ op_notIn_seq
theorem op_eqNK (hu : X.A.units + 64 < cLine) (h : X.K = K := by rfl) : OpR X (compareOp .Eq) (rEqN K) := h ▸ op_eqN hu
theorem op_neNK (hu : X.A.units + 64 < cLine) (h : X.K = K := by rfl) : OpR X (compareOp .NotEq) (rNeN K) := h ▸ op_neN hu
theorem sl_listK (h : X.K = K := by rfl) : SlR X (rSlL K) := h ▸ sl_list
theorem sl_tupK (h : X.K = K := by rfl) : SlR X (rSlT K) := h ▸ sl_tup
theorem cr_sumK (hc : X.calm = true) (h : X.K = K := by rfl) : CallR X (.builtin "sum") (rSum K) := h ▸ cr_sum hc
theorem cr_maxK (hc : X.calm = true) (h : X.K = K := by rfl) : CallR X (.builtin "max") (rMax K) := h ▸ cr_max hc
theorem cr_minK (hc : X.calm = true) (h : X.K = K := by rfl) : CallR X (.builtin "min") (rMin K) := h ▸ cr_min hc
theorem call_isiK2 (h : X.K = K := by rfl) : CallR X (.builtin "isinstance") (rIsiI K) := h ▸ call_isiI
theorem pe_fldK {e : Expr} {ta : TE} {f : Str} {pos : Pos} (he : PE X e ta) (hb : attributeBase e f X.env (eval e X.env) = eval e X.env) (h : X.K = K := by rfl) : PE X (.Attribute e f pos) (tFld K ta f) := h ▸ pe_fld he hb
end
end KR
namespace KR
open PySem PySem.Spec PyProof.Rows L2
/-! ### ranges of any size, by ones -/
theorem turn_long {P : Program} {w : World} {K : PySem.W.Frag} {tg : Expr} (j : Addr) (lo : Int) (n : Nat) : Turn P w K tg (Itr lo n) [j] j (fun i h => IsLongIter h j (lo + (i : Nat) * 1) ((n : Int) - (i : Nat)) 1) where
  mem := List.mem_singleton.mpr rfl
  obj := fun i h q b hb => by
    rw [List.mem_singleton.mp hb]
    exact ⟨_, q, fun v z => by
      have y : Data.fields _ = Data.cell v := z
      cases y⟩
  keep := fun i h h' q k => k j (List.mem_singleton.mpr rfl) _ q
  item := by
    intro Y e1 e2 e3 hc i pins s σ H E I fp q g
    subst e1 e2 e3
    obtain ⟨a0, a1, a2, a3, a4, a5⟩ := fp j (List.mem_singleton.mpr rfl)
    refine (Walks.longrange (prog := Y.prog) (w := Y.w) (I.ok.hd hc) j lo 1 n).item i s _ _ g q fun v h' tk hv q' kk => ?_
    obtain ⟨t, rfl⟩ := hv
    have J : Inv Y pins σ H { s with heap := h', toks := tk } := I.turned (fun b o hb e => kk b o (by simpa using hb) e) a0 a1 a3 a4 a5
    exact ⟨_, rfl, go_of (s := { s with heap := h', toks := tk }) (n := "longrange_iterator") q' rfl rfl (by decide) ⟨.int (lo + i), H, J, ⟨t, by rw [Int.mul_one]⟩, ⟨rfl, rfl⟩, q', fun b hb => (fp b hb).1⟩⟩
  done := by
    intro Y e1 e2 e3 hc i pins s σ H E I fp q g
    subst e1 e2 e3
    obtain ⟨a0, a1, a2, a3, a4, a5⟩ := fp j (List.mem_singleton.mpr rfl)
    have hle : n ≤ i := g
    exact wpAny_pyNext_long_end (I.ok.hd hc) q (by omega) fun h' eb => ⟨rfl, I.turned (t' := s.toks) (fun b o hb e => eb b o hb e) a0 a1 a3 a4 a5⟩
  self := fun _ _ _ _ _ q h => wpAny_pyIter_longiter q h
section
variable {X : Cx} {tg : Expr}
theorem long_it {pins : List (Addr × Obj)} {σ : L2.St} {H : Hp} {s : Shared} {R : It → Hp → Prop} {E : Value → Shared → Prop} {lo hi : Int} {t u v : Tok} {tk : Nat} (I : Inv X pins σ H s) (hb : Builtin.Range.small lo hi 1 = false)
    (q : R (Itr lo (hi - lo).toNat) H) : wpAny (model X.prog X.w) X.A (pyIter (.ref s.heap.objs.size)) (PIE X pins σ tg R) E { s with heap := s.heap.push { cls := .type "range", data := .fields #[.int lo t, .int hi u, .int 1 v] }, toks := tk } := by
  refine wpAny_pyIter_longrange (IsRange.new ..) hb ?_
  have J := I.kept (h' := s.heap.push { cls := .type "range", data := .fields #[.int lo t, .int hi u, .int 1 v] }) (t' := tk) fun b o e => Heap.get?_push_of_some _ e
  refine ⟨_, [_], _, _, H, rfl, J.kept (t' := tk) fun b o e => Heap.get?_push_of_some _ e, turn_long _ lo (hi - lo).toNat, ?_, fun b hb => ?_, q⟩
  · have f1 : lo + ((0 : Nat) : Int) * 1 = lo := by simp
    have f2 : (((hi - lo).toNat : Nat) : Int) - ((0 : Nat) : Int) = Builtin.Range.rangeSize lo hi 1 := by
      rw [rangeSize_one]
      split <;> omega
    show IsLongIter _ _ (lo + ((0 : Nat) : Int) * 1) ((((hi - lo).toNat : Nat) : Int) - ((0 : Nat) : Int)) 1
    rw [f1, f2]
    exact Heap.get?_push_size _ rfl
  · rw [List.mem_singleton.mp hb]
    exact J.fpOk (Nat.le_refl _) (J.hok.fresh (Nat.le_refl _))
/-- small with the bounds that the library's rule wants, or any size -/
theorem any_it {pins : List (Addr × Obj)} {σ : L2.St} {H : Hp} {s : Shared} {R : It → Hp → Prop} {E : Value → Shared → Prop} {lo hi : Int} {t u v : Tok} {tk : Nat} (I : Inv X pins σ H s)
    (q : R (Itr lo (hi - lo).toNat) H) : wpAny (model X.prog X.w) X.A (pyIter (.ref s.heap.objs.size)) (PIE X pins σ tg R) E { s with heap := s.heap.push { cls := .type "range", data := .fields #[.int lo t, .int hi u, .int 1 v] }, toks := tk } := by
  cases hb : Builtin.Range.small lo hi 1 with
  | false => exact long_it I hb q
  | true =>
    refine wpAny_pyIter_range (IsRange.new ..) hb ?_
    have J := I.kept (h' := s.heap.push { cls := .type "range", data := .fields #[.int lo t, .int hi u, .int 1 v] }) (t' := tk) fun b o e => Heap.get?_push_of_some _ e
    refine ⟨_, [_], _, _, H, rfl, J.kept (t' := tk) fun b o e => Heap.get?_push_of_some _ e, turn_range _ lo (hi - lo).toNat, ?_, fun b hb => ?_, q⟩
    · have f1 : lo + ((0 : Nat) : Int) * 1 = lo := by simp
      have f2 : (((hi - lo).toNat : Nat) : Int) - ((0 : Nat) : Int) = Builtin.Range.rangeSize lo hi 1 := by
        rw [rangeSize_one]
        split <;> omega
      show IsRangeIter _ _ (lo + ((0 : Nat) : Int) * 1) ((((hi - lo).toNat : Nat) : Int) - ((0 : Nat) : Int)) 1
      rw [f1, f2]
      exact Heap.get?_push_size _ rfl
    · rw [List.mem_singleton.mp hb]
      exact J.fpOk (Nat.le_refl _) (J.hok.fresh (Nat.le_refl _))
def iRngB (ta : TA) : TI := fun σ H R => ta σ H fun vs H1 => ∃ i j : Int, vs = [.int i, .int j] ∧ R (Itr i (j - i).toNat) H1
theorem pi_rangeB {a b : Expr} {ta : TA} {p pos : Pos} (hg : Gl X "range") (hm : X.mg "range" = none) (ha : PA X [a, b] ta) (hs : starEach [a, b] X.env = [(false, eval a X.env), (false, eval b X.env)] := by rfl) (hs2 : starEach [b] X.env = [(false, eval b X.env)] := by rfl) :
    PI X tg (.Call (.Name "range" p) [a, b] [] pos) (iRngB ta) := by
  refine ⟨fun pins s σ H R I h => ?_⟩
  refine Call_ (ld_blt I hg hm boot_range (PyProof.Rows.callWith_type1 (thn (ha.run pos pins s σ H _ I h) fun us s1 z => ?_) (by rw [hs, hs2]) (by rw [hs2]; rfl)))
  obtain ⟨vs, H1, I1, r1, i, j, e, q⟩ := z
  subst e
  obtain ⟨u1, u2, e, ⟨t, e1⟩, ⟨t', e2⟩⟩ := vals2 r1
  subst e e1 e2
  exact call_range_2 (any_it I1 q)
end
end KR
namespace PySem.W
open PySem PySem.Calls PyProof.Rows Builtin
section
variable {prog : Program} {w : World} {A : Around} {E : Value → Shared → Prop} {s : Shared} {K : Frag} {x C L f : Addr} {h₀ : Heap} {m : Str → Option Value} {ox : Obj} {od : Option Obj} {b tb : Value}
/-- != of an instance whose class has its own __eq__ and object's __ne__ -/
theorem ne_own {Q : Value → Shared → Prop} (hu : A.units + 1 < cLine) (X : K.In s.heap) (I : InstAt s.heap x ox C od) (hb : Looks (model prog w) s.heap (typeOf b) tb) (hn : notFirst K C tb = true)
    (hs : findIn K (.ref C) "__eq__" = some (some (.ref f))) (hf : isFn K (.ref f) = true) (hne : findIn K (.ref C) "__ne__" = some (some (.builtin "object.__ne__"))) (hob : mroIn K C (.type "object") = some true)
    (h : wpAny (model prog w) A.in1 (call (.ref f) [.ref x, b]) (fun v s' => ∃ r, v = .bool r ∧ Q (.bool (!r)) s') E s) : wpAny (model prog w) A (richCompare .NotEq (.ref x) b) Q E s := by
  have S : Slot "object" "__ne__" "object.__ne__" := F.cmp_object.ne
  have body : wpAny (model prog w) A.in1 (Builtin.«object.__ne__» ⟨[.ref x, b], []⟩) (fun fin s' => match fin with | .done g => wants (fun v s' => ∃ r, v = .bool r ∧ Q v s') E (.ok g) s' | .again c' => c'.quiet = true ∧ codeAny (model prog w) A c' (wants (fun v s' => ∃ r, v = .bool r ∧ Q v s') E) s') (fun e s' => wants (fun v s' => ∃ r, v = .bool r ∧ Q v s') E (.error e) s') s := by
    unfold Builtin.«object.__ne__»
    have hu1 : A.in1.units < cLine := hu
    refine wpAny_bind (wpAny_pure ?_)
    refine wpAny_bind (wpAny_cRoomFor hu1 ?_)
    refine wpAny_bind (ifBound_K X I hs hf (wpAny_mono h (fun v s' hv => ?_) fun _ _ e => e))
    obtain ⟨r, rfl, q⟩ := hv
    dsimp only
    refine wpAny_bind (wpAny_truthy_bool ?_)
    exact wpAny_pure ⟨_, rfl, q⟩
  have one : wpAny (model prog w) A (tryCompare (.ref x) "__ne__" b) (fun r s' => ∃ v, r = some v ∧ Q v s') E s := by
    unfold tryCompare
    refine wpAny_bind ?_
    simp only [callSpecialIfBound?, bindSpecialIfBound?]
    refine wpAny_holding (wpAny_bind (wpAny_bind (wpAny_bind (I.type.here ((looks_findIn X hne).here ?_)))))
    simp only [S.bind]
    refine wpAny_bind (wpAny_askSetting (wpAny_ite ?_))
    have hcall : wpAny (model prog w) A (call (.builtin "object.__ne__") [.ref x, b]) (fun v s' => ∃ r, v = .bool r ∧ Q v s') E s := by
      refine wpAny_call (codeAny_call_builtin S.plain F.cmpEntry_ne (check_slot F.cmpKind_ne F.cmpSplit_ne (I.type.andThen (looks_mroIn X hob)) (F.cmpArgs_ne _ _) body))
    have fin : wpAny (model prog w) A (call (.builtin "object.__ne__") ([.ref x] ++ [b]) >>= fun v => pure (some v)) (fun (r : Option Value) s' => wpAny (model prog w) A (match r with | some .notImplemented | none => pure none | some v => pure (some v)) (fun r s' => ∃ v, r = some v ∧ Q v s') E s') E s := by
      refine wpAny_bind (wpAny_mono hcall (fun v s' h' => ?_) fun _ _ h' => h')
      obtain ⟨r, rfl, q⟩ := h'
      exact wpAny_pure (wpAny_pure ⟨_, rfl, q⟩)
    split
    · exact wpAny_bind (wpAny_pure (wpAny_pure fin))
    · exact wpAny_tryCatch (wpAny_bind (wpAny_pure (wpAny_pure fin)))
  have hu0 : A.units < cLine := Nat.lt_of_succ_lt hu
  unfold richCompare
  simp only [oneThing_ref]
  refine wpAny_holding (wpAny_bind (wpAny_cRoomFor hu0 ?_))
  refine wpAny_bind (I.type.here (wpAny_bind (hb.here ?_)))
  split
  · rename_i q
    have e : subIn K tb (.ref C) = some false := by
      rcases Bool.or_eq_true_iff.mp hn with e | e
      · rw [beq_iff_eq.mp e] at q; simp at q
      · exact beq_iff_eq.mp e
    refine wpAny_bind ((looks_subIn X e).here ?_)
    simp only [Bool.false_eq_true, if_false]
    refine wpAny_bind (wpAny_mono one (fun r s' z => ?_) fun _ _ e => e)
    obtain ⟨v, rfl, hq⟩ := z
    exact wpAny_pure hq
  · refine wpAny_bind (wpAny_pure ?_)
    simp only [Bool.false_eq_true, if_false]
    refine wpAny_bind (wpAny_mono one (fun r s' z => ?_) fun _ _ e => e)
    obtain ⟨v, rfl, hq⟩ := z
    exact wpAny_pure hq
end
end PySem.W
namespace KR
open PySem PySem.Spec PyProof.Rows L2
/-- what == by an own __eq__ wants of the class -/
structure EqC (K : PySem.W.Frag) (C : Addr) : Prop where
  nf : ∀ t ∈ (["int", "NoneType", "bool", "str", "list", "tuple", "dict"] : List String), PySem.W.notFirst K C (.type t) = true
  ne : PySem.W.findIn K (.ref C) "__ne__" = some (some (.builtin "object.__ne__"))
  ob : PySem.W.mroIn K C (.type "object") = some true
def eqCB (C : Str) (K : PySem.W.Frag) : Bool :=
  ((["int", "NoneType", "bool", "str", "list", "tuple", "dict"] : List String).all fun t => PySem.W.notFirst K (He.ga K C) (.type t)) &&
    (decide (PySem.W.findIn K (.ref (He.ga K C)) "__ne__" = some (some (.builtin "object.__ne__"))) && decide (PySem.W.mroIn K (He.ga K C) (.type "object") = some true))
theorem eqCB_ok {C : Str} {K : PySem.W.Frag} (h : eqCB C K = true) : EqC K (He.ga K C) := by
  unfold eqCB at h
  obtain ⟨h1, h⟩ := He.ba h
  obtain ⟨h2, h3⟩ := He.ba h
  exact ⟨fun t ht => List.all_eq_true.mp h1 t ht, of_decide_eq_true h2, of_decide_eq_true h3⟩
/-- the other side: a plain value, a list, a tuple or an instance of the same class -/
def OthV (K : PySem.W.Frag) (C : Addr) (H : Hp) : V → Prop
  | .int _ | .non | .bl _ | .str _ => True
  | .ref b => (∃ xs, SqL K H b xs) ∨ (∃ xs, SqT K H b xs) ∨ ∃ dx fs, H b = some (.ins C dx fs)
  | _ => False
theorem OthV.looks {X : Cx} {C : Addr} {pins : List (Addr × Obj)} {s : Shared} {σ : L2.St} {H : Hp} {y : V} {u : Value} (ec : EqC X.K C) (I : Inv X pins σ H s) (o : OthV X.K C H y) (r : RelV y u) :
    ∃ tb, PySem.W.Looks (model X.prog X.w) s.heap (typeOf u) tb ∧ PySem.W.notFirst X.K C tb = true := by
  cases y with
  | non => cases r; exact ⟨_, .now, ec.nf "NoneType" (by decide)⟩
  | bl i => cases r; exact ⟨_, .now, ec.nf "bool" (by decide)⟩
  | int i => obtain ⟨t, rfl⟩ := r; exact ⟨_, .now, ec.nf "int" (by decide)⟩
  | str i => obtain ⟨t, rfl⟩ := r; exact ⟨_, .now, ec.nf "str" (by decide)⟩
  | ref b =>
    cases r
    rcases o with ⟨xs, h⟩ | ⟨xs, h⟩ | ⟨dx, fs, h⟩
    · obtain ⟨its, _, ⟨o, n, ho, hc, _⟩, _⟩ := I.list h
      exact ⟨_, by rw [← hc]; exact (PySem.W.Looks.ld ho).andThen .now, ec.nf "list" (by decide)⟩
    · obtain ⟨its, _, ⟨o, ho, hc, _⟩, _⟩ := I.tuple h
      exact ⟨_, by rw [← hc]; exact (PySem.W.Looks.ld ho).andThen .now, ec.nf "tuple" (by decide)⟩
    · obtain ⟨m, J, _⟩ := ins_get I.hok h
      obtain ⟨od, J, _⟩ := J.look
      exact ⟨.ref C, J.type, by simp [PySem.W.notFirst]⟩
  | _ => exact absurd o (by intro z; exact z)
/-- x == y, x != y by the own __eq__ with the promise sp -/
@[irreducible] def rEqO (K : PySem.W.Frag) (C : Addr) (sp : Sp) (E : XK) : R2 := fun x y H Q => ∃ a dx fs, x = .ref a ∧ H a = some (.ins C dx fs) ∧ OthV K C H y ∧ sp [x, y] H (fun v H' => ∃ b, v = .bl b ∧ Q (.bl b) H') E
@[irreducible] def rNeO (K : PySem.W.Frag) (C : Addr) (sp : Sp) (E : XK) : R2 := fun x y H Q => ∃ a dx fs, x = .ref a ∧ H a = some (.ins C dx fs) ∧ OthV K C H y ∧ sp [x, y] H (fun v H' => ∃ b, v = .bl b ∧ Q (.bl (!b)) H') E
theorem use_eqO {K : PySem.W.Frag} {C : Addr} {sp : Sp} {E : XK} {a dx : Addr} {fs : List (Str × V)} {y : V} {H : Hp} {Q : VK} (h : H a = some (.ins C dx fs)) (o : OthV K C H y) (k : sp [.ref a, y] H (fun v H' => ∃ b, v = .bl b ∧ Q (.bl b) H') E) : rEqO K C sp E (.ref a) y H Q := by
  unfold rEqO; exact ⟨a, dx, fs, rfl, h, o, k⟩
theorem use_neO {K : PySem.W.Frag} {C : Addr} {sp : Sp} {E : XK} {a dx : Addr} {fs : List (Str × V)} {y : V} {H : Hp} {Q : VK} (h : H a = some (.ins C dx fs)) (o : OthV K C H y) (k : sp [.ref a, y] H (fun v H' => ∃ b, v = .bl b ∧ Q (.bl (!b)) H') E) : rNeO K C sp E (.ref a) y H Q := by
  unfold rNeO; exact ⟨a, dx, fs, rfl, h, o, k⟩
section
variable {X : Cx} {CX : CXT} {C f : Addr} {fd : FuncData} {ps : List Str} {sp : Sp} {E : XK} {k : Nat}
theorem run_own {A : Around} {pins : List (Addr × Obj)} {σ : L2.St} {H : Hp} {s : Shared} {Q : VK} {us : List Value} {vs : List V} (hA : A.frames = X.A.frames) (F : FnOk X.prog X.w X.K X.mg X.base CX k f fd ps sp) (hr : Room k A) (hb : Binds X.K fd ps []) (hx : Passes CX X E)
    (I : Inv X pins σ H s) (r : Vals vs us) (h : sp vs H Q E) : wpAny (model X.prog X.w) A (call (.ref f) us) (EP X pins σ Q) X.xe s := by
  have hl : us.length = ps.length := by rw [← r.length]; exact F.len _ _ _ _ h
  have e0 : Env0 X.prog X.w X.K X.mg X.base A X.stack s H := by
    have e := I.env0
    exact ⟨by rw [hA]; exact e.frames, e.mod, e.bs, e.bsz, e.funs, e.frf, e.hok, e.bare⟩
  refine wpAny_call (codeAny_mono (F.run A X.stack s H ⟨us, []⟩ us vs Q E hr e0 (by
    have := hb s us I.kIn (by simpa using hl)
    simpa using this) r h) fun r s' hq => ?_)
  cases r with
  | error e => exact hx pins σ H s e s' I hq
  | ok fl =>
    cases fl with
    | ret u => exact I.after hq
    | next => exact False.elim hq
    | brk => exact False.elim hq
    | cont => exact False.elim hq
theorem op_eqO (F : FnOk X.prog X.w X.K X.mg X.base CX k f fd ps sp) (hm : Meth X.K C "__eq__" f) (ec : EqC X.K C) (hr : Room k X.A) (hb : Binds X.K fd ps []) (hx : Passes CX X E) : OpR X (compareOp .Eq) (rEqO X.K C sp E) := by
  intro pins s σ H x y v u Q I rx ry hq
  unfold rEqO at hq
  obtain ⟨a, dx, fs, rfl, ha, o, q⟩ := hq
  cases rx
  obtain ⟨mA, J, _⟩ := ins_get I.hok ha
  obtain ⟨od, J, _⟩ := J.look
  obtain ⟨tb, hl, hn⟩ := o.looks ec I ry
  obtain ⟨m, hF⟩ := I.fr
  show wpAny (model X.prog X.w) X.A (richCompare .Eq (.ref a) u) (EP X pins σ Q) X.xe s
  refine PySem.W.cmp_K (op := .Eq) hr.units0 hF I.ok.mod.kin J hl hn hm.at_ hm.fn ?_
  refine wpAny_mono (run_own rfl F hr hb hx I (.cons (show RelV (.ref a) (.ref a) from rfl) (.cons ry .nil)) q) (fun r s' hq => ?_) fun _ _ e => e
  obtain ⟨w, H', I', rw', b, rfl, q⟩ := hq
  cases rw'
  exact ⟨.bl b, H', I', rfl, q⟩
theorem op_neO (F : FnOk X.prog X.w X.K X.mg X.base CX k f fd ps sp) (hm : Meth X.K C "__eq__" f) (ec : EqC X.K C) (hr : Room (k + 1) X.A) (hb : Binds X.K fd ps []) (hx : Passes CX X E) : OpR X (compareOp .NotEq) (rNeO X.K C sp E) := by
  intro pins s σ H x y v u Q I rx ry hq
  unfold rNeO at hq
  obtain ⟨a, dx, fs, rfl, ha, o, q⟩ := hq
  cases rx
  obtain ⟨mA, J, _⟩ := ins_get I.hok ha
  obtain ⟨od, J, _⟩ := J.look
  obtain ⟨tb, hl, hn⟩ := o.looks ec I ry
  show wpAny (model X.prog X.w) X.A (richCompare .NotEq (.ref a) u) (EP X pins σ Q) X.xe s
  refine PySem.W.ne_own hr.in1.units0 I.kIn J hl hn hm.at_ hm.fn ec.ne ec.ob ?_
  refine wpAny_mono (run_own rfl F hr.in1 hb hx I (.cons (show RelV (.ref a) (.ref a) from rfl) (.cons ry .nil)) q) (fun r s' hq => ?_) fun _ _ e => e
  obtain ⟨w, H', I', rw', b, rfl, q⟩ := hq
  cases rw'
  exact ⟨b, rfl, .bl (!b), H', I', rfl, q⟩
end
end KR
namespace PySem
open PySem PySem.Spec PyProof.Rows
section
variable {prog : Program} {w : World} {A : Around} {E : Value → Shared → Prop} {s : Shared}
theorem extend_longR {R : Result → Shared → Prop} {r : Addr} {a b c : Int} {t u v : Tok} {n : Nat} (hh : A.handled = none) (hr : IsRange s.heap r a b c t u v) (hbig : Builtin.Range.small a b c = false)
    (hn : Builtin.Range.rangeSize a b c = n) (hlen : n ≤ 2 ^ 24) (S : Addr) (res : Value) (c₀ : Nat) (hS : s.heap.get? S = some { cls := .type "list", data := .seq #[] c₀ })
    (hR : ∀ h' tk acc' c', (∀ b o, b ≠ S → s.heap.get? b = some o → h'.get? b = some o) → h'.get? S = some { cls := .type "list", dict := none, data := .seq acc' c', slots := #[] } →
      ItemsOf (fun i v => ∃ t, v = .int (a + i * c) t) acc' n → R (.ok (.ret res)) { s with heap := h', toks := tk }) :
    wpAny (model prog w) A.in1 (Builtin.List.listExtendWith (.ref S) (.ref r) res)
      (fun fin s' => match fin with | .done f => R (.ok f) s' | .again c' => c'.quiet = true ∧ codeAny (model prog w) A c' R s') (fun e s' => R (.error e) s') s := by
  have hSr : S ≠ r := fun e => by rw [e, hr] at hS; simp at hS
  have hSlt : S < s.heap.objs.size := Heap.lt_size hS
  have hSI : S ≠ s.heap.objs.size := Nat.ne_of_lt hSlt
  have hSf : S ∉ [s.heap.objs.size] := fun hm => hSI (List.mem_singleton.mp hm)
  have W := (Walks.longrange (prog := prog) (w := w) (A := A.in1) hh s.heap.objs.size a c n).toS
  have key : ∀ (h : Heap) (c₁ tk : Nat), IsLongIter h s.heap.objs.size (a + ((0 : Nat) : Int) * c) ((n : Int) - ((0 : Nat) : Int)) c → (∀ b o, b ≠ S → s.heap.get? b = some o → h.get? b = some o) →
      h.get? S = some { cls := .type "list", data := .seq #[] c₁ } → codeAny (model prog w) A (.builtin "list.extend.loop" ⟨[.ref S, .ref s.heap.objs.size, res], []⟩) R { s with heap := h, toks := tk } := by
    intro h c₁ tk hit hk hS₁
    refine codeAny_extend_loopS W (by rw [sizeLine_eq]; omega) S hSf res n 0 _ #[] c₁ rfl (Nat.zero_le _) hit hS₁ (ItemsOf.nil _) fun s' acc' c' hm hS' hacc => ?_
    rw [Moved.eq_with hm]
    refine hR s'.heap s'.toks acc' c' (fun b o hb e => hm.heap b o (fun hmem => ?_) (hk b o hb e)) hS' hacc
    rcases List.mem_cons.mp hmem with e' | hmem
    · exact hb e'
    · exact absurd (Heap.lt_size e) (by rw [List.mem_singleton.mp hmem]; exact Nat.lt_irrefl _)
  unfold Builtin.List.listExtendWith
  refine wpAny_bind (wpAny_typeOf (T := "range") ⟨_, hr, rfl⟩ ?_)
  have h1 : Builtin.List.listSameRef (.ref S) (.ref r) = false := by simp [Builtin.List.listSameRef, hSr]
  have h2 : (Value.type "range" == Value.type "list") = false := by decide
  have h3 : (Value.type "range" == Value.type "tuple") = false := by decide
  simp only [h1, h2, h3, Bool.or_false, Bool.false_eq_true, if_false]
  refine wpAny_bind (wpAny_pyIter_longrange hr hbig ?_)
  refine wpAny_bind (wpAny_holding (wpAny_hint_range (n := n) (Heap.get?_push_of_some _ hr) hn hlen ?_))
  have hit₁ : IsLongIter (s.heap.push { cls := .type "longrange_iterator", data := .fields #[rawInt a, rawInt (Builtin.Range.rangeSize a b c), rawInt c] }) s.heap.objs.size (a + ((0 : Nat) : Int) * c) ((n : Int) - ((0 : Nat) : Int)) c := by
    show IsLongIter _ _ _ _ _; rw [hn]; simpa using Heap.get?_push_size _ rfl
  have hS₁ := Heap.get?_push_of_some { cls := .type "longrange_iterator", data := .fields #[rawInt a, rawInt (Builtin.Range.rangeSize a b c), rawInt c] } hS
  refine wpAny_ite_split (fun _ => ?_) (fun _ => wpAny_pure ⟨plainId_quiet F.plain_extend_loop _, key _ c₀ _ hit₁ (fun b o _ e => Heap.get?_push_of_some _ e) hS₁⟩)
  refine wpAny_bind (wpAny_rule ?_)
  refine wpAny_bind ?_
  show wpAny _ _ (updateSeq S (·.push .none) >>= fun _ => updateSeq S (·.pop)) _ _ _
  refine wpAny_bind (wpAny_updateSeq hS₁ rfl ?_)
  have hS₂ := Heap.get?_update_self (Obj.mapSeq (·.push Value.none)) hS₁ rfl
  refine wpAny_updateSeq (hz := by seq_fits) hS₂ rfl ?_
  have hS₃ := Heap.get?_update_self (Obj.mapSeq (·.pop)) hS₂ rfl
  refine wpAny_pure ⟨plainId_quiet F.plain_extend_loop _, key _ _ _ ?_ (fun b o hb e => ?_) hS₃⟩
  · exact (Heap.get?_update_other _ _ hSI).trans ((Heap.get?_update_other _ _ hSI).trans hit₁)
  · exact (Heap.get?_update_other _ _ (Ne.symm hb)).trans ((Heap.get?_update_other _ _ (Ne.symm hb)).trans (Heap.get?_push_of_some _ e))
theorem init_longR {R : Result → Shared → Prop} {r : Addr} {a b c : Int} {t u v : Tok} {n : Nat} (hh : A.handled = none) (hr : IsRange s.heap r a b c t u v) (hbig : Builtin.Range.small a b c = false)
    (hn : Builtin.Range.rangeSize a b c = n) (hlen : n ≤ 2 ^ 24) (S : Addr) (hS : s.heap.get? S = some { cls := .type "list", data := .seq #[] })
    (hR : ∀ h' tk acc' c', (∀ b o, b ≠ S → s.heap.get? b = some o → h'.get? b = some o) → h'.get? S = some { cls := .type "list", dict := none, data := .seq acc' c', slots := #[] } →
      ItemsOf (fun i v => ∃ t, v = .int (a + i * c) t) acc' n → R (.ok (.ret .none)) { s with heap := h', toks := tk }) :
    wpAny (model prog w) A.in1 (Builtin.«list.__init__» ⟨[.ref S, .ref r], []⟩)
      (fun fin s' => match fin with | .done f => R (.ok f) s' | .again c' => c'.quiet = true ∧ codeAny (model prog w) A c' R s') (fun e s' => R (.error e) s') s := by
  have hSr : S ≠ r := fun e => by rw [e, hr] at hS; simp at hS
  show wpAny _ _ (do let old ← Builtin.List.listItems (.ref S); Builtin.List.listUpdate (.ref S) (fun _ => #[]); letGo old.toList.reverse; Builtin.List.listExtendWith (.ref S) (.ref r) .none) _ _ s
  refine wpAny_bind ?_
  unfold Builtin.List.listItems
  refine wpAny_bind (wpAny_seqItems hS rfl (wpAny_pure ?_))
  show wpAny _ _ (updateSeq S (fun _ => #[]) >>= fun _ => letGo (#[] : Array Value).toList.reverse >>= fun _ => Builtin.List.listExtendWith (.ref S) (.ref r) .none) _ _ s
  refine wpAny_bind (wpAny_updateSeq hS rfl ?_)
  have hS₂ := Heap.get?_update_self (Obj.mapSeq (fun _ => (#[] : Array Value))) hS rfl
  have oth : ∀ b o, b ≠ S → s.heap.get? b = some o → (s.heap.update S (Obj.mapSeq (fun _ => (#[] : Array Value)))).get? b = some o :=
    fun b o hb e => (Heap.get?_update_other _ _ (Ne.symm hb)).trans e
  refine wpAny_bind (wpAny_letGo ?_)
  refine extend_longR hh (oth r _ (Ne.symm hSr) hr) hbig hn hlen S .none _ hS₂ fun h' tk acc' c' hk hS' hacc => ?_
  exact hR h' tk acc' c' (fun b o hb e => hk b o hb (oth b o hb e)) hS' hacc
theorem list_longR {Q : Value → Shared → Prop} {r : Addr} {a b c : Int} {t u v : Tok} {n : Nat} (hh : A.handled = none) (hr : IsRange s.heap r a b c t u v) (hbig : Builtin.Range.small a b c = false)
    (hn : Builtin.Range.rangeSize a b c = n) (hlen : n ≤ 2 ^ 24)
    (hQ : ∀ h' tk acc' c', (∀ b o, s.heap.get? b = some o → h'.get? b = some o) →
      h'.get? s.heap.objs.size = some { cls := .type "list", dict := none, data := .seq acc' c', slots := #[] } → ItemsOf (fun i v => ∃ t, v = .int (a + i * c) t) acc' n → Q (.ref s.heap.objs.size) { s with heap := h', toks := tk }) :
    wpAny (model prog w) A (call (.type "list") [.ref r]) Q E s := by
  refine callType_codes (Q₁ := fun obj s₁ => obj = .ref s.heap.objs.size ∧ s₁ = { s with heap := s.heap.push { cls := .type "list", data := .seq #[] } }) F.called_list (F.typeCall_list_1 _) F.entry_list_init
    (code_list_new _ ⟨rfl, rfl⟩) fun obj s₁ h₁ => ?_
  obtain ⟨rfl, rfl⟩ := h₁
  have hS : (s.heap.push { cls := .type "list", data := .seq #[] }).get? s.heap.objs.size = some { cls := .type "list", data := .seq #[] } := Heap.get?_push_size _ rfl
  refine ⟨⟨_, hS, rfl⟩, F.args_list_init_2 _ _, init_longR (A := A.in1) hh (Heap.get?_push_of_some _ hr) hbig hn hlen _ hS fun h' tk acc' c' hk hS' hacc => ?_⟩
  exact ⟨rfl, hQ h' tk acc' c' (fun b o e => hk b o (Nat.ne_of_lt (Heap.lt_size e)) (Heap.get?_push_of_some _ e)) hS' hacc⟩
end
end PySem
namespace KR
open PySem PySem.Spec PyProof.Rows L2
/-- list(range(a, b)) of any ends -/
@[irreducible] def rLstB (a b : Int) (H : Hp) (Q : VK) : Prop := (b - a).toNat ≤ 2 ^ 24 ∧ ∀ q H', H q = none → Same H H' → H' q = some (.lst (rgV a b)) → Q (.ref q) H'
theorem use_lstB {a b : Int} {H : Hp} {Q : VK} (h : (b - a).toNat ≤ 16777216) (k : ∀ q H', H q = none → Same H H' → H' q = some (.lst (rgV a b)) → Q (.ref q) H') : rLstB a b H Q := by unfold rLstB; exact ⟨h, k⟩
def tLstB (te : L2.St → Hp → (Int → Int → Hp → Prop) → Prop) : TE := fun σ H Q => te σ H fun a b H1 => rLstB a b H1 Q
theorem pe_listRgB {X : Cx} {e : Expr} {te : L2.St → Hp → (Int → Int → Hp → Prop) → Prop} {p pos : Pos} (hc : X.calm = true) (hg : Gl X "list") (hm : X.mg "list" = none) (he : PRg X e te) (na : starEach [e] X.env = (false, eval e X.env) :: starEach [] X.env := by rfl) :
    PE X (.Call (.Name "list" p) [e] [] pos) (tLstB te) := by
  refine ⟨fun pins s σ H Q I h => ?_⟩
  refine Call_ (ld_blt I hg hm boot_list (PyProof.Rows.callWith_type1 (args_cons (thn (he pins s σ H _ I h) fun x s1 ⟨r, a, b, t, u, v, H1, ex, hr, I1, q⟩ => args_nil ?_) na) na))
  subst ex
  unfold rLstB at q
  obtain ⟨b5, q⟩ := q
  have fin : ∀ (h' : Heap) (tk : Nat) (acc : Array Value) (c' : Nat), (∀ b o, s1.heap.get? b = some o → h'.get? b = some o) → h'.get? s1.heap.objs.size = some { cls := .type "list", dict := none, data := .seq acc c', slots := #[] } →
      ItemsOf (fun i v => ∃ t, v = .int (a + i * 1) t) acc (b - a).toNat → EP X pins σ Q (.ref s1.heap.objs.size) { s1 with heap := h', toks := tk } := fun h' tk acc c' hk e' hi => by
    have n1 := I1.hok.fresh (Nat.le_refl s1.heap.objs.size)
    refine ⟨.ref s1.heap.objs.size, upd H1 s1.heap.objs.size (.lst (rgV a b)), I1.laid hk (Nat.le_refl _) (show ObjOk X.prog X.w _ _ _ (.lst (rgV a b)) from ⟨?_, acc.toList, c', vals_rg hi, ?_⟩), rfl, q _ _ n1 (same_new n1) upd_same⟩
    · rw [rgV_length, sizeLine_eq]; omega
    · rw [Array.toArray_toList]; exact e'
  cases hb : Builtin.Range.small a b 1 with
  | true => exact call_list_range (n := (b - a).toNat) (I1.ok.hd hc) hr hb (rangeSize_nat a b) b5 fin
  | false => exact list_longR (n := (b - a).toNat) (I1.ok.hd hc) hr hb (rangeSize_nat a b) b5 fin
end KR
namespace KR
open PySem PySem.Spec PyProof.Rows L2
def topS (i : Nat) : Stmt := PySem.Challenge.pw_keeprows_k01_settings_made.main.body.getD i (.Pass ⟨0, 0, 0, 0⟩)
abbrev s_is_integer : Stmt := topS 12
abbrev P_is_integer : List Str := ["value"]
abbrev N_is_integer : List Str := ["value"]
def dd_is_integer : He.DefD := ⟨("is_integer", none), "is_integer", "is_integer", defArgs s_is_integer, defBody s_is_integer, defScope s_is_integer, [], []⟩
theorem sc_is_integer : FnScope N_is_integer P_is_integer (defScope s_is_integer) := ⟨rfl, rfl, rfl, by decide +kernel, rfl, by decide +kernel, by decide +kernel⟩
abbrev F_is_integer (K : PySem.W.Frag) (fd : FuncData) : Prop := FunD K "is_integer" "is_integer" (defArgs s_is_integer) (defBody s_is_integer) (defScope s_is_integer) [] [] (He.fAd K ("is_integer", none)) fd
abbrev s_is_between : Stmt := topS 13
abbrev P_is_between : List Str := ["value", "low", "high"]
abbrev N_is_between : List Str := ["value", "low", "high"]
def dd_is_between : He.DefD := ⟨("is_between", none), "is_between", "is_between", defArgs s_is_between, defBody s_is_between, defScope s_is_between, [], []⟩
theorem sc_is_between : FnScope N_is_between P_is_between (defScope s_is_between) := ⟨rfl, rfl, rfl, by decide +kernel, rfl, by decide +kernel, by decide +kernel⟩
abbrev F_is_between (K : PySem.W.Frag) (fd : FuncData) : Prop := FunD K "is_between" "is_between" (defArgs s_is_between) (defBody s_is_between) (defScope s_is_between) [] [] (He.fAd K ("is_between", none)) fd
abbrev s_check_part : Stmt := topS 14
abbrev P_check_part : List Str := ["part", "value", "low", "high"]
abbrev N_check_part : List Str := ["part", "value", "low", "high"]
def dd_check_part : He.DefD := ⟨("check_part", none), "check_part", "check_part", defArgs s_check_part, defBody s_check_part, defScope s_check_part, [], []⟩
theorem sc_check_part : FnScope N_check_part P_check_part (defScope s_check_part) := ⟨rfl, rfl, rfl, by decide +kernel, rfl, by decide +kernel, by decide +kernel⟩
abbrev F_check_part (K : PySem.W.Frag) (fd : FuncData) : Prop := FunD K "check_part" "check_part" (defArgs s_check_part) (defBody s_check_part) (defScope s_check_part) [] [] (He.fAd K ("check_part", none)) fd
abbrev s_Settings___init__ : Stmt := inClass (topS 15) 0
abbrev P_Settings___init__ : List Str := ["self", "lengths", "size", "fanout", "records", "every", "keep"]
abbrev N_Settings___init__ : List Str := ["self", "lengths", "size", "fanout", "records", "every", "keep", "length"]
def dd_Settings___init__ : He.DefD := ⟨("Settings", some "__init__"), "__init__", "Settings.__init__", defArgs s_Settings___init__, defBody s_Settings___init__, defScope s_Settings___init__, [], []⟩
theorem sc_Settings___init__ : FnScope N_Settings___init__ P_Settings___init__ (defScope s_Settings___init__) := ⟨rfl, rfl, rfl, by decide +kernel, rfl, by decide +kernel, by decide +kernel⟩
abbrev F_Settings___init__ (K : PySem.W.Frag) (fd : FuncData) : Prop := FunD K "__init__" "Settings.__init__" (defArgs s_Settings___init__) (defBody s_Settings___init__) (defScope s_Settings___init__) [] [] (He.fAd K ("Settings", some "__init__")) fd
abbrev s_Settings___eq__ : Stmt := inClass (topS 15) 1
abbrev P_Settings___eq__ : List Str := ["self", "other"]
abbrev N_Settings___eq__ : List Str := ["self", "other"]
def dd_Settings___eq__ : He.DefD := ⟨("Settings", some "__eq__"), "__eq__", "Settings.__eq__", defArgs s_Settings___eq__, defBody s_Settings___eq__, defScope s_Settings___eq__, [], []⟩
theorem sc_Settings___eq__ : FnScope N_Settings___eq__ P_Settings___eq__ (defScope s_Settings___eq__) := ⟨rfl, rfl, rfl, by decide +kernel, rfl, by decide +kernel, by decide +kernel⟩
abbrev F_Settings___eq__ (K : PySem.W.Frag) (fd : FuncData) : Prop := FunD K "__eq__" "Settings.__eq__" (defArgs s_Settings___eq__) (defBody s_Settings___eq__) (defScope s_Settings___eq__) [] [] (He.fAd K ("Settings", some "__eq__")) fd
abbrev s_Settings_parts : Stmt := inClass (topS 15) 2
abbrev P_Settings_parts : List Str := ["self"]
abbrev N_Settings_parts : List Str := ["self"]
def dd_Settings_parts : He.DefD := ⟨("Settings", some "parts"), "parts", "Settings.parts", defArgs s_Settings_parts, defBody s_Settings_parts, defScope s_Settings_parts, [], []⟩
theorem sc_Settings_parts : FnScope N_Settings_parts P_Settings_parts (defScope s_Settings_parts) := ⟨rfl, rfl, rfl, by decide +kernel, rfl, by decide +kernel, by decide +kernel⟩
abbrev F_Settings_parts (K : PySem.W.Frag) (fd : FuncData) : Prop := FunD K "parts" "Settings.parts" (defArgs s_Settings_parts) (defBody s_Settings_parts) (defScope s_Settings_parts) [] [] (He.fAd K ("Settings", some "parts")) fd
abbrev s_Settings_length_of : Stmt := inClass (topS 15) 3
abbrev P_Settings_length_of : List Str := ["self", "row"]
abbrev N_Settings_length_of : List Str := ["self", "row"]
def dd_Settings_length_of : He.DefD := ⟨("Settings", some "length_of"), "length_of", "Settings.length_of", defArgs s_Settings_length_of, defBody s_Settings_length_of, defScope s_Settings_length_of, [], []⟩
theorem sc_Settings_length_of : FnScope N_Settings_length_of P_Settings_length_of (defScope s_Settings_length_of) := ⟨rfl, rfl, rfl, by decide +kernel, rfl, by decide +kernel, by decide +kernel⟩
abbrev F_Settings_length_of (K : PySem.W.Frag) (fd : FuncData) : Prop := FunD K "length_of" "Settings.length_of" (defArgs s_Settings_length_of) (defBody s_Settings_length_of) (defScope s_Settings_length_of) [] [] (He.fAd K ("Settings", some "length_of")) fd
abbrev s_check_row : Stmt := topS 16
abbrev P_check_row : List Str := ["value", "moment"]
abbrev N_check_row : List Str := ["value", "moment"]
def dd_check_row : He.DefD := ⟨("check_row", none), "check_row", "check_row", defArgs s_check_row, defBody s_check_row, defScope s_check_row, [.int (1000000000000000000000000000000)], []⟩
theorem sc_check_row : FnScope N_check_row P_check_row (defScope s_check_row) := ⟨rfl, rfl, rfl, by decide +kernel, rfl, by decide +kernel, by decide +kernel⟩
abbrev F_check_row (K : PySem.W.Frag) (fd : FuncData) : Prop := FunD K "check_row" "check_row" (defArgs s_check_row) (defBody s_check_row) (defScope s_check_row) [.int (1000000000000000000000000000000)] [] (He.fAd K ("check_row", none)) fd
abbrev s_law_mix : Stmt := topS 18
abbrev P_law_mix : List Str := ["cell", "lap"]
abbrev N_law_mix : List Str := ["cell", "lap", "blend"]
def dd_law_mix : He.DefD := ⟨("_law_mix", none), "_law_mix", "_law_mix", defArgs s_law_mix, defBody s_law_mix, defScope s_law_mix, [], []⟩
theorem sc_law_mix : FnScope N_law_mix P_law_mix (defScope s_law_mix) := ⟨rfl, rfl, rfl, by decide +kernel, rfl, by decide +kernel, by decide +kernel⟩
abbrev F_law_mix (K : PySem.W.Frag) (fd : FuncData) : Prop := FunD K "_law_mix" "_law_mix" (defArgs s_law_mix) (defBody s_law_mix) (defScope s_law_mix) [] [] (He.fAd K ("_law_mix", none)) fd
abbrev s_law_source : Stmt := topS 19
abbrev P_law_source : List Str := ["script", "k"]
abbrev N_law_source : List Str := ["script", "k", "cell"]
def dd_law_source : He.DefD := ⟨("_law_source", none), "_law_source", "_law_source", defArgs s_law_source, defBody s_law_source, defScope s_law_source, [], []⟩
theorem sc_law_source : FnScope N_law_source P_law_source (defScope s_law_source) := ⟨rfl, rfl, rfl, by decide +kernel, rfl, by decide +kernel, by decide +kernel⟩
abbrev F_law_source (K : PySem.W.Frag) (fd : FuncData) : Prop := FunD K "_law_source" "_law_source" (defArgs s_law_source) (defBody s_law_source) (defScope s_law_source) [] [] (He.fAd K ("_law_source", none)) fd
abbrev s_law_draw : Stmt := topS 20
abbrev P_law_draw : List Str := ["source", "limit"]
abbrev N_law_draw : List Str := ["source", "limit", "drawn"]
def dd_law_draw : He.DefD := ⟨("_law_draw", none), "_law_draw", "_law_draw", defArgs s_law_draw, defBody s_law_draw, defScope s_law_draw, [], []⟩
theorem sc_law_draw : FnScope N_law_draw P_law_draw (defScope s_law_draw) := ⟨rfl, rfl, rfl, by decide +kernel, rfl, by decide +kernel, by decide +kernel⟩
abbrev F_law_draw (K : PySem.W.Frag) (fd : FuncData) : Prop := FunD K "_law_draw" "_law_draw" (defArgs s_law_draw) (defBody s_law_draw) (defScope s_law_draw) [] [] (He.fAd K ("_law_draw", none)) fd
abbrev s_law_pick : Stmt := topS 21
abbrev P_law_pick : List Str := ["source", "items"]
abbrev N_law_pick : List Str := ["source", "items"]
def dd_law_pick : He.DefD := ⟨("_law_pick", none), "_law_pick", "_law_pick", defArgs s_law_pick, defBody s_law_pick, defScope s_law_pick, [], []⟩
theorem sc_law_pick : FnScope N_law_pick P_law_pick (defScope s_law_pick) := ⟨rfl, rfl, rfl, by decide +kernel, rfl, by decide +kernel, by decide +kernel⟩
abbrev F_law_pick (K : PySem.W.Frag) (fd : FuncData) : Prop := FunD K "_law_pick" "_law_pick" (defArgs s_law_pick) (defBody s_law_pick) (defScope s_law_pick) [] [] (He.fAd K ("_law_pick", none)) fd
abbrev s_law_parts : Stmt := topS 22
abbrev P_law_parts : List Str := ["source"]
abbrev N_law_parts : List Str := ["source", "room", "some", "found", "low", "high", "k"]
def dd_law_parts : He.DefD := ⟨("_law_parts", none), "_law_parts", "_law_parts", defArgs s_law_parts, defBody s_law_parts, defScope s_law_parts, [], []⟩
theorem sc_law_parts : FnScope N_law_parts P_law_parts (defScope s_law_parts) := ⟨rfl, rfl, rfl, by decide +kernel, rfl, by decide +kernel, by decide +kernel⟩
abbrev F_law_parts (K : PySem.W.Frag) (fd : FuncData) : Prop := FunD K "_law_parts" "_law_parts" (defArgs s_law_parts) (defBody s_law_parts) (defScope s_law_parts) [] [] (He.fAd K ("_law_parts", none)) fd
abbrev s_law_settings : Stmt := topS 23
abbrev P_law_settings : List Str := ["p"]
abbrev N_law_settings : List Str := ["p"]
def dd_law_settings : He.DefD := ⟨("_law_settings", none), "_law_settings", "_law_settings", defArgs s_law_settings, defBody s_law_settings, defScope s_law_settings, [], []⟩
theorem sc_law_settings : FnScope N_law_settings P_law_settings (defScope s_law_settings) := ⟨rfl, rfl, rfl, by decide +kernel, rfl, by decide +kernel, by decide +kernel⟩
abbrev F_law_settings (K : PySem.W.Frag) (fd : FuncData) : Prop := FunD K "_law_settings" "_law_settings" (defArgs s_law_settings) (defBody s_law_settings) (defScope s_law_settings) [] [] (He.fAd K ("_law_settings", none)) fd
abbrev s_law_other : Stmt := topS 24
abbrev P_law_other : List Str := ["source", "p"]
abbrev N_law_other : List Str := ["source", "p", "found", "at"]
def dd_law_other : He.DefD := ⟨("_law_other", none), "_law_other", "_law_other", defArgs s_law_other, defBody s_law_other, defScope s_law_other, [], []⟩
theorem sc_law_other : FnScope N_law_other P_law_other (defScope s_law_other) := ⟨rfl, rfl, rfl, by decide +kernel, rfl, by decide +kernel, by decide +kernel⟩
abbrev F_law_other (K : PySem.W.Frag) (fd : FuncData) : Prop := FunD K "_law_other" "_law_other" (defArgs s_law_other) (defBody s_law_other) (defScope s_law_other) [] [] (He.fAd K ("_law_other", none)) fd
abbrev s_law_right : Stmt := topS 25
abbrev P_law_right : List Str := ["source"]
abbrev N_law_right : List Str := ["source", "p", "handed", "made", "far", "row", "q"]
def dd_law_right : He.DefD := ⟨("_law_right", none), "_law_right", "_law_right", defArgs s_law_right, defBody s_law_right, defScope s_law_right, [], []⟩
theorem sc_law_right : FnScope N_law_right P_law_right (defScope s_law_right) := ⟨rfl, rfl, rfl, by decide +kernel, rfl, by decide +kernel, by decide +kernel⟩
abbrev F_law_right (K : PySem.W.Frag) (fd : FuncData) : Prop := FunD K "_law_right" "_law_right" (defArgs s_law_right) (defBody s_law_right) (defScope s_law_right) [] [] (He.fAd K ("_law_right", none)) fd
abbrev s_law : Stmt := topS 26
abbrev P_law : List Str := ["script"]
abbrev N_law : List Str := ["script", "k", "source"]
def dd_law : He.DefD := ⟨("law", none), "law", "law", defArgs s_law, defBody s_law, defScope s_law, [], []⟩
theorem sc_law : FnScope N_law P_law (defScope s_law) := ⟨rfl, rfl, rfl, by decide +kernel, rfl, by decide +kernel, by decide +kernel⟩
abbrev F_law (K : PySem.W.Frag) (fd : FuncData) : Prop := FunD K "law" "law" (defArgs s_law) (defBody s_law) (defScope s_law) [] [] (He.fAd K ("law", none)) fd
abbrev s_InvalidSettings___init__ : Stmt := inClass (topS 2) 0
abbrev P_InvalidSettings___init__ : List Str := ["self", "part"]
abbrev N_InvalidSettings___init__ : List Str := ["self", "part"]
def dd_InvalidSettings___init__ : He.DefD := ⟨("InvalidSettings", some "__init__"), "__init__", "InvalidSettings.__init__", defArgs s_InvalidSettings___init__, defBody s_InvalidSettings___init__, defScope s_InvalidSettings___init__, [], []⟩
theorem sc_InvalidSettings___init__ : FnScope N_InvalidSettings___init__ P_InvalidSettings___init__ (defScope s_InvalidSettings___init__) := ⟨rfl, rfl, rfl, by decide +kernel, rfl, by decide +kernel, by decide +kernel⟩
abbrev F_InvalidSettings___init__ (K : PySem.W.Frag) (fd : FuncData) : Prop := FunD K "__init__" "InvalidSettings.__init__" (defArgs s_InvalidSettings___init__) (defBody s_InvalidSettings___init__) (defScope s_InvalidSettings___init__) [] [] (He.fAd K ("InvalidSettings", some "__init__")) fd
abbrev s_InvalidRow___init__ : Stmt := inClass (topS 3) 0
abbrev P_InvalidRow___init__ : List Str := ["self", "row"]
abbrev N_InvalidRow___init__ : List Str := ["self", "row"]
def dd_InvalidRow___init__ : He.DefD := ⟨("InvalidRow", some "__init__"), "__init__", "InvalidRow.__init__", defArgs s_InvalidRow___init__, defBody s_InvalidRow___init__, defScope s_InvalidRow___init__, [], []⟩
theorem sc_InvalidRow___init__ : FnScope N_InvalidRow___init__ P_InvalidRow___init__ (defScope s_InvalidRow___init__) := ⟨rfl, rfl, rfl, by decide +kernel, rfl, by decide +kernel, by decide +kernel⟩
abbrev F_InvalidRow___init__ (K : PySem.W.Frag) (fd : FuncData) : Prop := FunD K "__init__" "InvalidRow.__init__" (defArgs s_InvalidRow___init__) (defBody s_InvalidRow___init__) (defScope s_InvalidRow___init__) [] [] (He.fAd K ("InvalidRow", some "__init__")) fd
theorem lk_Settings_1_0 {v0 : V} : List.lookup ("lengths" : Str) [(("lengths" : Str), v0)] = some v0 := by kernel_rfl
theorem lk_Settings_2_0 {v0 v1 : V} : List.lookup ("lengths" : Str) [(("lengths" : Str), v0), (("size" : Str), v1)] = some v0 := by kernel_rfl
theorem lk_Settings_2_1 {v0 v1 : V} : List.lookup ("size" : Str) [(("lengths" : Str), v0), (("size" : Str), v1)] = some v1 := by kernel_rfl
theorem lk_Settings_3_0 {v0 v1 v2 : V} : List.lookup ("lengths" : Str) [(("lengths" : Str), v0), (("size" : Str), v1), (("fanout" : Str), v2)] = some v0 := by kernel_rfl
theorem lk_Settings_3_1 {v0 v1 v2 : V} : List.lookup ("size" : Str) [(("lengths" : Str), v0), (("size" : Str), v1), (("fanout" : Str), v2)] = some v1 := by kernel_rfl
theorem lk_Settings_3_2 {v0 v1 v2 : V} : List.lookup ("fanout" : Str) [(("lengths" : Str), v0), (("size" : Str), v1), (("fanout" : Str), v2)] = some v2 := by kernel_rfl
theorem lk_Settings_4_0 {v0 v1 v2 v3 : V} : List.lookup ("lengths" : Str) [(("lengths" : Str), v0), (("size" : Str), v1), (("fanout" : Str), v2), (("records" : Str), v3)] = some v0 := by kernel_rfl
theorem lk_Settings_4_1 {v0 v1 v2 v3 : V} : List.lookup ("size" : Str) [(("lengths" : Str), v0), (("size" : Str), v1), (("fanout" : Str), v2), (("records" : Str), v3)] = some v1 := by kernel_rfl
theorem lk_Settings_4_2 {v0 v1 v2 v3 : V} : List.lookup ("fanout" : Str) [(("lengths" : Str), v0), (("size" : Str), v1), (("fanout" : Str), v2), (("records" : Str), v3)] = some v2 := by kernel_rfl
theorem lk_Settings_4_3 {v0 v1 v2 v3 : V} : List.lookup ("records" : Str) [(("lengths" : Str), v0), (("size" : Str), v1), (("fanout" : Str), v2), (("records" : Str), v3)] = some v3 := by kernel_rfl
theorem lk_Settings_5_0 {v0 v1 v2 v3 v4 : V} : List.lookup ("lengths" : Str) [(("lengths" : Str), v0), (("size" : Str), v1), (("fanout" : Str), v2), (("records" : Str), v3), (("every" : Str), v4)] = some v0 := by kernel_rfl
theorem lk_Settings_5_1 {v0 v1 v2 v3 v4 : V} : List.lookup ("size" : Str) [(("lengths" : Str), v0), (("size" : Str), v1), (("fanout" : Str), v2), (("records" : Str), v3), (("every" : Str), v4)] = some v1 := by kernel_rfl
theorem lk_Settings_5_2 {v0 v1 v2 v3 v4 : V} : List.lookup ("fanout" : Str) [(("lengths" : Str), v0), (("size" : Str), v1), (("fanout" : Str), v2), (("records" : Str), v3), (("every" : Str), v4)] = some v2 := by kernel_rfl
theorem lk_Settings_5_3 {v0 v1 v2 v3 v4 : V} : List.lookup ("records" : Str) [(("lengths" : Str), v0), (("size" : Str), v1), (("fanout" : Str), v2), (("records" : Str), v3), (("every" : Str), v4)] = some v3 := by kernel_rfl
theorem lk_Settings_5_4 {v0 v1 v2 v3 v4 : V} : List.lookup ("every" : Str) [(("lengths" : Str), v0), (("size" : Str), v1), (("fanout" : Str), v2), (("records" : Str), v3), (("every" : Str), v4)] = some v4 := by kernel_rfl
theorem lk_Settings_6_0 {v0 v1 v2 v3 v4 v5 : V} : List.lookup ("lengths" : Str) [(("lengths" : Str), v0), (("size" : Str), v1), (("fanout" : Str), v2), (("records" : Str), v3), (("every" : Str), v4), (("keep" : Str), v5)] = some v0 := by kernel_rfl
theorem lk_Settings_6_1 {v0 v1 v2 v3 v4 v5 : V} : List.lookup ("size" : Str) [(("lengths" : Str), v0), (("size" : Str), v1), (("fanout" : Str), v2), (("records" : Str), v3), (("every" : Str), v4), (("keep" : Str), v5)] = some v1 := by kernel_rfl
theorem lk_Settings_6_2 {v0 v1 v2 v3 v4 v5 : V} : List.lookup ("fanout" : Str) [(("lengths" : Str), v0), (("size" : Str), v1), (("fanout" : Str), v2), (("records" : Str), v3), (("every" : Str), v4), (("keep" : Str), v5)] = some v2 := by kernel_rfl
theorem lk_Settings_6_3 {v0 v1 v2 v3 v4 v5 : V} : List.lookup ("records" : Str) [(("lengths" : Str), v0), (("size" : Str), v1), (("fanout" : Str), v2), (("records" : Str), v3), (("every" : Str), v4), (("keep" : Str), v5)] = some v3 := by kernel_rfl
theorem lk_Settings_6_4 {v0 v1 v2 v3 v4 v5 : V} : List.lookup ("every" : Str) [(("lengths" : Str), v0), (("size" : Str), v1), (("fanout" : Str), v2), (("records" : Str), v3), (("every" : Str), v4), (("keep" : Str), v5)] = some v4 := by kernel_rfl
theorem lk_Settings_6_5 {v0 v1 v2 v3 v4 v5 : V} : List.lookup ("keep" : Str) [(("lengths" : Str), v0), (("size" : Str), v1), (("fanout" : Str), v2), (("records" : Str), v3), (("every" : Str), v4), (("keep" : Str), v5)] = some v5 := by kernel_rfl
theorem pf_Settings_0 {v0 : V} : putF ("lengths" : Str) v0 ([] : List (Str × V)) = ([(("lengths" : Str), v0)] : List (Str × V)) := by kernel_rfl
theorem pf_Settings_1 {v0 v1 : V} : putF ("size" : Str) v1 ([(("lengths" : Str), v0)] : List (Str × V)) = ([(("lengths" : Str), v0), (("size" : Str), v1)] : List (Str × V)) := by kernel_rfl
theorem pf_Settings_2 {v0 v1 v2 : V} : putF ("fanout" : Str) v2 ([(("lengths" : Str), v0), (("size" : Str), v1)] : List (Str × V)) = ([(("lengths" : Str), v0), (("size" : Str), v1), (("fanout" : Str), v2)] : List (Str × V)) := by kernel_rfl
theorem pf_Settings_3 {v0 v1 v2 v3 : V} : putF ("records" : Str) v3 ([(("lengths" : Str), v0), (("size" : Str), v1), (("fanout" : Str), v2)] : List (Str × V)) = ([(("lengths" : Str), v0), (("size" : Str), v1), (("fanout" : Str), v2), (("records" : Str), v3)] : List (Str × V)) := by kernel_rfl
theorem pf_Settings_4 {v0 v1 v2 v3 v4 : V} : putF ("every" : Str) v4 ([(("lengths" : Str), v0), (("size" : Str), v1), (("fanout" : Str), v2), (("records" : Str), v3)] : List (Str × V)) = ([(("lengths" : Str), v0), (("size" : Str), v1), (("fanout" : Str), v2), (("records" : Str), v3), (("every" : Str), v4)] : List (Str × V)) := by kernel_rfl
theorem pf_Settings_5 {v0 v1 v2 v3 v4 v5 : V} : putF ("keep" : Str) v5 ([(("lengths" : Str), v0), (("size" : Str), v1), (("fanout" : Str), v2), (("records" : Str), v3), (("every" : Str), v4)] : List (Str × V)) = ([(("lengths" : Str), v0), (("size" : Str), v1), (("fanout" : Str), v2), (("records" : Str), v3), (("every" : Str), v4), (("keep" : Str), v5)] : List (Str × V)) := by kernel_rfl
def exl : List (PySem.W.Frag → Bool) := [eqCB "Settings", isCB "Settings", kitB2 "Settings" "int" false, kitB2 "Settings" "bool" false, kitB2 "Settings" "list" false, kitB1 "int" "Settings" false, kitB1 "bool" "Settings" false, kitB1 "str" "Settings" false, kitB1 "list" "Settings" false, kitB1 "tuple" "Settings" false, kitB1 "dict" "Settings" false, kitB1 "NoneType" "Settings" false, kitB3 "Settings" "Settings" true]
def exB (K : PySem.W.Frag) : Bool := exl.all fun f => f K
structure Txt (K : PySem.W.Frag) (mg : Str → Option Value) (D : Nat → FuncData) : Prop where
  d_is_integer : F_is_integer K (D 0)
  d_is_between : F_is_between K (D 1)
  d_check_part : F_check_part K (D 2)
  d_Settings___init__ : F_Settings___init__ K (D 3)
  d_Settings___eq__ : F_Settings___eq__ K (D 4)
  d_Settings_parts : F_Settings_parts K (D 5)
  d_Settings_length_of : F_Settings_length_of K (D 6)
  d_check_row : F_check_row K (D 7)
  d_law_mix : F_law_mix K (D 8)
  d_law_source : F_law_source K (D 9)
  d_law_draw : F_law_draw K (D 10)
  d_law_pick : F_law_pick K (D 11)
  d_law_parts : F_law_parts K (D 12)
  d_law_settings : F_law_settings K (D 13)
  d_law_other : F_law_other K (D 14)
  d_law_right : F_law_right K (D 15)
  d_law : F_law K (D 16)
  d_InvalidSettings___init__ : F_InvalidSettings___init__ K (D 17)
  d_InvalidRow___init__ : F_InvalidRow___init__ K (D 18)
  g_is_integer : mg "is_integer" = some (.ref (He.fAd K ("is_integer", none)))
  g_is_between : mg "is_between" = some (.ref (He.fAd K ("is_between", none)))
  g_check_part : mg "check_part" = some (.ref (He.fAd K ("check_part", none)))
  g_check_row : mg "check_row" = some (.ref (He.fAd K ("check_row", none)))
  g_law_mix : mg "_law_mix" = some (.ref (He.fAd K ("_law_mix", none)))
  g_law_source : mg "_law_source" = some (.ref (He.fAd K ("_law_source", none)))
  g_law_draw : mg "_law_draw" = some (.ref (He.fAd K ("_law_draw", none)))
  g_law_pick : mg "_law_pick" = some (.ref (He.fAd K ("_law_pick", none)))
  g_law_parts : mg "_law_parts" = some (.ref (He.fAd K ("_law_parts", none)))
  g_law_settings : mg "_law_settings" = some (.ref (He.fAd K ("_law_settings", none)))
  g_law_other : mg "_law_other" = some (.ref (He.fAd K ("_law_other", none)))
  g_law_right : mg "_law_right" = some (.ref (He.fAd K ("_law_right", none)))
  g_law : mg "law" = some (.ref (He.fAd K ("law", none)))
  g_Settings : mg "Settings" = some (.ref (He.ga K "Settings"))
  g_StoreError : mg "StoreError" = some (.ref (He.ga K "StoreError"))
  g_InvalidSettings : mg "InvalidSettings" = some (.ref (He.ga K "InvalidSettings"))
  g_InvalidRow : mg "InvalidRow" = some (.ref (He.ga K "InvalidRow"))
  c_Settings : Cls K (He.ga K "Settings")
  mk_Settings : Mk K (He.ga K "Settings") (He.fAd K ("Settings", some "__init__"))
  a_Settings_lengths : NoAttr K (He.ga K "Settings") "lengths"
  a_Settings_size : NoAttr K (He.ga K "Settings") "size"
  a_Settings_fanout : NoAttr K (He.ga K "Settings") "fanout"
  a_Settings_records : NoAttr K (He.ga K "Settings") "records"
  a_Settings_every : NoAttr K (He.ga K "Settings") "every"
  a_Settings_keep : NoAttr K (He.ga K "Settings") "keep"
  m_Settings___eq__ : Meth K (He.ga K "Settings") "__eq__" (He.fAd K ("Settings", some "__eq__"))
  m_Settings_parts : Meth K (He.ga K "Settings") "parts" (He.fAd K ("Settings", some "parts"))
  m_Settings_length_of : Meth K (He.ga K "Settings") "length_of" (He.fAd K ("Settings", some "length_of"))
  n_int : mg "int" = none
  n_len : mg "len" = none
  n_range : mg "range" = none
  n_isinstance : mg "isinstance" = none
  n_list : mg "list" = none
  n_tuple : mg "tuple" = none
  n_bool : mg "bool" = none
  n_max : mg "max" = none
  n_min : mg "min" = none
  i_MOST_ROW : ∃ t, mg "MOST_ROW" = some (.int (1000000000000000000000000000000) t)
  i_MOST_LENGTHS : ∃ t, mg "MOST_LENGTHS" = some (.int (6) t)
  i_MOST_SIZE : ∃ t, mg "MOST_SIZE" = some (.int (64) t)
  i_MOST_FANOUT : ∃ t, mg "MOST_FANOUT" = some (.int (8) t)
  i_MOST_RECORDS : ∃ t, mg "MOST_RECORDS" = some (.int (16) t)
  i_MOST_EVERY : ∃ t, mg "MOST_EVERY" = some (.int (40) t)
  i_MOST_KEEP : ∃ t, mg "MOST_KEEP" = some (.int (100) t)
  eq_Settings : EqC K (He.ga K "Settings")
  ic_Settings : IsC K (He.ga K "Settings")
  kc_Settings_int : PySem.W.kitOne K (.ref (He.ga K "Settings")) (.type "int") = some false
  kc_Settings_bool : PySem.W.kitOne K (.ref (He.ga K "Settings")) (.type "bool") = some false
  kc_Settings_list : PySem.W.kitOne K (.ref (He.ga K "Settings")) (.type "list") = some false
  kb_int_Settings : PySem.W.kitOne K (.type "int") (.ref (He.ga K "Settings")) = some false
  kb_bool_Settings : PySem.W.kitOne K (.type "bool") (.ref (He.ga K "Settings")) = some false
  kb_str_Settings : PySem.W.kitOne K (.type "str") (.ref (He.ga K "Settings")) = some false
  kb_list_Settings : PySem.W.kitOne K (.type "list") (.ref (He.ga K "Settings")) = some false
  kb_tuple_Settings : PySem.W.kitOne K (.type "tuple") (.ref (He.ga K "Settings")) = some false
  kb_dict_Settings : PySem.W.kitOne K (.type "dict") (.ref (He.ga K "Settings")) = some false
  kb_NoneType_Settings : PySem.W.kitOne K (.type "NoneType") (.ref (He.ga K "Settings")) = some false
  kk_Settings_Settings : PySem.W.kitOne K (.ref (He.ga K "Settings")) (.ref (He.ga K "Settings")) = some true
def fnl : List He.DefD := [dd_is_integer, dd_is_between, dd_check_part, dd_Settings___init__, dd_Settings___eq__, dd_Settings_parts, dd_Settings_length_of, dd_check_row, dd_law_mix, dd_law_source, dd_law_draw, dd_law_pick, dd_law_parts, dd_law_settings, dd_law_other, dd_law_right, dd_law, dd_InvalidSettings___init__, dd_InvalidRow___init__]
def fal : List He.Fa := [.glo "is_integer", .glo "is_between", .glo "check_part", .glo "check_row", .glo "_law_mix", .glo "_law_source", .glo "_law_draw", .glo "_law_pick", .glo "_law_parts", .glo "_law_settings", .glo "_law_other", .glo "_law_right", .glo "law", .glo "Settings", .glo "StoreError", .glo "InvalidSettings", .glo "InvalidRow", .cls "Settings", .mkr "Settings", .noat "Settings" "lengths", .noat "Settings" "size", .noat "Settings" "fanout", .noat "Settings" "records", .noat "Settings" "every", .noat "Settings" "keep", .meth "Settings" "__eq__", .meth "Settings" "parts", .meth "Settings" "length_of", .free "int", .free "len", .free "range", .free "isinstance", .free "list", .free "tuple", .free "bool", .free "max", .free "min", .int "MOST_ROW" (1000000000000000000000000000000), .int "MOST_LENGTHS" (6), .int "MOST_SIZE" (64), .int "MOST_FANOUT" (8), .int "MOST_RECORDS" (16), .int "MOST_EVERY" (40), .int "MOST_KEEP" (100)]
def D_is_integer : Nat := 0
def D_is_between : Nat := 1
def D_check_part : Nat := 2
def D_Settings___init__ : Nat := 3
def D_Settings___eq__ : Nat := 4
def D_Settings_parts : Nat := 5
def D_Settings_length_of : Nat := 6
def D_check_row : Nat := 7
def D_law_mix : Nat := 8
def D_law_source : Nat := 9
def D_law_draw : Nat := 10
def D_law_pick : Nat := 11
def D_law_parts : Nat := 12
def D_law_settings : Nat := 13
def D_law_other : Nat := 14
def D_law_right : Nat := 15
def D_law : Nat := 16
def D_InvalidSettings___init__ : Nat := 17
def D_InvalidRow___init__ : Nat := 18
theorem txt_of {K : PySem.W.Frag} {h : Heap} {mg : Str → Option Value} (X : K.In h) (G : h.Ns mainGlobals mg) (c : He.SaysD fal fnl K) (cx : exB K = true) : ∃ D, Txt K mg D := by
  have hx : ∀ f ∈ exl, f K = true := List.all_eq_true.mp cx
  have hd : ∀ i : Nat, ∃ fd : FuncData, ∀ d : He.DefD, fnl[i]? = some d → FunD K d.name d.qual d.params d.body d.scope (d.dvs K) (d.kws K) (He.fAd K d.at_) fd := fun i => by
    cases e : fnl[i]? with
    | none => exact ⟨PySem.W.fnOf "" "" (defArgs (topS 0)) [] (defScope (topS 0)) .none .none .none .none none .none .none, fun d h => nomatch h⟩
    | some d =>
      obtain ⟨fd, h⟩ := c.def_ i e
      exact ⟨fd, fun d2 h2 => by cases h2; exact h⟩
  have key := Classical.axiomOfChoice hd
  obtain ⟨D, hD⟩ := key
  refine ⟨D, ?_⟩
  constructor
  · exact hD 0 dd_is_integer rfl
  · exact hD 1 dd_is_between rfl
  · exact hD 2 dd_check_part rfl
  · exact hD 3 dd_Settings___init__ rfl
  · exact hD 4 dd_Settings___eq__ rfl
  · exact hD 5 dd_Settings_parts rfl
  · exact hD 6 dd_Settings_length_of rfl
  · exact hD 7 dd_check_row rfl
  · exact hD 8 dd_law_mix rfl
  · exact hD 9 dd_law_source rfl
  · exact hD 10 dd_law_draw rfl
  · exact hD 11 dd_law_pick rfl
  · exact hD 12 dd_law_parts rfl
  · exact hD 13 dd_law_settings rfl
  · exact hD 14 dd_law_other rfl
  · exact hD 15 dd_law_right rfl
  · exact hD 16 dd_law rfl
  · exact hD 17 dd_InvalidSettings___init__ rfl
  · exact hD 18 dd_InvalidRow___init__ rfl
  · exact He.glo_ok X G (c.fact 0 (f := .glo "is_integer") rfl)
  · exact He.glo_ok X G (c.fact 1 (f := .glo "is_between") rfl)
  · exact He.glo_ok X G (c.fact 2 (f := .glo "check_part") rfl)
  · exact He.glo_ok X G (c.fact 3 (f := .glo "check_row") rfl)
  · exact He.glo_ok X G (c.fact 4 (f := .glo "_law_mix") rfl)
  · exact He.glo_ok X G (c.fact 5 (f := .glo "_law_source") rfl)
  · exact He.glo_ok X G (c.fact 6 (f := .glo "_law_draw") rfl)
  · exact He.glo_ok X G (c.fact 7 (f := .glo "_law_pick") rfl)
  · exact He.glo_ok X G (c.fact 8 (f := .glo "_law_parts") rfl)
  · exact He.glo_ok X G (c.fact 9 (f := .glo "_law_settings") rfl)
  · exact He.glo_ok X G (c.fact 10 (f := .glo "_law_other") rfl)
  · exact He.glo_ok X G (c.fact 11 (f := .glo "_law_right") rfl)
  · exact He.glo_ok X G (c.fact 12 (f := .glo "law") rfl)
  · exact He.glo_ok X G (c.fact 13 (f := .glo "Settings") rfl)
  · exact He.glo_ok X G (c.fact 14 (f := .glo "StoreError") rfl)
  · exact He.glo_ok X G (c.fact 15 (f := .glo "InvalidSettings") rfl)
  · exact He.glo_ok X G (c.fact 16 (f := .glo "InvalidRow") rfl)
  · exact He.cls_ok (c.fact 17 (f := .cls "Settings") rfl)
  · exact He.mkr_ok (c.fact 18 (f := .mkr "Settings") rfl)
  · exact He.noat_ok (c.fact 19 (f := .noat "Settings" "lengths") rfl)
  · exact He.noat_ok (c.fact 20 (f := .noat "Settings" "size") rfl)
  · exact He.noat_ok (c.fact 21 (f := .noat "Settings" "fanout") rfl)
  · exact He.noat_ok (c.fact 22 (f := .noat "Settings" "records") rfl)
  · exact He.noat_ok (c.fact 23 (f := .noat "Settings" "every") rfl)
  · exact He.noat_ok (c.fact 24 (f := .noat "Settings" "keep") rfl)
  · exact He.meth_ok (c.fact 25 (f := .meth "Settings" "__eq__") rfl)
  · exact He.meth_ok (c.fact 26 (f := .meth "Settings" "parts") rfl)
  · exact He.meth_ok (c.fact 27 (f := .meth "Settings" "length_of") rfl)
  · exact He.free_ok X G (c.fact 28 (f := .free "int") rfl)
  · exact He.free_ok X G (c.fact 29 (f := .free "len") rfl)
  · exact He.free_ok X G (c.fact 30 (f := .free "range") rfl)
  · exact He.free_ok X G (c.fact 31 (f := .free "isinstance") rfl)
  · exact He.free_ok X G (c.fact 32 (f := .free "list") rfl)
  · exact He.free_ok X G (c.fact 33 (f := .free "tuple") rfl)
  · exact He.free_ok X G (c.fact 34 (f := .free "bool") rfl)
  · exact He.free_ok X G (c.fact 35 (f := .free "max") rfl)
  · exact He.free_ok X G (c.fact 36 (f := .free "min") rfl)
  · exact He.int_ok X G (c.fact 37 (f := .int "MOST_ROW" (1000000000000000000000000000000)) rfl)
  · exact He.int_ok X G (c.fact 38 (f := .int "MOST_LENGTHS" (6)) rfl)
  · exact He.int_ok X G (c.fact 39 (f := .int "MOST_SIZE" (64)) rfl)
  · exact He.int_ok X G (c.fact 40 (f := .int "MOST_FANOUT" (8)) rfl)
  · exact He.int_ok X G (c.fact 41 (f := .int "MOST_RECORDS" (16)) rfl)
  · exact He.int_ok X G (c.fact 42 (f := .int "MOST_EVERY" (40)) rfl)
  · exact He.int_ok X G (c.fact 43 (f := .int "MOST_KEEP" (100)) rfl)
  · exact eqCB_ok (hx (eqCB "Settings") (List.mem_of_getElem? (i := 0) rfl))
  · exact isCB_ok (hx (isCB "Settings") (List.mem_of_getElem? (i := 1) rfl))
  · exact of_decide_eq_true (hx (kitB2 "Settings" "int" false) (List.mem_of_getElem? (i := 2) rfl))
  · exact of_decide_eq_true (hx (kitB2 "Settings" "bool" false) (List.mem_of_getElem? (i := 3) rfl))
  · exact of_decide_eq_true (hx (kitB2 "Settings" "list" false) (List.mem_of_getElem? (i := 4) rfl))
  · exact of_decide_eq_true (hx (kitB1 "int" "Settings" false) (List.mem_of_getElem? (i := 5) rfl))
  · exact of_decide_eq_true (hx (kitB1 "bool" "Settings" false) (List.mem_of_getElem? (i := 6) rfl))
  · exact of_decide_eq_true (hx (kitB1 "str" "Settings" false) (List.mem_of_getElem? (i := 7) rfl))
  · exact of_decide_eq_true (hx (kitB1 "list" "Settings" false) (List.mem_of_getElem? (i := 8) rfl))
  · exact of_decide_eq_true (hx (kitB1 "tuple" "Settings" false) (List.mem_of_getElem? (i := 9) rfl))
  · exact of_decide_eq_true (hx (kitB1 "dict" "Settings" false) (List.mem_of_getElem? (i := 10) rfl))
  · exact of_decide_eq_true (hx (kitB1 "NoneType" "Settings" false) (List.mem_of_getElem? (i := 11) rfl))
  · exact of_decide_eq_true (hx (kitB3 "Settings" "Settings" true) (List.mem_of_getElem? (i := 12) rfl))
abbrev RowK : PySem.W.OpenRow := PySem.W.OpenLaw.row PySem.Challenge.rw_keeprows_k01_settings_made
abbrev hk : PySem.W.Hook := hookB 6 fal fnl exB
def ob (s : PySem.W.SharedT) : He.AlD := obsB 6 fal fnl exB (HandSHeadRun.getT s)
theorem ob_eq (s : PySem.W.SharedT) : ob s = hk.obs s.abs := obsB_eq (HandSHeadRun.getT_eq s)
def looseN : List Str := ["StoreError", "InvalidSettings", "InvalidRow", "MOST_ROW", "MOST_LENGTHS", "MOST_SIZE", "MOST_FANOUT", "MOST_RECORDS", "MOST_EVERY", "MOST_KEEP", "is_integer", "is_between", "check_part", "Settings", "check_row", "_law_mix", "_law_source", "_law_draw", "_law_pick", "_law_parts", "_law_settings", "_law_other", "_law_right"]
theorem run (w : World) : HandSHeadRun.RunEq RowK (PySem.W.view RowK.prog [26]) hk ob 4000 looseN w := by
  intro os
  kernel_rfl
end KR
local macro_rules | `(tactic| walk_at "cls") => `(tactic| first
  | exact KR.Txt.c_Settings (by assumption))
local macro_rules | `(tactic| walk_at "noat") => `(tactic| first
  | exact KR.Txt.a_Settings_lengths (by assumption)
  | exact KR.Txt.a_Settings_size (by assumption)
  | exact KR.Txt.a_Settings_fanout (by assumption)
  | exact KR.Txt.a_Settings_records (by assumption)
  | exact KR.Txt.a_Settings_every (by assumption)
  | exact KR.Txt.a_Settings_keep (by assumption))
local macro_rules | `(tactic| walk_at "lk") => `(tactic| first
  | assumption
  | with_reducible exact KR.lk_Settings_6_5
  | with_reducible exact KR.lk_Settings_6_4
  | with_reducible exact KR.lk_Settings_6_3
  | with_reducible exact KR.lk_Settings_6_2
  | with_reducible exact KR.lk_Settings_6_1
  | with_reducible exact KR.lk_Settings_6_0
  | with_reducible exact KR.lk_Settings_5_4
  | with_reducible exact KR.lk_Settings_5_3
  | with_reducible exact KR.lk_Settings_5_2
  | with_reducible exact KR.lk_Settings_5_1
  | with_reducible exact KR.lk_Settings_5_0
  | with_reducible exact KR.lk_Settings_4_3
  | with_reducible exact KR.lk_Settings_4_2
  | with_reducible exact KR.lk_Settings_4_1
  | with_reducible exact KR.lk_Settings_4_0
  | with_reducible exact KR.lk_Settings_3_2
  | with_reducible exact KR.lk_Settings_3_1
  | with_reducible exact KR.lk_Settings_3_0
  | with_reducible exact KR.lk_Settings_2_1
  | with_reducible exact KR.lk_Settings_2_0
  | with_reducible exact KR.lk_Settings_1_0
  | kernel_rfl)
local macro_rules | `(tactic| walk_at "sd") => `(tactic| first
  | omega
  | decide
  | exact KR.szl (Nat.le_of_ble_eq_true rfl)
  | ((repeat' split) <;> omega)
  | exact ⟨Nat.le_of_ble_eq_true rfl, Nat.le_of_ble_eq_true rfl⟩
  | (refine KR.cdw ?_ ?_ <;> omega)
  | (refine KR.cdv ?_ ?_ <;> omega)
  | (refine KR.cml ?_ ?_ <;> omega)
  | (refine KR.cmr ?_ ?_ <;> omega))
local macro_rules | `(tactic| walk_at "hp") => `(tactic| first
  | assumption
  | exact KR.hp_same (by assumption) (by assumption)
  | exact KR.hp_sb (by assumption) (by assumption) (by assumption))
local macro_rules | `(tactic| walk_at "s1") => `(tactic| first
  | refine ⟨_, rfl, ?_⟩
  | refine L2.iteT ?_
  | refine L2.iteF ?_
  | refine ⟨_, _, rfl, rfl, ?_⟩
  | refine Or.inl ⟨_, rfl, ?_⟩
  | (refine' ⟨_, _, _, _, rfl, rfl, L2.SqL.of ?h1, ?h2, ?_⟩; (case h1 => walk_at "hp"); (case h2 => rfl))
  | (refine' ⟨_, _, _, _, rfl, rfl, L2.SqT.of ?h1, ?h2, ?_⟩; (case h1 => walk_at "hp"); (case h2 => rfl))
  | refine ⟨rfl, ?_⟩
  | refine ⟨_, _, rfl, ?_⟩
  | refine ⟨_, _, _, rfl, ?_⟩
  | (refine' ⟨_, _, rfl, L2.SqT.of ?h1, ?h2, ?_⟩; (case h1 => walk_at "hp"); (case h2 => rfl))
  | (refine' ⟨_, _, rfl, Or.inl (L2.SqL.of ?h1), ?_⟩; (case h1 => walk_at "hp"))
  | (refine' ⟨_, _, rfl, Or.inr (L2.SqT.of ?h1), ?_⟩; (case h1 => walk_at "hp"))
  | (refine' ⟨_, _, _, _, _, rfl, ?h1, ?h2, ?h3, ?h4, ?_⟩; (case h1 => walk_at "hp"); (case h2 => walk_at "cls"); (case h3 => walk_at "noat"); (case h4 => walk_at "lk"))
  | (refine' ⟨_, _, _, _, rfl, ?h1, ?h2, ?h3, ?h4, ?_⟩; (case h1 => walk_at "hp"); (case h2 => walk_at "cls"); (case h3 => walk_at "noat"); (case h4 => exact KR.lt1000 rfl))
  | (refine' ⟨_, _, _, rfl, ?h1, ?h2, ?_⟩; (case h1 => walk_at "hp"); (case h2 => walk_at "lk"))
  | (refine' ⟨⟨_, L2.SqL.of ?h1⟩, ?_⟩; (case h1 => walk_at "hp"))
  | (refine' ⟨⟨_, L2.SqT.of ?h1⟩, ?_⟩; (case h1 => walk_at "hp"))
  | (refine And.intro ?h1 ?_; (case h1 => walk_at "sd")))
local macro_rules | `(tactic| walk_at "rd") => `(tactic| repeat walk_at "s1")
namespace KR
open PySem PySem.Spec PyProof.Rows L2
section
variable {P : Program} {w : World} {K : PySem.W.Frag} {mg : Str → Option Value} {base : Heap} {D : Nat → FuncData}
@[irreducible] def sp_law_mix : Sp := fun vs H Q _ => ∃ c l : Int, vs = [.int c, .int l] ∧ ∀ i, 0 ≤ i → i < 2147483563 → Q (.int i) H
theorem use_mix {c l : Int} {H : Hp} {Q : VK} {E : XK} (k : ∀ i, 0 ≤ i → i < 2147483563 → Q (.int i) H) : sp_law_mix [.int c, .int l] H Q E := by unfold sp_law_mix; exact ⟨c, l, rfl, k⟩
theorem b_law_mix {K : PySem.W.Frag} {fd : FuncData} (F : F_law_mix K fd) : Binds K fd P_law_mix [] := FunD.bindsN F fun _ _ _ _ _ _ us hl => match us, hl with | [_, _], _ => rfl
theorem ok_law_mix (T : Txt K mg D) : FnOk P w K mg base CX0 1 (He.fAd K ("_law_mix", none)) (D D_law_mix) P_law_mix sp_law_mix := by
  refine T.d_law_mix.ok sc_law_mix (fun vs H Q E h => ?_) (fun cdv A outer s H vs Q E hr h => ?_)
  · unfold sp_law_mix at h
    first | (obtain ⟨rfl, _⟩ := h; rfl) | (obtain ⟨_, rfl, _⟩ := h; rfl) | (obtain ⟨_, _, rfl, _⟩ := h; rfl) | (obtain ⟨_, _, _, rfl, _⟩ := h; rfl) | (obtain ⟨_, _, _, _, rfl, _⟩ := h; rfl) | (obtain ⟨_, _, _, _, _, rfl, _⟩ := h; rfl) | (obtain ⟨_, _, _, _, _, _, rfl, _⟩ := h; rfl) | (obtain ⟨_, _, _, _, _, _, _, rfl, _⟩ := h; rfl) | (obtain ⟨_, _, _, _, _, _, _, _, rfl, _⟩ := h; rfl) | (obtain ⟨_, _, _, _, _, _, _, _, _, rfl, _⟩ := h; rfl) | (obtain ⟨_, _, _, _, _, _, _, _, _, _, rfl, _⟩ := h; rfl) | (obtain ⟨_, _, _, _, _, _, _, _, _, _, _, rfl, _⟩ := h; rfl)
  · refine ⟨_, PSs.nox (pss_cons (ps_set (i := 2) sc_law_mix.nd rfl (Or.inl rfl) (pe_op op_add (pe_op op_add (pe_op op_add (pe_op op_mod (pe_callTy call_int1 (by rfl) T.n_int (by decide +kernel) (pa_cons (pv 0) pa_nil)) pe_int) (pe_op op_mul pe_int (pv 1))) (pe_op op_mod (pe_callTy call_int1 (by rfl) T.n_int (by decide +kernel) (pa_cons (pe_op op_fdivW (pv 0) pe_int) pa_nil)) pe_int)) pe_int))
      (pss_cons (ps_set (i := 2) sc_law_mix.nd rfl (Or.inl rfl) (pe_op op_mod (pe_callTy call_int1 (by rfl) T.n_int (by decide +kernel) (pa_cons (pe_op op_mul (pv 2) pe_int) pa_nil)) pe_int))
      (pss_cons (ps_set (i := 2) sc_law_mix.nd rfl (Or.inl rfl) (pe_op op_mod (pe_callTy call_int1 (by rfl) T.n_int (by decide +kernel) (pa_cons (pe_op op_mul (pv 2) (pe_op op_add (pe_op op_add (pe_op op_fdivW (pv 2) pe_int) pe_int) (pv 1))) pa_nil)) pe_int))
      (pss_one (ps_ret (pe_op op_mod (pe_callTy call_int1 (by rfl) T.n_int (by decide +kernel) (pa_cons (pe_op op_mul (pv 2) (pe_op op_add (pe_op op_fdivW (pv 2) pe_int) pe_int)) pa_nil)) pe_int)))))), ?_⟩
    unfold sp_law_mix at h
    obtain ⟨c, l, rfl, k⟩ := h
    walk_at "rd"
    exact k _ (Int.emod_nonneg _ (by decide)) (Int.emod_lt_of_pos _ (by decide))

/-- a source of draws stands at s -/
def Src (H : Hp) (s : Addr) : Prop := ∃ a b c : Int, H s = some (.lst [.int a, .int b, .int c])
@[irreducible] def sp_law_draw : Sp := fun vs H Q _ => ∃ (s : Addr) (n : Int), vs = [.ref s, .int n] ∧ (0 < n ∧ n ≤ 1000000000000000000000) ∧ Src H s ∧ ∀ i H', 0 ≤ i → i < n → SB s H H' → Src H' s → Q (.int i) H'
theorem use_draw {s : Addr} {n : Int} {H : Hp} {Q : VK} {E : XK} (h0 : 0 < n) (h1 : n ≤ 1000000000000000000000) (h : Src H s) (k : ∀ i H', 0 ≤ i → i < n → SB s H H' → Src H' s → Q (.int i) H') : sp_law_draw [.ref s, .int n] H Q E := by unfold sp_law_draw; exact ⟨s, n, rfl, ⟨h0, h1⟩, h, k⟩
theorem b_law_draw {K : PySem.W.Frag} {fd : FuncData} (F : F_law_draw K fd) : Binds K fd P_law_draw [] := FunD.bindsN F fun _ _ _ _ _ _ us hl => match us, hl with | [_, _], _ => rfl
theorem ok_law_draw (T : Txt K mg D) : FnOk P w K mg base CX0 2 (He.fAd K ("_law_draw", none)) (D D_law_draw) P_law_draw sp_law_draw := by
  refine T.d_law_draw.ok sc_law_draw (fun vs H Q E h => ?_) (fun cdv A outer s H vs Q E hr h => ?_)
  · unfold sp_law_draw at h
    first | (obtain ⟨rfl, _⟩ := h; rfl) | (obtain ⟨_, rfl, _⟩ := h; rfl) | (obtain ⟨_, _, rfl, _⟩ := h; rfl) | (obtain ⟨_, _, _, rfl, _⟩ := h; rfl) | (obtain ⟨_, _, _, _, rfl, _⟩ := h; rfl) | (obtain ⟨_, _, _, _, _, rfl, _⟩ := h; rfl) | (obtain ⟨_, _, _, _, _, _, rfl, _⟩ := h; rfl) | (obtain ⟨_, _, _, _, _, _, _, rfl, _⟩ := h; rfl) | (obtain ⟨_, _, _, _, _, _, _, _, rfl, _⟩ := h; rfl) | (obtain ⟨_, _, _, _, _, _, _, _, _, rfl, _⟩ := h; rfl) | (obtain ⟨_, _, _, _, _, _, _, _, _, _, rfl, _⟩ := h; rfl) | (obtain ⟨_, _, _, _, _, _, _, _, _, _, _, rfl, _⟩ := h; rfl)
  · refine ⟨_, PSs.nox (pss_cons (ps_if (pt_cmpR op_ge (pe_ix (ix_listK (K := K)) (pv 0) pe_int (fun _ _ => rfl)) (pe_powc (c := 1000000000000000000) (by decide)) (nomark _)) (pss_cons (ps_set (i := 2) sc_law_draw.nd rfl (Or.inl rfl) (pe_op op_mod (pe_callTy call_int1 (by rfl) T.n_int (by decide +kernel) (pa_cons (pe_ix (ix_listK (K := K)) (pv 0) pe_int (fun _ _ => rfl)) pa_nil)) (pv 1)))
      (pss_cons (ps_asg (pe_op op_fdivW (pe_ix (ix_listK (K := K)) (pv 0) pe_int (fun _ _ => rfl)) (pv 1)) (pg_sub (pv 0) pe_int set_list))
      (pss_one (ps_ret (pv 2))))) pss_nil)
      (pss_cons (ps_asg (pe_op op_add (pe_ix (ix_listK (K := K)) (pv 0) pe_int (fun _ _ => rfl)) pe_int) (pg_sub (pv 0) pe_int set_list))
      (pss_one (ps_ret (pe_op op_mod (pe_callTy call_int1 (by rfl) T.n_int (by decide +kernel) (pa_cons (pe_call (ok_law_mix T) (hr.mono (by decide)) rfl T.g_law_mix T.d_law_mix.kp (b_law_mix T.d_law_mix) .nil pass0 (pa_cons (pe_ix (ix_listK (K := K)) (pv 0) pe_int (fun _ _ => rfl)) (pa_cons (pe_ix (ix_listK (K := K)) (pv 0) pe_int (fun _ _ => rfl)) pa_nil))) pa_nil)) (pv 1)))))), ?_⟩
    unfold sp_law_draw at h
    obtain ⟨s, n, rfl, ⟨h0, h1⟩, ⟨a, b, c, hs⟩, k⟩ := h
    walk_at "rd"
    refine ite2 (fun _ => ?_) (fun _ => ?_)
    · walk_at "rd"
      refine ⟨_, _, _, 0, rfl, rfl, hs, rfl, ?_⟩
      walk_at "rd"
      exact k _ _ (Int.emod_nonneg _ (by omega)) (Int.emod_lt_of_pos _ h0) SB.upd ⟨_, _, _, upd_same⟩
    · walk_at "rd"
      refine ⟨_, _, _, 2, rfl, rfl, hs, rfl, ?_⟩
      have hs2 := @upd_same H s (.lst [.int a, .int b, .int (c + 1)])
      walk_at "rd"
      refine use_mix fun i i0 i1 => ?_
      walk_at "rd"
      exact k _ _ (Int.emod_nonneg _ (by omega)) (Int.emod_lt_of_pos _ h0) SB.upd ⟨_, _, _, upd_same⟩

@[irreducible] def sp_law_source (K : PySem.W.Frag) : Sp := fun vs H Q _ => ∃ (a : Addr) (ns : List Int) (k : Int), vs = [.ref a, .int k] ∧ SqL K H a (ns.map V.int) ∧ (0 ≤ k ∧ k ≤ 1000 ∧ ns.length ≤ 63) ∧
  ∀ p H', H p = none → Same H H' → Src H' p → Q (.ref p) H'
theorem use_source {K : PySem.W.Frag} {a : Addr} {ns : List Int} {n : Int} {H : Hp} {Q : VK} {E : XK} (h : SqL K H a (ns.map V.int)) (h1 : 0 ≤ n ∧ n ≤ 1000 ∧ ns.length ≤ 63) (k : ∀ p H', H p = none → Same H H' → Src H' p → Q (.ref p) H') :
  sp_law_source K [.ref a, .int n] H Q E := by unfold sp_law_source; exact ⟨a, ns, n, rfl, h, h1, k⟩
theorem b_law_source {K : PySem.W.Frag} {fd : FuncData} (F : F_law_source K fd) : Binds K fd P_law_source [] := FunD.bindsN F fun _ _ _ _ _ _ us hl => match us, hl with | [_, _], _ => rfl
theorem ok_law_source (T : Txt K mg D) : FnOk P w K mg base CX0 1 (He.fAd K ("_law_source", none)) (D D_law_source) P_law_source (sp_law_source K) := by
  refine T.d_law_source.ok sc_law_source (fun vs H Q E h => ?_) (fun cdv A outer s H vs Q E hr h => ?_)
  · unfold sp_law_source at h
    first | (obtain ⟨rfl, _⟩ := h; rfl) | (obtain ⟨_, rfl, _⟩ := h; rfl) | (obtain ⟨_, _, rfl, _⟩ := h; rfl) | (obtain ⟨_, _, _, rfl, _⟩ := h; rfl) | (obtain ⟨_, _, _, _, rfl, _⟩ := h; rfl) | (obtain ⟨_, _, _, _, _, rfl, _⟩ := h; rfl) | (obtain ⟨_, _, _, _, _, _, rfl, _⟩ := h; rfl) | (obtain ⟨_, _, _, _, _, _, _, rfl, _⟩ := h; rfl) | (obtain ⟨_, _, _, _, _, _, _, _, rfl, _⟩ := h; rfl) | (obtain ⟨_, _, _, _, _, _, _, _, _, rfl, _⟩ := h; rfl) | (obtain ⟨_, _, _, _, _, _, _, _, _, _, rfl, _⟩ := h; rfl) | (obtain ⟨_, _, _, _, _, _, _, _, _, _, _, rfl, _⟩ := h; rfl)
  · refine ⟨_, PSs.nox (pss_cons (ps_set (i := 2) sc_law_source.nd rfl (Or.inl rfl) (pe_op op_add (pe_ix (ix_listK (K := K)) (pe_op (op_catSK (K := K)) (pv 0) (pe_lst (pa_cons pe_int pa_nil))) pe_int (fun _ _ => rfl)) (pe_op op_mul pe_int (pv 1))))
      (pss_cons (ps_if (pt_cmpR op_lt (pv 1) (pe_callB (call_lenK (K := K)) (by rfl) T.n_len (by decide +kernel) (pa_cons (pv 0) pa_nil)) (nomark _)) (pss_one (ps_set (i := 2) sc_law_source.nd rfl (Or.inl rfl) (pe_ix (ix_listK (K := K)) (pv 0) (pv 1) (fun _ _ => rfl)))) pss_nil)
      (pss_one (ps_ret (pe_lst (pa_cons (pv 2) (pa_cons (pv 2) (pa_cons pe_int pa_nil)))))))), ?_⟩
    unfold sp_law_source at h
    obtain ⟨a, ns, n, rfl, hs, ⟨h0, h1, h2⟩, k⟩ := h
    walk_at "rd"
    intro p1 n1
    generalize eH1 : upd _ p1 _ = H1
    obtain ⟨s1, hp1⟩ := gen_new n1 eH1
    clear eH1
    refine ⟨_, _, _, _, rfl, rfl, s1.seq hs, SqL.of hp1, (by rw [List.length_map]; simp; omega), fun p2 H2 n2 s2 hp2 => ?_⟩
    obtain ⟨c0, hc0⟩ : ∃ c0 : Int, (ns.map V.int ++ [V.int 0])[0]? = some (.int c0) := by
      cases ns with
      | nil => exact ⟨0, rfl⟩
      | cons z r => exact ⟨z, rfl⟩
    refine ⟨_, _, _, _, rfl, rfl, SqL.of hp2, atI_int (j := 0) rfl hc0, ?_⟩
    walk_at "rd"
    refine ⟨_, _, rfl, .inl ((s1.trans s2).seq hs), ?_⟩
    walk_at "rd"
    have fin : ∀ (c : Int) (H3 : Hp), Same H H3 → ∀ p4, H3 p4 = none → Q (.ref p4) (upd H3 p4 (.lst [.int c, .int c, .int 0])) := fun c H3 s3 p4 h4 =>
      k p4 _ (s3.free h4) (s3.trans (same_new h4)) ⟨_, _, _, upd_same⟩
    refine ite2 (fun c => ?_) (fun c => ?_)
    · walk_at "rd"
      have hk : n < (ns.map V.int).length := by simpa using c
      obtain ⟨v, _, hv, hv2⟩ := at_of_lt (xs := ns.map V.int) h0 hk
      obtain ⟨z, _, rfl⟩ := map_some hv2
      refine ⟨_, _, _, _, rfl, rfl, (s1.trans s2).seq hs, hv, ?_⟩
      walk_at "rd"
      exact fin z H2 (s1.trans s2)
    · walk_at "rd"
      exact fin _ H2 (s1.trans s2)

@[irreducible] def sp_law_pick : Sp := fun vs H Q _ => ∃ (s a : Addr) (xs : List V), vs = [.ref s, .ref a] ∧ H a = some (.lst xs) ∧ a ≠ s ∧ (0 < xs.length ∧ xs.length ≤ 1000) ∧ Src H s ∧ ∀ v H', v ∈ xs → SB s H H' → Src H' s → Q v H'
theorem use_pick {s a : Addr} {xs : List V} {H : Hp} {Q : VK} {E : XK} (h : H a = some (.lst xs)) (hn : a ≠ s) (h0 : 0 < xs.length ∧ xs.length ≤ 1000) (hs : Src H s) (k : ∀ v H', v ∈ xs → SB s H H' → Src H' s → Q v H') :
  sp_law_pick [.ref s, .ref a] H Q E := by unfold sp_law_pick; exact ⟨s, a, xs, rfl, h, hn, h0, hs, k⟩
theorem b_law_pick {K : PySem.W.Frag} {fd : FuncData} (F : F_law_pick K fd) : Binds K fd P_law_pick [] := FunD.bindsN F fun _ _ _ _ _ _ us hl => match us, hl with | [_, _], _ => rfl
theorem ok_law_pick (T : Txt K mg D) : FnOk P w K mg base CX0 3 (He.fAd K ("_law_pick", none)) (D D_law_pick) P_law_pick sp_law_pick := by
  refine T.d_law_pick.ok sc_law_pick (fun vs H Q E h => ?_) (fun cdv A outer s H vs Q E hr h => ?_)
  · unfold sp_law_pick at h
    first | (obtain ⟨rfl, _⟩ := h; rfl) | (obtain ⟨_, rfl, _⟩ := h; rfl) | (obtain ⟨_, _, rfl, _⟩ := h; rfl) | (obtain ⟨_, _, _, rfl, _⟩ := h; rfl) | (obtain ⟨_, _, _, _, rfl, _⟩ := h; rfl) | (obtain ⟨_, _, _, _, _, rfl, _⟩ := h; rfl) | (obtain ⟨_, _, _, _, _, _, rfl, _⟩ := h; rfl) | (obtain ⟨_, _, _, _, _, _, _, rfl, _⟩ := h; rfl) | (obtain ⟨_, _, _, _, _, _, _, _, rfl, _⟩ := h; rfl) | (obtain ⟨_, _, _, _, _, _, _, _, _, rfl, _⟩ := h; rfl) | (obtain ⟨_, _, _, _, _, _, _, _, _, _, rfl, _⟩ := h; rfl) | (obtain ⟨_, _, _, _, _, _, _, _, _, _, _, rfl, _⟩ := h; rfl)
  · refine ⟨_, PSs.nox (pss_one (ps_ret (pe_ix (ix_listK (K := K)) (pv 1) (pe_call (ok_law_draw T) (hr.mono (by decide)) rfl T.g_law_draw T.d_law_draw.kp (b_law_draw T.d_law_draw) .nil pass0 (pa_cons (pv 0) (pa_cons (pe_callB (call_lenK (K := K)) (by rfl) T.n_len (by decide +kernel) (pa_cons (pv 1) pa_nil)) pa_nil))) (fun _ _ => rfl)))), ?_⟩
    unfold sp_law_pick at h
    obtain ⟨s, a, xs, rfl, ha, hn, ⟨h0, h1⟩, hs, k⟩ := h
    walk_at "rd"
    refine use_draw (by omega) (by omega) hs fun i H1 i0 i1 s1 hs1 => ?_
    obtain ⟨v, hv, hv1, _⟩ := at_of_lt (xs := xs) i0 i1
    exact ⟨_, _, _, _, rfl, rfl, SqL.of (s1 _ _ hn ha), hv1, k _ _ hv s1 hs1⟩

/-- drawn settings -/
structure Prt where
  lens : List Int
  size : Int
  fan : Int
  rec_ : Int
  every : Int
  keep : Int
structure Prt.Ok (p : Prt) : Prop where
  l0 : 0 < p.lens.length
  l1 : p.lens.length ≤ 6
  le : ∀ x ∈ p.lens, 1 ≤ x ∧ x ≤ p.size
  s0 : 1 ≤ p.size
  s1 : p.size ≤ 64
  f : 2 ≤ p.fan ∧ p.fan ≤ 8
  r : 1 ≤ p.rec_ ∧ p.rec_ ≤ 16
  e : 1 ≤ p.every ∧ p.every ≤ 40
  k : 1 ≤ p.keep ∧ p.keep ≤ 100
def PrtAt (H : Hp) (a : Addr) (p : Prt) : Prop := ∃ l, H a = some (.lst [.ref l, .int p.size, .int p.fan, .int p.rec_, .int p.every, .int p.keep]) ∧ H l = some (.lst (p.lens.map V.int))
theorem PrtAt.same {H H' : Hp} {a : Addr} {p : Prt} (h : PrtAt H a p) (s : Same H H') : PrtAt H' a p := let ⟨l, h1, h2⟩ := h; ⟨l, s _ _ h1, s _ _ h2⟩
@[irreducible] def sp_law_parts : Sp := fun vs H Q _ => ∃ (s : Addr), vs = [.ref s] ∧ Src H s ∧
  ∀ a H' p, SB s H H' → Src H' s → p.Ok → PrtAt H' a p → (∀ H'', SB s H' H'' → PrtAt H'' a p) → Q (.ref a) H'
theorem use_parts {s : Addr} {H : Hp} {Q : VK} {E : XK} (hs : Src H s) (k : ∀ a H' p, SB s H H' → Src H' s → p.Ok → PrtAt H' a p → (∀ H'', SB s H' H'' → PrtAt H'' a p) → Q (.ref a) H') : sp_law_parts [.ref s] H Q E := by
  unfold sp_law_parts; exact ⟨s, rfl, hs, k⟩
def bnds : List (Int × Int) := [(2, 8), (1, 16), (1, 40), (1, 100)]
theorem b_law_parts {K : PySem.W.Frag} {fd : FuncData} (F : F_law_parts K fd) : Binds K fd P_law_parts [] := FunD.bindsN F fun _ _ _ _ _ _ us hl => match us, hl with | [_], _ => rfl
theorem ok_law_parts (T : Txt K mg D) : FnOk P w K mg base CX0 4 (He.fAd K ("_law_parts", none)) (D D_law_parts) P_law_parts sp_law_parts := by
  refine T.d_law_parts.ok sc_law_parts (fun vs H Q E h => ?_) (fun cdv A outer s H vs Q E hr h => ?_)
  · unfold sp_law_parts at h
    first | (obtain ⟨rfl, _⟩ := h; rfl) | (obtain ⟨_, rfl, _⟩ := h; rfl) | (obtain ⟨_, _, rfl, _⟩ := h; rfl) | (obtain ⟨_, _, _, rfl, _⟩ := h; rfl) | (obtain ⟨_, _, _, _, rfl, _⟩ := h; rfl) | (obtain ⟨_, _, _, _, _, rfl, _⟩ := h; rfl) | (obtain ⟨_, _, _, _, _, _, rfl, _⟩ := h; rfl) | (obtain ⟨_, _, _, _, _, _, _, rfl, _⟩ := h; rfl) | (obtain ⟨_, _, _, _, _, _, _, _, rfl, _⟩ := h; rfl) | (obtain ⟨_, _, _, _, _, _, _, _, _, rfl, _⟩ := h; rfl) | (obtain ⟨_, _, _, _, _, _, _, _, _, _, rfl, _⟩ := h; rfl) | (obtain ⟨_, _, _, _, _, _, _, _, _, _, _, rfl, _⟩ := h; rfl)
  · refine ⟨_, PSs.nox (pss_cons (ps_set (i := 1) sc_law_parts.nd rfl (Or.inr rfl) (pe_call (ok_law_pick T) (hr.mono (by decide)) rfl T.g_law_pick T.d_law_pick.kp (b_law_pick T.d_law_pick) .nil pass0 (pa_cons (pv 0) (pa_cons (pe_lst (pa_cons (pe_op op_add pe_int (pe_call (ok_law_draw T) (hr.mono (by decide)) rfl T.g_law_draw T.d_law_draw.kp (b_law_draw T.d_law_draw) .nil pass0 (pa_cons (pv 0) (pa_cons pe_int pa_nil)))) (pa_cons (pe_op op_add pe_int (pe_call (ok_law_draw T) (hr.mono (by decide)) rfl T.g_law_draw T.d_law_draw.kp (b_law_draw T.d_law_draw) .nil pass0 (pa_cons (pv 0) (pa_cons pe_int pa_nil)))) (pa_cons pe_int pa_nil)))) pa_nil))))
      (pss_cons (ps_setLc (i := 2) (own := [("k", 6)]) rfl sc_law_parts.nd rfl rfl (sw_true rfl rfl rfl (by decide +kernel)) (pi_range1 (by rfl) T.n_range (pa_cons (pe_op op_add pe_int (pe_call (ok_law_draw T) (hr.mono (by decide)) rfl T.g_law_draw T.d_law_draw.kp (b_law_draw T.d_law_draw) .nil pass0 (pa_cons (pv 0) (pa_cons pe_int pa_nil)))) pa_nil)) (blkOk_by (N := N_law_parts) (sc := defScope s_law_parts) (by decide +kernel)) (fun _ _ _ _ _ => (pg_name (i := 6) sc_law_parts.nd rfl (Or.inl rfl))) (fun _ _ _ _ _ => pts_nil) (fun _ _ _ _ _ => (pe_op op_add pe_int (pe_call (ok_law_draw T) (hr.mono (by decide)) rfl T.g_law_draw T.d_law_draw.kp (b_law_draw T.d_law_draw) .nil pass0 (pa_cons (pv 0) (pa_cons (pv 1) pa_nil))))))
      (pss_cons (ps_set (i := 3) sc_law_parts.nd rfl (Or.inl rfl) (pe_lst (pa_cons (pv 2) (pa_cons (pv 1) pa_nil))))
      (pss_cons (ps_for PassesOwn.never rfl (pi_list (pe_lst (pa_cons (pe_tup (pa_cons pe_int (pa_cons pe_int pa_nil))) (pa_cons (pe_tup (pa_cons pe_int (pa_cons pe_int pa_nil))) (pa_cons (pe_tup (pa_cons pe_int (pa_cons pe_int pa_nil))) (pa_cons (pe_tup (pa_cons pe_int (pa_cons pe_int pa_nil))) pa_nil)))))) (pg_tup rfl (pgs_cons (pg_name (i := 4) sc_law_parts.nd rfl (Or.inl rfl)) (pgs_cons (pg_name (i := 5) sc_law_parts.nd rfl (Or.inl rfl)) pgs_nil))) (pss_one (ps_expr (pe_bm PySem.F.plainAttrs_list PySem.F.slot_list_append PySem.F.type_list_append mt_append (pv 3) (pa_cons (pe_call (ok_law_pick T) (hr.mono (by decide)) rfl T.g_law_pick T.d_law_pick.kp (b_law_pick T.d_law_pick) .nil pass0 (pa_cons (pv 0) (pa_cons (pe_lst (pa_cons (pv 4) (pa_cons (pv 5) (pa_cons (pe_op op_add (pv 4) (pe_call (ok_law_draw T) (hr.mono (by decide)) rfl T.g_law_draw T.d_law_draw.kp (b_law_draw T.d_law_draw) .nil pass0 (pa_cons (pv 0) (pa_cons (pe_op op_add (pe_op op_sub (pv 5) (pv 4)) pe_int) pa_nil)))) pa_nil)))) pa_nil))) pa_nil)))))
      (pss_one (ps_ret (pv 3))))))), ?_⟩
    unfold sp_law_parts at h
    obtain ⟨s, rfl, hs, k⟩ := h
    walk_at "rd"
    refine use_draw (by omega) (by omega) hs fun i1 H1 i1a i1b s1 hs1 => ?_
    walk_at "rd"
    refine use_draw (by omega) (by omega) hs1 fun i2 H2 i2a i2b s2 hs2 => ?_
    walk_at "rd"
    intro p3 n3
    generalize eH3 : upd _ p3 _ = H3
    obtain ⟨s3, hp3⟩ := gen_new n3 eH3
    clear eH3
    obtain ⟨a0, b0, c0, hs20⟩ := id hs2
    have np3 : p3 ≠ s := (ne_of_none hs20 n3).symm
    walk_at "rd"
    refine use_pick hp3 np3 (by walk_at "sd") ⟨_, _, _, s3 _ _ hs20⟩ fun v H4 hv s4 hs4 => ?_
    obtain ⟨room, rfl, r0, r1⟩ : ∃ room : Int, v = .int room ∧ 1 ≤ room ∧ room ≤ 64 := by
      simp only [List.mem_cons, List.mem_nil_iff, or_false] at hv
      rcases hv with rfl | rfl | rfl
      · exact ⟨_, rfl, by omega, by omega⟩
      · exact ⟨_, rfl, by omega, by omega⟩
      · exact ⟨_, rfl, by omega, by omega⟩
    have f4 : SB s H H4 := ((s1.trans s2).trans s3.sb).trans s4
    walk_at "rd"
    refine use_draw (by omega) (by omega) hs4 fun i5 H5 i5a i5b s5 hs5 => ?_
    walk_at "rd"
    intro D5 n5
    obtain ⟨a5, b5, c5, hs50⟩ := id hs5
    have nD : D5 ≠ s := (ne_of_none hs50 n5).symm
    have f5 : SB s H H5 := f4.trans s5
    refine lc_range (lo := 0) (n := (1 + i5).toNat) (fun i H' => ∃ xs : List Int, xs.length = i ∧ (∀ x ∈ xs, 1 ≤ x ∧ x ≤ room) ∧ H' D5 = some (.lst (xs.map V.int)) ∧ SB s H5 H' ∧ Src H' s)
      ⟨[], rfl, by simp, upd_same, SB.refl.mut n5, _, _, _, by rw [upd_ne nD.symm]; exact hs50⟩ ?_ ?_
    · rintro i H' hi ⟨xs, hl, hb, hD, f, hs'⟩
      refine ⟨rfl, ?_⟩
      walk_at "rd"
      refine use_draw (by omega) (by omega) hs' fun j6 H6 i6a i6b s6 hs6 => ?_
      obtain ⟨a6, b6, c6, hs60⟩ := id hs6
      walk_at "rd"
      refine ⟨xs.map V.int, s6 _ _ nD hD, szlt (by rw [List.length_map]; omega), xs ++ [1 + j6], by rw [List.length_append, hl]; rfl, ?_, by rw [upd_same, List.map_append]; rfl, (f.trans s6).mut n5, a6, b6, c6, by rw [upd_ne nD.symm]; exact hs60⟩
      intro x hx
      rcases List.mem_append.mp hx with h | h
      · exact hb x h
      · rw [List.mem_singleton.mp h]
        constructor <;> omega
    · rintro H7 ⟨lens, hl, hb, hD, f7, hs7⟩
      have f70 : SB s H H7 := f5.trans f7
      walk_at "rd"
      intro p8 n8
      generalize eH8 : upd _ p8 _ = H8
      obtain ⟨s8, hp8⟩ := gen_new n8 eH8
      clear eH8
      walk_at "rd"
      intro q1 m1
      generalize eG1 : upd _ q1 _ = G1
      obtain ⟨t1, u1⟩ := gen_new m1 eG1
      clear eG1
      walk_at "rd"
      intro q2 m2
      generalize eG2 : upd _ q2 _ = G2
      obtain ⟨t2, u2⟩ := gen_new m2 eG2
      clear eG2
      walk_at "rd"
      intro q3 m3
      generalize eG3 : upd _ q3 _ = G3
      obtain ⟨t3, u3⟩ := gen_new m3 eG3
      clear eG3
      walk_at "rd"
      intro q4 m4
      generalize eG4 : upd _ q4 _ = G4
      obtain ⟨t4, u4⟩ := gen_new m4 eG4
      clear eG4
      walk_at "rd"
      intro q5 m5
      generalize eG5 : upd _ q5 _ = G5
      obtain ⟨t5, u5⟩ := gen_new m5 eG5
      clear eG5
      have u40 := t5 _ _ u4
      have u30 := (t4.trans t5) _ _ u3
      have u20 := ((t3.trans t4).trans t5) _ _ u2
      have u10 := (((t2.trans t3).trans t4).trans t5) _ _ u1
      have s85 : Same H8 G5 := (((t1.trans t2).trans t3).trans t4).trans t5
      have hp80 := s85 _ _ hp8
      obtain ⟨a7, b7, c7, hs70⟩ := id hs7
      have np8 : p8 ≠ s := (ne_of_none hs70 n8).symm
      have hs5' := (s8.trans s85) _ _ hs70
      have qs : ∀ q o, G5 q = some (HO.tup o) → q ≠ s ∧ q ≠ p8 := fun q o e => ⟨ne_of e hs5' (by intro z; cases z), ne_of e hp80 (by intro z; cases z)⟩
      have q5p : q5 ≠ p8 := (ne_of_none (((((t1.trans t2).trans t3).trans t4)) _ _ hp8) m5).symm
      have q5s : q5 ≠ s := (ne_of_none ((((((s8.trans t1).trans t2).trans t3).trans t4)) _ _ hs70) m5).symm
      have tb : ∀ (i : Nat) (x : V), [V.ref q1, V.ref q2, V.ref q3, V.ref q4][i]? = some x → ∃ (q : Addr) (b : Int × Int), x = .ref q ∧ bnds[i]? = some b ∧ b.1 ≤ b.2 ∧ b.2 ≤ 100 ∧ 0 ≤ b.1 ∧ G5 q = some (.tup [.int b.1, .int b.2]) := by
        intro i x hx
        match i, hx with
        | 0, hx => cases hx; exact ⟨q1, (2, 8), rfl, rfl, by decide, by decide, by decide, u10⟩
        | 1, hx => cases hx; exact ⟨q2, (1, 16), rfl, rfl, by decide, by decide, by decide, u20⟩
        | 2, hx => cases hx; exact ⟨q3, (1, 40), rfl, rfl, by decide, by decide, by decide, u30⟩
        | 3, hx => cases hx; exact ⟨q4, (1, 100), rfl, rfl, by decide, by decide, by decide, u40⟩
        | i + 4, hx => simp at hx
      refine ⟨_, rfl, ⟨_, SqL.of u5⟩, for_list (xs := [V.ref q1, V.ref q2, V.ref q3, V.ref q4]) (fun i σ H' => ∃ (ys : List Int) (v1 v2 v3 : Option V), σ = [some (.ref s), some (.int room), some (.ref D5), some (.ref p8), v1, v2, v3] ∧
        ys.length = i ∧ (∀ (j : Nat) (y : Int) (b : Int × Int), ys[j]? = some y → bnds[j]? = some b → b.1 ≤ y ∧ y ≤ b.2) ∧ H' p8 = some (.lst (.ref D5 :: .int room :: ys.map V.int)) ∧ SX [s, p8] G5 H' ∧ Src H' s)
        ⟨[], _, _, _, rfl, rfl, fun j y b h _ => by simp at h, hp80, SX.refl, _, _, _, hs5'⟩ ?_ ?_ ?_⟩
      · rintro i σ H' _ ⟨ys, v1, v2, v3, _, _, _, _, f, _⟩
        exact SqL.of (f _ _ (by simp [q5p, q5s]) u5)
      · rintro i x σ H' hx ⟨ys, v1, v2, v3, rfl, hl', hb', hp', f, hs'⟩
        obtain ⟨q, b, rfl, hbi, b1, b2, b3, hq⟩ := tb i x hx
        obtain ⟨qa, qb⟩ := qs _ _ hq
        have hq' := f _ _ (by simp [qa, qb]) hq
        walk_at "rd"
        refine ⟨.inl ⟨rfl, _, SqL.of hp'⟩, ?_⟩
        walk_at "rd"
        refine use_draw (by omega) (by omega) hs' fun i9 H9 i9a i9b s9 hs9 => ?_
        walk_at "rd"
        intro pA nA
        generalize eHA : upd _ pA _ = HA
        obtain ⟨sA, hpA⟩ := gen_new nA eHA
        clear eHA
        walk_at "rd"
        obtain ⟨a9, b9, c9, hs90⟩ := id hs9
        have nA' : pA ≠ s := (ne_of_none hs90 nA).symm
        refine use_pick hpA nA' (by walk_at "sd") ⟨_, _, _, sA _ _ hs90⟩ fun v HB hv sB hsB => ?_
        obtain ⟨y, rfl, y0, y1⟩ : ∃ y : Int, v = .int y ∧ b.1 ≤ y ∧ y ≤ b.2 := by
          simp only [List.mem_cons, List.mem_nil_iff, or_false] at hv
          rcases hv with rfl | rfl | rfl
          · exact ⟨_, rfl, by omega, by omega⟩
          · exact ⟨_, rfl, by omega, by omega⟩
          · exact ⟨_, rfl, by omega, by omega⟩
        walk_at "rd"
        have hpB := sB _ _ np8 (sA _ _ (s9 _ _ np8 hp'))
        obtain ⟨aB, bB, cB, hsB0⟩ := id hsB
        refine ⟨_, _, _, rfl, rfl, hpB, szlt (by simp; have := (List.getElem?_eq_some_iff.mp hx).1; simp at this; omega), ?_⟩
        refine ⟨ys ++ [y], _, _, _, rfl, by rw [List.length_append, hl']; rfl, ?_, by rw [upd_same, List.map_append]; rfl, (((f.trans (s9.sx (by simp))).trans sA.sx).trans (sB.sx (by simp))).upd (by simp), aB, bB, cB, by rw [upd_ne np8.symm]; exact hsB0⟩
        intro j z c hz hc
        by_cases hj : j < ys.length
        · rw [List.getElem?_append_left hj] at hz
          exact hb' j z c hz hc
        · rw [List.getElem?_append_right (by omega)] at hz
          have hj2 : j - ys.length = 0 := by
            by_cases h0 : j - ys.length = 0
            · exact h0
            · rw [List.getElem?_eq_none (by simp; omega)] at hz; cases hz
          rw [hj2] at hz
          cases hz
          have : j = i := by omega
          subst this
          rw [hbi] at hc
          cases hc
          exact ⟨y0, y1⟩
      · rintro σ H' ⟨ys, v1, v2, v3, rfl, hl', hb', hp', f, hs'⟩
        walk_at "rd"
        have hl4 : ys.length = 4 := hl'
        match ys, hl4, hb', hp' with
        | [y1, y2, y3, y4], _, hb', hp' =>
        have g1 := hb' 0 y1 _ rfl rfl
        have g2 := hb' 1 y2 _ rfl rfl
        have g3 := hb' 2 y3 _ rfl rfl
        have g4 := hb' 3 y4 _ rfl rfl
        have hD8 := s8 _ _ hD
        have nDp : D5 ≠ p8 := ne_of_none hD n8
        have hDE := f _ _ (by simp [nDp, nD]) (s85 _ _ hD8)
        refine k p8 H' ⟨lens, room, y1, y2, y3, y4⟩ ?_ hs' ⟨by show 0 < lens.length; omega, by show lens.length ≤ 6; omega, hb, r0, r1, g1, g2, g3, g4⟩ ⟨D5, hp', hDE⟩ ?_
        · intro c o hc ho
          have o7 := f70 c o hc ho
          exact f c o (by simp [hc, ne_of_none o7 n8]) (s85 _ _ (s8 _ _ o7))
        · exact fun H'' e => ⟨D5, e _ _ np8 hp', e _ _ nD hDE⟩

@[irreducible] def sp_is_integer : Sp := fun vs H Q _ => ∃ i : Int, vs = [.int i] ∧ Q (.bl true) H
theorem use_isint {i : Int} {H : Hp} {Q : VK} {E : XK} (q : Q (.bl true) H) : sp_is_integer [.int i] H Q E := by unfold sp_is_integer; exact ⟨i, rfl, q⟩
theorem b_is_integer {K : PySem.W.Frag} {fd : FuncData} (F : F_is_integer K fd) : Binds K fd P_is_integer [] := FunD.bindsN F fun _ _ _ _ _ _ us hl => match us, hl with | [_], _ => rfl
theorem ok_is_integer (T : Txt K mg D) : FnOk P w K mg base CX0 1 (He.fAd K ("is_integer", none)) (D D_is_integer) P_is_integer sp_is_integer := by
  refine T.d_is_integer.ok sc_is_integer (fun vs H Q E h => ?_) (fun cdv A outer s H vs Q E hr h => ?_)
  · unfold sp_is_integer at h
    first | (obtain ⟨rfl, _⟩ := h; rfl) | (obtain ⟨_, rfl, _⟩ := h; rfl) | (obtain ⟨_, _, rfl, _⟩ := h; rfl) | (obtain ⟨_, _, _, rfl, _⟩ := h; rfl) | (obtain ⟨_, _, _, _, rfl, _⟩ := h; rfl) | (obtain ⟨_, _, _, _, _, rfl, _⟩ := h; rfl) | (obtain ⟨_, _, _, _, _, _, rfl, _⟩ := h; rfl) | (obtain ⟨_, _, _, _, _, _, _, rfl, _⟩ := h; rfl) | (obtain ⟨_, _, _, _, _, _, _, _, rfl, _⟩ := h; rfl) | (obtain ⟨_, _, _, _, _, _, _, _, _, rfl, _⟩ := h; rfl) | (obtain ⟨_, _, _, _, _, _, _, _, _, _, rfl, _⟩ := h; rfl) | (obtain ⟨_, _, _, _, _, _, _, _, _, _, _, rfl, _⟩ := h; rfl)
  · refine ⟨_, PSs.nox (pss_one (ps_ret (pe_and (pe_callB (call_isiK2 (K := K)) (by rfl) T.n_isinstance (by decide +kernel) (pa_cons (pv 0) (pa_cons (pe_bltn (by rfl) T.n_int (by decide +kernel) (v := .ty "int") rfl) pa_nil))) (pe_one (pe_not (pe_callB (call_isiK2 (K := K)) (by rfl) T.n_isinstance (by decide +kernel) (pa_cons (pv 0) (pa_cons (pe_bltn (by rfl) T.n_bool (by decide +kernel) (v := .ty "bool") rfl) pa_nil)))))))), ?_⟩
    unfold sp_is_integer at h
    obtain ⟨i, rfl, q⟩ := h
    walk_at "rd"
    refine isi_int ?_
    walk_at "rd"
    refine isi_bool ?_
    walk_at "rd"
    exact q

@[irreducible] def sp_is_between : Sp := fun vs H Q _ => ∃ i lo hi : Int, vs = [.int i, .int lo, .int hi] ∧ Q (.bl (decide (lo ≤ i ∧ i ≤ hi))) H
theorem use_between {i lo hi : Int} {H : Hp} {Q : VK} {E : XK} (q : Q (.bl (decide (lo ≤ i ∧ i ≤ hi))) H) : sp_is_between [.int i, .int lo, .int hi] H Q E := by unfold sp_is_between; exact ⟨i, lo, hi, rfl, q⟩
theorem b_is_between {K : PySem.W.Frag} {fd : FuncData} (F : F_is_between K fd) : Binds K fd P_is_between [] := FunD.bindsN F fun _ _ _ _ _ _ us hl => match us, hl with | [_, _, _], _ => rfl
theorem ok_is_between (T : Txt K mg D) : FnOk P w K mg base CX0 2 (He.fAd K ("is_between", none)) (D D_is_between) P_is_between sp_is_between := by
  refine T.d_is_between.ok sc_is_between (fun vs H Q E h => ?_) (fun cdv A outer s H vs Q E hr h => ?_)
  · unfold sp_is_between at h
    first | (obtain ⟨rfl, _⟩ := h; rfl) | (obtain ⟨_, rfl, _⟩ := h; rfl) | (obtain ⟨_, _, rfl, _⟩ := h; rfl) | (obtain ⟨_, _, _, rfl, _⟩ := h; rfl) | (obtain ⟨_, _, _, _, rfl, _⟩ := h; rfl) | (obtain ⟨_, _, _, _, _, rfl, _⟩ := h; rfl) | (obtain ⟨_, _, _, _, _, _, rfl, _⟩ := h; rfl) | (obtain ⟨_, _, _, _, _, _, _, rfl, _⟩ := h; rfl) | (obtain ⟨_, _, _, _, _, _, _, _, rfl, _⟩ := h; rfl) | (obtain ⟨_, _, _, _, _, _, _, _, _, rfl, _⟩ := h; rfl) | (obtain ⟨_, _, _, _, _, _, _, _, _, _, rfl, _⟩ := h; rfl) | (obtain ⟨_, _, _, _, _, _, _, _, _, _, _, rfl, _⟩ := h; rfl)
  · refine ⟨_, PSs.nox (pss_one (ps_ret (pe_and (pe_call (ok_is_integer T) (hr.mono (by decide)) rfl T.g_is_integer T.d_is_integer.kp (b_is_integer T.d_is_integer) .nil pass0 (pa_cons (pv 0) pa_nil)) (pe_one (pe_chain op_le op_le (pv 1) (pv 0) (pv 2)))))), ?_⟩
    unfold sp_is_between at h
    obtain ⟨i, lo, hi, rfl, q⟩ := h
    walk_at "rd"
    refine use_isint ?_
    walk_at "rd"
    refine iteB (fun c => ?_) (fun c => ?_)
    · have c := of_decide_eq_true c
      walk_at "rd"
      have e : decide (i ≤ hi) = decide (lo ≤ i ∧ i ≤ hi) := by simp [c]
      show Q (.bl (decide (i ≤ hi))) H
      rw [e]
      exact q
    · have c := of_decide_eq_false c
      have e : false = decide (lo ≤ i ∧ i ≤ hi) := by simp [c]
      show Q (.bl false) H
      rw [e]
      exact q

@[irreducible] def sp_check_part : Sp := fun vs H Q _ => ∃ (x : Str) (i lo hi : Int), vs = [.str x, .int i, .int lo, .int hi] ∧ (lo ≤ i ∧ i ≤ hi) ∧ Q .non H
theorem use_check_part {x : Str} {i lo hi : Int} {H : Hp} {Q : VK} {E : XK} (h : lo ≤ i ∧ i ≤ hi) (q : Q .non H) : sp_check_part [.str x, .int i, .int lo, .int hi] H Q E := by unfold sp_check_part; exact ⟨x, i, lo, hi, rfl, h, q⟩
theorem b_check_part {K : PySem.W.Frag} {fd : FuncData} (F : F_check_part K fd) : Binds K fd P_check_part [] := FunD.bindsN F fun _ _ _ _ _ _ us hl => match us, hl with | [_, _, _, _], _ => rfl
theorem ok_check_part (T : Txt K mg D) : FnOk P w K mg base CX0 3 (He.fAd K ("check_part", none)) (D D_check_part) P_check_part sp_check_part := by
  refine T.d_check_part.ok sc_check_part (fun vs H Q E h => ?_) (fun cdv A outer s H vs Q E hr h => ?_)
  · unfold sp_check_part at h
    first | (obtain ⟨rfl, _⟩ := h; rfl) | (obtain ⟨_, rfl, _⟩ := h; rfl) | (obtain ⟨_, _, rfl, _⟩ := h; rfl) | (obtain ⟨_, _, _, rfl, _⟩ := h; rfl) | (obtain ⟨_, _, _, _, rfl, _⟩ := h; rfl) | (obtain ⟨_, _, _, _, _, rfl, _⟩ := h; rfl) | (obtain ⟨_, _, _, _, _, _, rfl, _⟩ := h; rfl) | (obtain ⟨_, _, _, _, _, _, _, rfl, _⟩ := h; rfl) | (obtain ⟨_, _, _, _, _, _, _, _, rfl, _⟩ := h; rfl) | (obtain ⟨_, _, _, _, _, _, _, _, _, rfl, _⟩ := h; rfl) | (obtain ⟨_, _, _, _, _, _, _, _, _, _, rfl, _⟩ := h; rfl) | (obtain ⟨_, _, _, _, _, _, _, _, _, _, _, rfl, _⟩ := h; rfl)
  · refine ⟨_, PSs.nox (pss_one (ps_if (pt_not (pt_val (pe_call (ok_is_between T) (hr.mono (by decide)) rfl T.g_is_between T.d_is_between.kp (b_is_between T.d_is_between) .nil pass0 (pa_cons (pv 1) (pa_cons (pv 2) (pa_cons (pv 3) pa_nil)))))) (pss_one ps_never) pss_nil)), ?_⟩
    unfold sp_check_part at h
    obtain ⟨x, i, lo, hi, rfl, h, q⟩ := h
    walk_at "rd"
    refine use_between ?_
    rw [decide_eq_true h]
    walk_at "rd"
    exact q

/-- settings stand at a -/
def SetAt (K : PySem.W.Frag) (H : Hp) (a : Addr) (p : Prt) : Prop := ∃ dx t, H a = some (.ins (He.ga K "Settings") dx [("lengths", .ref t), ("size", .int p.size), ("fanout", .int p.fan), ("records", .int p.rec_), ("every", .int p.every), ("keep", .int p.keep)]) ∧ H t = some (.tup (p.lens.map V.int))
theorem SetAt.same {K : PySem.W.Frag} {H H' : Hp} {a : Addr} {p : Prt} (h : SetAt K H a p) (s : Same H H') : SetAt K H' a p := let ⟨dx, l, h1, h2⟩ := h; ⟨dx, l, s _ _ h1, s _ _ h2⟩
@[irreducible] def sp_Settings_init (K : PySem.W.Frag) : Sp := fun vs H Q _ => ∃ (a dx l : Addr) (p : Prt), vs = [.ref a, .ref l, .int p.size, .int p.fan, .int p.rec_, .int p.every, .int p.keep] ∧
  H a = some (.ins (He.ga K "Settings") dx []) ∧ H l = some (.lst (p.lens.map V.int)) ∧ p.Ok ∧ ∀ H', SB a H H' → SetAt K H' a p → Q .non H'
theorem use_set_init {K : PySem.W.Frag} {a dx l : Addr} {p : Prt} {H : Hp} {Q : VK} {E : XK} (ha : H a = some (.ins (He.ga K "Settings") dx [])) (hl : H l = some (.lst (p.lens.map V.int))) (ok : p.Ok) (k : ∀ H', SB a H H' → SetAt K H' a p → Q .non H') :
  sp_Settings_init K [.ref a, .ref l, .int p.size, .int p.fan, .int p.rec_, .int p.every, .int p.keep] H Q E := by unfold sp_Settings_init; exact ⟨a, dx, l, p, rfl, ha, hl, ok, k⟩
theorem b_Settings___init__ {K : PySem.W.Frag} {fd : FuncData} (F : F_Settings___init__ K fd) : KBn K fd P_Settings___init__ 3 ["fanout", "records", "every", "keep"] (fun us ws => us ++ ws) (fun vs zs => vs ++ zs) := kb_app F 3 ["fanout", "records", "every", "keep"] fun _ _ _ _ _ _ us ws h1 h2 => match us, ws, h1, h2 with | [_, _, _], [_, _, _, _], _, _ => rfl
theorem ok_Settings___init__ (T : Txt K mg D) : FnOk P w K mg base CX0 4 (He.fAd K ("Settings", some "__init__")) (D D_Settings___init__) P_Settings___init__ (sp_Settings_init K) := by
  refine T.d_Settings___init__.ok sc_Settings___init__ (fun vs H Q E h => ?_) (fun cdv A outer s H vs Q E hr h => ?_)
  · unfold sp_Settings_init at h
    first | (obtain ⟨rfl, _⟩ := h; rfl) | (obtain ⟨_, rfl, _⟩ := h; rfl) | (obtain ⟨_, _, rfl, _⟩ := h; rfl) | (obtain ⟨_, _, _, rfl, _⟩ := h; rfl) | (obtain ⟨_, _, _, _, rfl, _⟩ := h; rfl) | (obtain ⟨_, _, _, _, _, rfl, _⟩ := h; rfl) | (obtain ⟨_, _, _, _, _, _, rfl, _⟩ := h; rfl) | (obtain ⟨_, _, _, _, _, _, _, rfl, _⟩ := h; rfl) | (obtain ⟨_, _, _, _, _, _, _, _, rfl, _⟩ := h; rfl) | (obtain ⟨_, _, _, _, _, _, _, _, _, rfl, _⟩ := h; rfl) | (obtain ⟨_, _, _, _, _, _, _, _, _, _, rfl, _⟩ := h; rfl) | (obtain ⟨_, _, _, _, _, _, _, _, _, _, _, rfl, _⟩ := h; rfl)
  · refine ⟨_, PSs.nox (pss_cons (ps_if (PW.pt (pw_or (pt_not (pt_val (pe_callB (call_isiK2 (K := K)) (by rfl) T.n_isinstance (by decide +kernel) (pa_cons (pv 1) (pa_cons (pe_bltn (by rfl) T.n_list (by decide +kernel) (v := .ty "list") rfl) pa_nil))))) (pw_or1 (pt_not (pt_chain op_le op_le pe_int (pe_callB (call_lenK (K := K)) (by rfl) T.n_len (by decide +kernel) (pa_cons (pv 1) pa_nil)) (pe_globi T.i_MOST_LENGTHS)))))) (pss_one ps_never) pss_nil)
      (pss_cons (ps_for PassesOwn.never rfl (pi_list (pv 1)) (pg_name (i := 7) sc_Settings___init__.nd rfl (Or.inl rfl)) (pss_one (ps_expr (pe_call (ok_check_part T) (hr.mono (by decide)) rfl T.g_check_part T.d_check_part.kp (b_check_part T.d_check_part) .nil pass0 (pa_cons pe_str (pa_cons (pv 7) (pa_cons pe_int (pa_cons (pe_globi T.i_MOST_SIZE) pa_nil))))))))
      (pss_cons (ps_expr (pe_call (ok_check_part T) (hr.mono (by decide)) rfl T.g_check_part T.d_check_part.kp (b_check_part T.d_check_part) .nil pass0 (pa_cons pe_str (pa_cons (pv 2) (pa_cons (pe_callB (cr_maxK (K := K) rfl) (by rfl) T.n_max (by decide +kernel) (pa_cons (pv 1) pa_nil)) (pa_cons (pe_globi T.i_MOST_SIZE) pa_nil))))))
      (pss_cons (ps_expr (pe_call (ok_check_part T) (hr.mono (by decide)) rfl T.g_check_part T.d_check_part.kp (b_check_part T.d_check_part) .nil pass0 (pa_cons pe_str (pa_cons (pv 3) (pa_cons pe_int (pa_cons (pe_globi T.i_MOST_FANOUT) pa_nil))))))
      (pss_cons (ps_expr (pe_call (ok_check_part T) (hr.mono (by decide)) rfl T.g_check_part T.d_check_part.kp (b_check_part T.d_check_part) .nil pass0 (pa_cons pe_str (pa_cons (pv 4) (pa_cons pe_int (pa_cons (pe_globi T.i_MOST_RECORDS) pa_nil))))))
      (pss_cons (ps_expr (pe_call (ok_check_part T) (hr.mono (by decide)) rfl T.g_check_part T.d_check_part.kp (b_check_part T.d_check_part) .nil pass0 (pa_cons pe_str (pa_cons (pv 5) (pa_cons pe_int (pa_cons (pe_globi T.i_MOST_EVERY) pa_nil))))))
      (pss_cons (ps_expr (pe_call (ok_check_part T) (hr.mono (by decide)) rfl T.g_check_part T.d_check_part.kp (b_check_part T.d_check_part) .nil pass0 (pa_cons pe_str (pa_cons (pv 6) (pa_cons pe_int (pa_cons (pe_globi T.i_MOST_KEEP) pa_nil))))))
      (pss_cons (ps_fld (pv 0) (pe_callTy (call_tupK (K := K)) (by rfl) T.n_tuple (by decide +kernel) (pa_cons (pv 1) pa_nil)) rfl)
      (pss_cons (ps_fld (pv 0) (pv 2) rfl)
      (pss_cons (ps_fld (pv 0) (pv 3) rfl)
      (pss_cons (ps_fld (pv 0) (pv 4) rfl)
      (pss_cons (ps_fld (pv 0) (pv 5) rfl)
      (pss_one (ps_fld (pv 0) (pv 6) rfl)))))))))))))), ?_⟩
    unfold sp_Settings_init at h
    obtain ⟨a, dx, l, p, rfl, ha, hl, ok, k⟩ := h
    walk_at "rd"
    refine isi_list hl ?_
    walk_at "rd"
    have l0 := ok.l0
    have l1 := ok.l1
    refine iteT_of (decide_eq_true (by rw [List.length_map]; omega)) ?_
    walk_at "rd"
    refine iteF_of (by rw [decide_eq_true (by rw [List.length_map]; omega)]; rfl) ?_
    walk_at "rd"
    refine for_list (xs := p.lens.map V.int) (fun i σ H' => H' = H ∧ ∃ v : Option V, σ = [some (.ref a), some (.ref l), some (.int p.size), some (.int p.fan), some (.int p.rec_), some (.int p.every), some (.int p.keep), v]) ⟨rfl, _, rfl⟩ ?_ ?_ ?_
    · rintro i σ H' _ ⟨rfl, _⟩
      exact SqL.of hl
    · rintro i x σ H' hx ⟨rfl, v, rfl⟩
      obtain ⟨z, hz, rfl⟩ := map_some hx
      have hb := ok.le z (List.mem_of_getElem? hz)
      have s1 := ok.s1
      walk_at "rd"
      refine use_check_part (by omega) ?_
      walk_at "rd"
      exact ⟨_, rfl⟩
    · rintro σ H' ⟨rfl, v, rfl⟩
      walk_at "rd"
      refine ⟨_, _, rfl, SqL.of hl, ok.l0, fun m hm _ => ?_⟩
      have hb := ok.le m hm
      have s1 := ok.s1
      walk_at "rd"
      refine use_check_part (by omega) ?_
      walk_at "rd"
      refine use_check_part ok.f ?_
      walk_at "rd"
      refine use_check_part ok.r ?_
      walk_at "rd"
      refine use_check_part ok.e ?_
      walk_at "rd"
      refine use_check_part ok.k ?_
      walk_at "rd"
      refine ⟨_, _, rfl, .inl ⟨SqL.of hl, ?_⟩⟩
      intro t n0
      generalize eG0 : upd _ t _ = G0
      obtain ⟨g0, ht⟩ := gen_new n0 eG0
      clear eG0
      have ha0 := g0 _ _ ha
      have nta : t ≠ a := (ne_of_none ha n0).symm
      walk_at "rd"
      generalize eG1 : upd _ _ _ = G1
      obtain ⟨g1, h1⟩ := gen_st eG1
      clear eG1
      try simp only [pf_Settings_0, pf_Settings_1, pf_Settings_2, pf_Settings_3, pf_Settings_4, pf_Settings_5] at h1
      walk_at "rd"
      generalize eG2 : upd _ _ _ = G2
      obtain ⟨g2, h2⟩ := gen_st eG2
      clear eG2
      try simp only [pf_Settings_0, pf_Settings_1, pf_Settings_2, pf_Settings_3, pf_Settings_4, pf_Settings_5] at h2
      walk_at "rd"
      generalize eG3 : upd _ _ _ = G3
      obtain ⟨g3, h3⟩ := gen_st eG3
      clear eG3
      try simp only [pf_Settings_0, pf_Settings_1, pf_Settings_2, pf_Settings_3, pf_Settings_4, pf_Settings_5] at h3
      walk_at "rd"
      generalize eG4 : upd _ _ _ = G4
      obtain ⟨g4, h4⟩ := gen_st eG4
      clear eG4
      try simp only [pf_Settings_0, pf_Settings_1, pf_Settings_2, pf_Settings_3, pf_Settings_4, pf_Settings_5] at h4
      walk_at "rd"
      generalize eG5 : upd _ _ _ = G5
      obtain ⟨g5, h5⟩ := gen_st eG5
      clear eG5
      try simp only [pf_Settings_0, pf_Settings_1, pf_Settings_2, pf_Settings_3, pf_Settings_4, pf_Settings_5] at h5
      walk_at "rd"
      generalize eG6 : upd _ _ _ = G6
      obtain ⟨g6, h6⟩ := gen_st eG6
      clear eG6
      try simp only [pf_Settings_0, pf_Settings_1, pf_Settings_2, pf_Settings_3, pf_Settings_4, pf_Settings_5] at h6
      refine k G6 ((((((g0.sb.trans g1).trans g2).trans g3).trans g4).trans g5).trans g6) ⟨dx, t, ?_, (((((g1.trans g2).trans g3).trans g4).trans g5).trans g6) _ _ nta ht⟩
      exact h6

@[irreducible] def sp_law_settings (K : PySem.W.Frag) : Sp := fun vs H Q _ => ∃ (a : Addr) (p : Prt), vs = [.ref a] ∧ PrtAt H a p ∧ p.Ok ∧ ∀ b H', H b = none → Same H H' → SetAt K H' b p → Q (.ref b) H'
theorem use_settings {K : PySem.W.Frag} {a : Addr} {p : Prt} {H : Hp} {Q : VK} {E : XK} (h : PrtAt H a p) (ok : p.Ok) (k : ∀ b H', H b = none → Same H H' → SetAt K H' b p → Q (.ref b) H') : sp_law_settings K [.ref a] H Q E := by
  unfold sp_law_settings; exact ⟨a, p, rfl, h, ok, k⟩
theorem b_law_settings {K : PySem.W.Frag} {fd : FuncData} (F : F_law_settings K fd) : Binds K fd P_law_settings [] := FunD.bindsN F fun _ _ _ _ _ _ us hl => match us, hl with | [_], _ => rfl
theorem ok_law_settings (T : Txt K mg D) : FnOk P w K mg base CX0 6 (He.fAd K ("_law_settings", none)) (D D_law_settings) P_law_settings (sp_law_settings K) := by
  refine T.d_law_settings.ok sc_law_settings (fun vs H Q E h => ?_) (fun cdv A outer s H vs Q E hr h => ?_)
  · unfold sp_law_settings at h
    first | (obtain ⟨rfl, _⟩ := h; rfl) | (obtain ⟨_, rfl, _⟩ := h; rfl) | (obtain ⟨_, _, rfl, _⟩ := h; rfl) | (obtain ⟨_, _, _, rfl, _⟩ := h; rfl) | (obtain ⟨_, _, _, _, rfl, _⟩ := h; rfl) | (obtain ⟨_, _, _, _, _, rfl, _⟩ := h; rfl) | (obtain ⟨_, _, _, _, _, _, rfl, _⟩ := h; rfl) | (obtain ⟨_, _, _, _, _, _, _, rfl, _⟩ := h; rfl) | (obtain ⟨_, _, _, _, _, _, _, _, rfl, _⟩ := h; rfl) | (obtain ⟨_, _, _, _, _, _, _, _, _, rfl, _⟩ := h; rfl) | (obtain ⟨_, _, _, _, _, _, _, _, _, _, rfl, _⟩ := h; rfl) | (obtain ⟨_, _, _, _, _, _, _, _, _, _, _, rfl, _⟩ := h; rfl)
  · refine ⟨_, PSs.nox (pss_one (ps_ret (pe_makeK T.mk_Settings (ok_Settings___init__ T) (hr.mono (by decide)) rfl T.g_Settings (b_Settings___init__ T.d_Settings___init__) pass0 (pa_cons (pe_ix (ix_listK (K := K)) (pv 0) pe_int (fun _ _ => rfl)) (pa_cons (pe_ix (ix_listK (K := K)) (pv 0) pe_int (fun _ _ => rfl)) pa_nil)) (pk_cons (pe_ix (ix_listK (K := K)) (pv 0) pe_int (fun _ _ => rfl)) (pk_cons (pe_ix (ix_listK (K := K)) (pv 0) pe_int (fun _ _ => rfl)) (pk_cons (pe_ix (ix_listK (K := K)) (pv 0) pe_int (fun _ _ => rfl)) (pk_cons (pe_ix (ix_listK (K := K)) (pv 0) pe_int (fun _ _ => rfl)) pk_nil))))))), ?_⟩
    unfold sp_law_settings at h
    obtain ⟨a, p, rfl, ⟨l, ha, hl⟩, ok, k⟩ := h
    walk_at "rd"
    intro b dx n ndb neb
    generalize eG : upd (upd _ dx _) b _ = G
    obtain ⟨s, c⟩ := gen_mk n ndb eG
    clear eG
    refine use_set_init c (s _ _ hl) ok fun H2 s2 st => ?_
    walk_at "rd"
    exact k b H2 n (same_sb_new s s2 n) st

/-! ### how rows stand on pages: the numbers -/
def lenAt (p : Prt) (r : Nat) : Int := p.lens.getD (r % p.lens.length) 0
def usum (p : Prt) (r : Nat) : Nat → Int
  | 0 => 0
  | k + 1 => usum p r k + lenAt p (r + k)
theorem lenAt_ok {p : Prt} (ok : p.Ok) (r : Nat) : 1 ≤ lenAt p r ∧ lenAt p r ≤ p.size := by
  have h : r % p.lens.length < p.lens.length := Nat.mod_lt _ ok.l0
  unfold lenAt
  rw [List.getD_eq_getElem?_getD, List.getElem?_eq_getElem h]
  exact ok.le _ (List.getElem_mem h)
theorem usum_ge {p : Prt} (ok : p.Ok) (r : Nat) : ∀ k : Nat, (k : Int) ≤ usum p r k
  | 0 => by simp [usum]
  | k + 1 => by
    have h := usum_ge ok r k
    have h2 := (lenAt_ok ok (r + k)).1
    simp only [usum]
    omega
theorem usum_mono {p : Prt} (ok : p.Ok) (r : Nat) {j k : Nat} (h : j ≤ k) : usum p r j ≤ usum p r k := by
  induction k with
  | zero => have : j = 0 := by omega
            subst this; exact Int.le_refl _
  | succ k ih =>
    by_cases e : j = k + 1
    · subst e; exact Int.le_refl _
    · have h2 := (lenAt_ok ok (r + k)).1
      have h3 := ih (by omega)
      simp only [usum]
      omega
/-- so many rows fit on a page that begins with row r -/
def Fits (p : Prt) (r k : Nat) : Prop := usum p r k ≤ p.size ∧ p.size < usum p r (k + 1)
theorem Fits.uniq {p : Prt} (ok : p.Ok) {r j k : Nat} (a : Fits p r j) (b : Fits p r k) : j = k := by
  by_cases h : j < k
  · have := usum_mono ok r (show j + 1 ≤ k by omega)
    have := a.2; have := b.1; omega
  · by_cases h2 : k < j
    · have := usum_mono ok r (show k + 1 ≤ j by omega)
      have := b.2; have := a.1; omega
    · omega
theorem Fits.le {p : Prt} (ok : p.Ok) {r k : Nat} (a : Fits p r k) : k ≤ 64 := by
  have h1 := usum_ge ok r k
  have h2 := a.1
  have h3 := ok.s1
  omega
theorem Fits.pos {p : Prt} (ok : p.Ok) {r k : Nat} (a : Fits p r k) : 1 ≤ k := by
  match k, a with
  | 0, a =>
    have h := a.2
    simp only [usum] at h
    have := (lenAt_ok ok (r + 0)).2
    omega
  | k + 1, _ => omega
theorem fits_ex {p : Prt} (ok : p.Ok) (r : Nat) : ∃ k, Fits p r k := by
  have key : ∀ n : Nat, (∃ k, Fits p r k) ∨ usum p r n ≤ p.size := by
    intro n
    induction n with
    | zero => right; simp only [usum]; have := ok.s0; omega
    | succ n ih =>
      rcases ih with h | h
      · exact .inl h
      · by_cases e : usum p r (n + 1) ≤ p.size
        · exact .inr e
        · exact .inl ⟨n, h, by omega⟩
  rcases key 65 with h | h
  · exact h
  · have h1 := usum_ge ok r 65
    have h3 := ok.s1
    omega
/-- how many rows a page that begins with row r gets -/
noncomputable def rowsF (p : Prt) (r : Nat) : Nat := open Classical in if h : ∃ k, Fits p r k then h.choose else 1
theorem rowsF_ok {p : Prt} (ok : p.Ok) (r : Nat) : Fits p r (rowsF p r) := by
  unfold rowsF
  rw [dif_pos (fits_ex ok r)]
  exact (fits_ex ok r).choose_spec
theorem rowsF_eq {p : Prt} (ok : p.Ok) {r k : Nat} (h : Fits p r k) : rowsF p r = k := (rowsF_ok ok r).uniq ok h
theorem rowsF_le {p : Prt} (ok : p.Ok) (r : Nat) : rowsF p r ≤ 64 := (rowsF_ok ok r).le ok
theorem rowsF_pos {p : Prt} (ok : p.Ok) (r : Nat) : 1 ≤ rowsF p r := (rowsF_ok ok r).pos ok
theorem lenAt_mod {p : Prt} {r q : Nat} (h : r % p.lens.length = q % p.lens.length) (i : Nat) : lenAt p (r + i) = lenAt p (q + i) := by
  unfold lenAt
  rw [Nat.add_mod, h, ← Nat.add_mod]
theorem usum_mod {p : Prt} {r q : Nat} (h : r % p.lens.length = q % p.lens.length) : ∀ k, usum p r k = usum p q k
  | 0 => rfl
  | k + 1 => by simp only [usum]; rw [usum_mod h k, lenAt_mod h]
theorem rowsF_mod {p : Prt} (ok : p.Ok) {r q : Nat} (h : r % p.lens.length = q % p.lens.length) : rowsF p r = rowsF p q := by
  refine rowsF_eq ok ?_
  have := rowsF_ok ok q
  unfold Fits at this ⊢
  rw [usum_mod h, usum_mod h]
  exact this
/-- the first row of heap page n -/
noncomputable def startN (p : Prt) : Nat → Nat
  | 0 => 0
  | n + 1 => startN p n + rowsF p (startN p n)
/-! ### the cycle -/
theorem pigeon : ∀ (L n : Nat) (f : Nat → Nat), (∀ i, i < n → f i < L) → (∀ i j, i < j → j < n → f i ≠ f j) → n ≤ L
  | 0, n, f, h, _ => by
    match n with
    | 0 => exact Nat.le_refl 0
    | n + 1 => exact absurd (h 0 (by omega)) (by omega)
  | L + 1, 0, f, _, _ => Nat.zero_le _
  | L + 1, m + 1, f, h, inj => by
    have key := pigeon L m (fun i => if f i = L then f m else f i) (fun i hi => by
      have h1 := h i (by omega)
      have h2 := h m (by omega)
      have h3 := inj i m hi (by omega)
      show (if f i = L then f m else f i) < L
      split <;> omega) (fun i j hij hj => by
      have h3 := inj i j hij (by omega)
      have h4 := inj i m (by omega) (by omega)
      have h5 := inj j m hj (by omega)
      show (if f i = L then f m else f i) ≠ (if f j = L then f m else f j)
      split <;> split <;> omega)
    omega
noncomputable def resN (p : Prt) (n : Nat) : Nat := startN p n % p.lens.length
theorem resN_lt {p : Prt} (ok : p.Ok) (n : Nat) : resN p n < p.lens.length := Nat.mod_lt _ ok.l0
structure Cyc (p : Prt) (first pages : Nat) : Prop where
  pos : 0 < pages
  eq : resN p (first + pages) = resN p first
  inj : ∀ i j, i < j → j < first + pages → resN p i ≠ resN p j
theorem Cyc.le {p : Prt} (ok : p.Ok) {first pages : Nat} (c : Cyc p first pages) : first + pages ≤ 6 :=
  Nat.le_trans (pigeon p.lens.length (first + pages) (resN p) (fun i _ => resN_lt ok i) c.inj) ok.l1
noncomputable def stL (p : Prt) (n : Nat) : List V := (List.range (n + 1)).map fun j => V.int (startN p j)
theorem stL_succ (p : Prt) (n : Nat) : stL p (n + 1) = stL p n ++ [.int (startN p (n + 1))] := by
  unfold stL
  rw [List.range_succ, List.map_append]
  rfl
theorem stL_len (p : Prt) (n : Nat) : (stL p n).length = n + 1 := by unfold stL; rw [List.length_map, List.length_range]
theorem stL_get (p : Prt) {n j : Nat} (h : j ≤ n) : (stL p n)[j]? = some (.int (startN p j)) := by
  unfold stL
  rw [List.getElem?_map, List.getElem?_range (by omega)]
  rfl
theorem stL_last (p : Prt) (n : Nat) : atI (stL p n) (-1) = some (.int (startN p n)) := by
  match n with
  | 0 => exact atI_last [] _
  | n + 1 => rw [stL_succ]; exact atI_last _ _
/-- what the seen places' dict holds -/
def Seen (p : Prt) (n : Nat) (kvs : List (Key × V)) : Prop := kvs.length ≤ n ∧ (∀ j, j < n → valV kvs (.inl (resN p j : Int)) = some (.int j)) ∧ ∀ k : Int, valV kvs (.inl k) ≠ none → ∃ j, j < n ∧ k = (resN p j : Int)
theorem Seen.put {p : Prt} {n : Nat} {kvs : List (Key × V)} (s : Seen p n kvs) (h : valV kvs (.inl (resN p n : Int)) = none) : Seen p (n + 1) (putK kvs (.inl (resN p n : Int)) (.int n)) := by
  obtain ⟨s1, s2, s3⟩ := s
  refine ⟨Nat.le_trans (length_putK _ _ _) (by omega), fun j hj => ?_, fun k hk => ?_⟩
  · rw [valV_put]
    by_cases e : (Sum.inl (resN p j : Int) : Key) = Sum.inl (resN p n : Int)
    · rw [if_pos e]
      by_cases hjn : j = n
      · subst hjn; rfl
      · have := s2 j (by omega)
        rw [e, h] at this
        cases this
    · rw [if_neg e]
      have hjn : j ≠ n := fun z => e (by rw [z])
      exact s2 j (by omega)
  · rw [valV_put] at hk
    by_cases e : (Sum.inl k : Key) = Sum.inl (resN p n : Int)
    · exact ⟨n, by omega, Sum.inl.inj e⟩
    · rw [if_neg e] at hk
      obtain ⟨j, hj, ej⟩ := s3 k hk
      exact ⟨j, by omega, ej⟩
theorem at_len {p : Prt} (ok : p.Ok) (r : Nat) : atI (p.lens.map V.int) ((r : Int) % ((p.lens.map V.int).length : Int)) = some (.int (lenAt p r)) := by
  have hlt : r % p.lens.length < p.lens.length := Nat.mod_lt _ ok.l0
  refine atI_int (j := r % p.lens.length) ?_ ?_
  · rw [List.length_map]
    exact (Int.natCast_emod r p.lens.length).symm
  · rw [List.getElem?_map, List.getElem?_eq_getElem hlt]
    unfold lenAt
    rw [List.getD_eq_getElem?_getD, List.getElem?_eq_getElem hlt]
    rfl
theorem mlen0 {p : Prt} (ok : p.Ok) : (0 : Int) < ((p.lens.map V.int).length : Int) := by rw [List.length_map]; have := ok.l0; omega
theorem res_step {p : Prt} (ok : p.Ok) {i j : Nat} (h : resN p i = resN p j) : resN p (i + 1) = resN p (j + 1) := by
  unfold resN at h ⊢
  simp only [startN]
  rw [rowsF_mod ok h, Nat.add_mod, h, ← Nat.add_mod]
theorem res_add {p : Prt} (ok : p.Ok) {i j : Nat} (h : resN p i = resN p j) : ∀ k, resN p (i + k) = resN p (j + k)
  | 0 => h
  | k + 1 => res_step ok (res_add ok h k)
theorem Cyc.per {p : Prt} (ok : p.Ok) {first pages : Nat} (c : Cyc p first pages) {n : Nat} (h : first ≤ n) : resN p (n + pages) = resN p n := by
  have e := res_add ok c.eq (n - first)
  have e1 : first + pages + (n - first) = n + pages := by omega
  have e2 : first + (n - first) = n := by omega
  rw [e1, e2] at e
  exact e
theorem Cyc.red {p : Prt} (ok : p.Ok) {first pages : Nat} (c : Cyc p first pages) : ∀ n, first ≤ n → ∃ r, first ≤ r ∧ r < first + pages ∧ resN p n = resN p r := by
  intro n
  induction n using Nat.strongRecOn with
  | ind n ih =>
    intro h
    by_cases hl : n < first + pages
    · exact ⟨n, h, hl, rfl⟩
    · have hp := c.pos
      obtain ⟨r, h1, h2, h3⟩ := ih (n - pages) (by omega) (by omega)
      refine ⟨r, h1, h2, ?_⟩
      have := c.per ok (n := n - pages) (by omega)
      rw [show n - pages + pages = n by omega] at this
      rw [this, h3]
theorem Cyc.before {p : Prt} (ok : p.Ok) {first pages : Nat} (c : Cyc p first pages) {f g : Nat} (h : f < first) (hg : 1 ≤ g) : resN p f ≠ resN p (f + g) := by
  by_cases hl : f + g < first + pages
  · exact c.inj f (f + g) (by omega) hl
  · obtain ⟨r, h1, h2, h3⟩ := c.red ok (f + g) (by have := c.pos; omega)
    rw [h3]
    exact c.inj f r (by omega) h2
theorem Cyc.less {p : Prt} {first pages : Nat} (c : Cyc p first pages) {g : Nat} (hg : 1 ≤ g) (h : g < pages) : resN p first ≠ resN p (first + g) := c.inj _ _ (by omega) (by omega)
/-! ### far pages -/
theorem start_lt {p : Prt} (ok : p.Ok) (n : Nat) : startN p n < startN p (n + 1) := by
  have := rowsF_pos ok (startN p n)
  simp only [startN]
  omega
theorem start_mono {p : Prt} (ok : p.Ok) {m n : Nat} (h : m ≤ n) : startN p m ≤ startN p n := by
  induction n with
  | zero => have : m = 0 := by omega
            subst this; exact Nat.le_refl _
  | succ n ih =>
    by_cases e : m = n + 1
    · subst e; exact Nat.le_refl _
    · exact Nat.le_trans (ih (by omega)) (Nat.le_of_lt (start_lt ok n))
theorem start_ge {p : Prt} (ok : p.Ok) : ∀ n : Nat, n ≤ startN p n
  | 0 => Nat.zero_le _
  | n + 1 => by have := start_ge ok n; have := start_lt ok n; omega
noncomputable def rowsC (p : Prt) (first pages : Nat) : Nat := startN p (first + pages) - startN p first
theorem rowsC_pos {p : Prt} (ok : p.Ok) {first pages : Nat} (c : Cyc p first pages) : 0 < rowsC p first pages := by
  have h1 := start_lt ok first
  have h2 := start_mono ok (show first + 1 ≤ first + pages by have := c.pos; omega)
  unfold rowsC
  omega
theorem start_le {p : Prt} (ok : p.Ok) : ∀ n, startN p n ≤ 64 * n
  | 0 => Nat.le_refl _
  | n + 1 => by have := start_le ok n; have := rowsF_le ok (startN p n); simp only [startN]; omega
theorem rowsC_le {p : Prt} (ok : p.Ok) {first pages : Nat} (c : Cyc p first pages) : rowsC p first pages ≤ 384 := by
  have h1 := start_le ok (first + pages)
  have h2 := c.le ok
  unfold rowsC
  omega
theorem start_per {p : Prt} (ok : p.Ok) {first pages : Nat} (c : Cyc p first pages) {n : Nat} (h : first ≤ n) : startN p (n + pages) = startN p n + rowsC p first pages := by
  have key : ∀ k, startN p (first + k + pages) = startN p (first + k) + rowsC p first pages := by
    intro k
    induction k with
    | zero =>
      have := start_mono ok (show first ≤ first + pages by omega)
      show startN p (first + pages) = startN p first + (startN p (first + pages) - startN p first)
      omega
    | succ k ih =>
      have e : rowsF p (startN p (first + k + pages)) = rowsF p (startN p (first + k)) := rowsF_mod ok (c.per ok (n := first + k) (by omega))
      have e1 : first + (k + 1) + pages = (first + k + pages) + 1 := by omega
      rw [e1]
      simp only [startN]
      rw [e, ih]
      show startN p (first + k) + rowsC p first pages + rowsF p (startN p (first + k)) = startN p (first + k) + rowsF p (startN p (first + k)) + rowsC p first pages
      omega
  have := key (n - first)
  rw [show first + (n - first) = n by omega] at this
  exact this
theorem start_times {p : Prt} (ok : p.Ok) {first pages : Nat} (c : Cyc p first pages) {n : Nat} (h : first ≤ n) : ∀ t, startN p (n + t * pages) = startN p n + t * rowsC p first pages
  | 0 => by simp
  | t + 1 => by
    have e : n + (t + 1) * pages = n + t * pages + pages := by rw [Nat.succ_mul]; omega
    rw [e, start_per ok c (by omega), start_times ok c h t, Nat.succ_mul]
    omega
/-- row r stands on page n -/
def On (p : Prt) (r n : Nat) : Prop := startN p n ≤ r ∧ r < startN p (n + 1)
theorem On.uniq {p : Prt} (ok : p.Ok) {r m n : Nat} (a : On p r m) (b : On p r n) : m = n := by
  by_cases h : m < n
  · have := start_mono ok (show m + 1 ≤ n by omega)
    have := a.2; have := b.1; omega
  · by_cases h2 : n < m
    · have := start_mono ok (show n + 1 ≤ m by omega)
      have := b.2; have := a.1; omega
    · omega
theorem On.le {p : Prt} (ok : p.Ok) {r n : Nat} (a : On p r n) : n ≤ r := Nat.le_trans (start_ge ok n) a.1
def pkMeths : List Str := ["length", "rows_from", "start", "holder", "check_page", "units_of", "first_row", "page_of", "rows_on", "units_on", "units_left", "begun", "cycle"]
/-- a Packing, as far as its first fields go -/
structure PkB (K : PySem.W.Frag) (H : Hp) (a : Addr) (p : Prt) (dx : Addr) (fs : List (Str × V)) (t : Addr) : Prop where
  h : H a = some (.ins (He.ga K "Packing") dx fs)
  l : fs.lookup ("row_lengths" : Str) = some (V.ref t)
  r : fs.lookup ("room" : Str) = some (V.int p.size)
  m : ∀ x ∈ pkMeths, fs.lookup x = none
  t : H t = some (.tup (p.lens.map V.int))
def PkBase (K : PySem.W.Frag) (H : Hp) (a : Addr) (p : Prt) : Prop := ∃ dx fs t, PkB K H a p dx fs t
theorem PkBase.same {K : PySem.W.Frag} {H H' : Hp} {a : Addr} {p : Prt} (h : PkBase K H a p) (s : Same H H') : PkBase K H' a p := let ⟨dx, fs, t, b⟩ := h; ⟨dx, fs, t, s _ _ b.h, b.l, b.r, b.m, s _ _ b.t⟩
@[irreducible] def sp_Packing_length (K : PySem.W.Frag) : Sp := fun vs H Q _ => ∃ (a : Addr) (p : Prt) (r : Nat), vs = [.ref a, .int r] ∧ PkBase K H a p ∧ p.Ok ∧ Q (.int (lenAt p r)) H
theorem use_length {K : PySem.W.Frag} {a : Addr} {p : Prt} {r : Nat} {H : Hp} {Q : VK} {E : XK} {i : Int} (hi : i = (r : Int)) (b : PkBase K H a p) (ok : p.Ok) (q : Q (.int (lenAt p r)) H) : sp_Packing_length K [.ref a, .int i] H Q E := by
  subst hi; unfold sp_Packing_length; exact ⟨a, p, r, rfl, b, ok, q⟩
@[irreducible] def sp_Packing_rows_from (K : PySem.W.Frag) : Sp := fun vs H Q _ => ∃ (a : Addr) (p : Prt) (r : Nat), vs = [.ref a, .int r] ∧ PkBase K H a p ∧ p.Ok ∧ ∀ H', Same H H' → Q (.int (rowsF p r)) H'
theorem use_rows_from {K : PySem.W.Frag} {a : Addr} {p : Prt} {r : Nat} {H : Hp} {Q : VK} {E : XK} {i : Int} (hi : i = (r : Int)) (b : PkBase K H a p) (ok : p.Ok) (q : ∀ H', Same H H' → Q (.int (rowsF p r)) H') : sp_Packing_rows_from K [.ref a, .int i] H Q E := by
  subst hi; unfold sp_Packing_rows_from; exact ⟨a, p, r, rfl, b, ok, q⟩
@[irreducible] def sp_check_settings (K : PySem.W.Frag) : Sp := fun vs H Q _ => ∃ (a dx : Addr) (fs : List (Str × V)), vs = [.ref a] ∧ H a = some (.ins (He.ga K "Settings") dx fs) ∧ Q .non H
theorem use_check_settings {K : PySem.W.Frag} {a dx : Addr} {fs : List (Str × V)} {H : Hp} {Q : VK} {E : XK} (h : H a = some (.ins (He.ga K "Settings") dx fs)) (q : Q .non H) : sp_check_settings K [.ref a] H Q E := by
  unfold sp_check_settings; exact ⟨a, dx, fs, rfl, h, q⟩
/-- a whole Packing -/
def PkAt (K : PySem.W.Frag) (H : Hp) (a : Addr) (p : Prt) (first pages : Nat) : Prop := ∃ dx t l, H a = some (.ins (He.ga K "Packing") dx [("row_lengths", .ref t), ("room", .int p.size), ("starts", .ref l), ("first", .int first), ("pages", .int pages), ("rows", .int ((startN p (first + pages) : Int) - startN p first))]) ∧
  H t = some (.tup (p.lens.map V.int)) ∧ H l = some (.lst (stL p (first + pages)))
theorem PkAt.same {K : PySem.W.Frag} {H H' : Hp} {a : Addr} {p : Prt} {first pages : Nat} (h : PkAt K H a p first pages) (s : Same H H') : PkAt K H' a p first pages := let ⟨dx, t, l, h1, h2, h3⟩ := h; ⟨dx, t, l, s _ _ h1, s _ _ h2, s _ _ h3⟩
@[irreducible] def sp_Packing_init (K : PySem.W.Frag) : Sp := fun vs H Q _ => ∃ (a dx b : Addr) (p : Prt), vs = [.ref a, .ref b] ∧ H a = some (.ins (He.ga K "Packing") dx []) ∧ SetAt K H b p ∧ p.Ok ∧
  ∀ H' first pages, SB a H H' → Cyc p first pages → PkAt K H' a p first pages → (∀ s xs H'', H s = some (.lst xs) → SB s H' H'' → PkAt K H'' a p first pages) → Q .non H'
theorem use_packing_init {K : PySem.W.Frag} {a dx b : Addr} {p : Prt} {H : Hp} {Q : VK} {E : XK} (h : H a = some (.ins (He.ga K "Packing") dx [])) (hb : SetAt K H b p) (ok : p.Ok)
  (k : ∀ H' first pages, SB a H H' → Cyc p first pages → PkAt K H' a p first pages → (∀ s xs H'', H s = some (.lst xs) → SB s H' H'' → PkAt K H'' a p first pages) → Q .non H') : sp_Packing_init K [.ref a, .ref b] H Q E := by
  unfold sp_Packing_init; exact ⟨a, dx, b, p, rfl, h, hb, ok, k⟩
@[irreducible] def sp_Packing_start (K : PySem.W.Frag) : Sp := fun vs H Q _ => ∃ (a : Addr) (p : Prt) (first pages n : Nat), vs = [.ref a, .int n] ∧ PkAt K H a p first pages ∧ p.Ok ∧ Cyc p first pages ∧ ∀ H', Same H H' → Q (.int (startN p n)) H'
theorem use_start {K : PySem.W.Frag} {a : Addr} {p : Prt} {first pages n : Nat} {H : Hp} {Q : VK} {E : XK} {i : Int} (hi : i = (n : Int)) (h : PkAt K H a p first pages) (ok : p.Ok) (c : Cyc p first pages) (k : ∀ H', Same H H' → Q (.int (startN p n)) H') :
  sp_Packing_start K [.ref a, .int i] H Q E := by subst hi; unfold sp_Packing_start; exact ⟨a, p, first, pages, n, rfl, h, ok, c, k⟩
@[irreducible] def sp_Packing_holder (K : PySem.W.Frag) : Sp := fun vs H Q _ => ∃ (a : Addr) (p : Prt) (first pages r : Nat), vs = [.ref a, .int r] ∧ PkAt K H a p first pages ∧ p.Ok ∧ Cyc p first pages ∧ ∀ n H', On p r n → Same H H' → Q (.int n) H'
theorem use_holder {K : PySem.W.Frag} {a : Addr} {p : Prt} {first pages r : Nat} {H : Hp} {Q : VK} {E : XK} {i : Int} (hi : i = (r : Int)) (h : PkAt K H a p first pages) (ok : p.Ok) (c : Cyc p first pages) (k : ∀ n H', On p r n → Same H H' → Q (.int n) H') :
  sp_Packing_holder K [.ref a, .int i] H Q E := by subst hi; unfold sp_Packing_holder; exact ⟨a, p, first, pages, r, rfl, h, ok, c, k⟩
/-- the first row of the cycle that is like row r, and how many cycles lie between -/
theorem near_of {p : Prt} (ok : p.Ok) {first pages : Nat} (c : Cyc p first pages) (r : Nat) : ∃ t near, r = near + t * rowsC p first pages ∧ near < startN p (first + pages) ∧ (t = 0 ∨ startN p first ≤ near) ∧
    (startN p first ≤ r → t = (r - startN p first) / rowsC p first pages) ∧ (r < startN p first → t = 0) := by
  have h1 := rowsC_pos ok c
  have h2 := start_mono ok (show first ≤ first + pages by omega)
  have er : rowsC p first pages = startN p (first + pages) - startN p first := rfl
  by_cases h : startN p first ≤ r
  · refine ⟨(r - startN p first) / rowsC p first pages, startN p first + (r - startN p first) % rowsC p first pages, ?_, ?_, .inr (by omega), fun _ => rfl, fun z => by omega⟩
    · have := Nat.mod_add_div (r - startN p first) (rowsC p first pages)
      rw [Nat.mul_comm] at this
      omega
    · have := Nat.mod_lt (r - startN p first) h1
      omega
  · exact ⟨0, r, by omega, by omega, .inl rfl, fun z => absurd z h, fun _ => rfl⟩
theorem par6 {A B : Option V} {x y : Int} (h : x = y) {l : List (Option V)} : A :: B :: some (V.int x) :: l = A :: B :: some (V.int y) :: l := by subst h; rfl
@[irreducible] def sp_check_row : Sp := fun vs H Q _ => ∃ i m : Int, vs = [.int i, .int m] ∧ (0 ≤ i ∧ i ≤ m - 1) ∧ Q .non H
theorem use_check_row {i m : Int} {H : Hp} {Q : VK} {E : XK} (h : 0 ≤ i ∧ i ≤ m - 1) (q : Q .non H) : sp_check_row [.int i, .int m] H Q E := by unfold sp_check_row; exact ⟨i, m, rfl, h, q⟩
theorem b_check_row_1 {K : PySem.W.Frag} {fd : FuncData} (F : F_check_row K fd) : ∃ ds, Vals [.int (1000000000000000000000000000000)] ds ∧ Binds K fd P_check_row ds := FunD.binds1 F 1 0 (by intro z; cases z) rfl fun _ _ _ _ _ _ _ us its h1 h2 => match us, its, h1, h2 with | [_], [_], _, _ => ⟨_, rfl, rfl⟩
theorem b_check_row_2 {K : PySem.W.Frag} {fd : FuncData} (F : F_check_row K fd) : ∃ ds, Vals [] ds ∧ Binds K fd P_check_row ds := FunD.binds1 F 2 1 (by intro z; cases z) rfl fun _ _ _ _ _ _ _ us its h1 h2 => match us, its, h1, h2 with | [_, _], [_], _, _ => ⟨_, rfl, rfl⟩
theorem ok_check_row (T : Txt K mg D) : FnOk P w K mg base CX0 3 (He.fAd K ("check_row", none)) (D D_check_row) P_check_row sp_check_row := by
  refine T.d_check_row.ok sc_check_row (fun vs H Q E h => ?_) (fun cdv A outer s H vs Q E hr h => ?_)
  · unfold sp_check_row at h
    first | (obtain ⟨rfl, _⟩ := h; rfl) | (obtain ⟨_, rfl, _⟩ := h; rfl) | (obtain ⟨_, _, rfl, _⟩ := h; rfl) | (obtain ⟨_, _, _, rfl, _⟩ := h; rfl) | (obtain ⟨_, _, _, _, rfl, _⟩ := h; rfl) | (obtain ⟨_, _, _, _, _, rfl, _⟩ := h; rfl) | (obtain ⟨_, _, _, _, _, _, rfl, _⟩ := h; rfl) | (obtain ⟨_, _, _, _, _, _, _, rfl, _⟩ := h; rfl) | (obtain ⟨_, _, _, _, _, _, _, _, rfl, _⟩ := h; rfl) | (obtain ⟨_, _, _, _, _, _, _, _, _, rfl, _⟩ := h; rfl) | (obtain ⟨_, _, _, _, _, _, _, _, _, _, rfl, _⟩ := h; rfl) | (obtain ⟨_, _, _, _, _, _, _, _, _, _, _, rfl, _⟩ := h; rfl)
  · refine ⟨_, PSs.nox (pss_one (ps_if (pt_not (pt_val (pe_call (ok_is_between T) (hr.mono (by decide)) rfl T.g_is_between T.d_is_between.kp (b_is_between T.d_is_between) .nil pass0 (pa_cons (pv 0) (pa_cons pe_int (pa_cons (pe_op op_sub (pv 1) pe_int) pa_nil)))))) (pss_one ps_never) pss_nil)), ?_⟩
    unfold sp_check_row at h
    obtain ⟨i, m, rfl, h, q⟩ := h
    walk_at "rd"
    refine use_between ?_
    rw [decide_eq_true h]
    walk_at "rd"
    exact q

@[irreducible] def sp_check_moment : Sp := fun vs H Q _ => ∃ i : Int, vs = [.int i] ∧ (0 ≤ i ∧ i ≤ 1000000000000000000000000000000) ∧ Q .non H
theorem use_check_moment {i : Int} {H : Hp} {Q : VK} {E : XK} (h : 0 ≤ i ∧ i ≤ 1000000000000000000000000000000) (q : Q .non H) : sp_check_moment [.int i] H Q E := by unfold sp_check_moment; exact ⟨i, rfl, h, q⟩
@[irreducible] def sp_Packing_check_page (K : PySem.W.Frag) : Sp := fun vs H Q _ => ∃ (a : Addr) (p : Prt) (first pages n : Nat), vs = [.ref a, .int n] ∧ PkAt K H a p first pages ∧ p.Ok ∧ Cyc p first pages ∧ startN p n < 1000000000000000000000000000000 ∧ ∀ H', Same H H' → Q .non H'
theorem use_check_page {K : PySem.W.Frag} {a : Addr} {p : Prt} {first pages n : Nat} {H : Hp} {Q : VK} {E : XK} {i : Int} (hi : i = (n : Int)) (h : PkAt K H a p first pages) (ok : p.Ok) (c : Cyc p first pages) (hn : startN p n < 1000000000000000000000000000000)
  (k : ∀ H', Same H H' → Q .non H') : sp_Packing_check_page K [.ref a, .int i] H Q E := by subst hi; unfold sp_Packing_check_page; exact ⟨a, p, first, pages, n, rfl, h, ok, c, hn, k⟩
@[irreducible] def sp_Packing_units_of (K : PySem.W.Frag) : Sp := fun vs H Q _ => ∃ (a : Addr) (p : Prt) (r k : Nat), vs = [.ref a, .int r, .int ((r : Int) + k)] ∧ PkBase K H a p ∧ p.Ok ∧ k ≤ 1000 ∧ ∀ H', Same H H' → Q (.int (usum p r k)) H'
theorem use_units_of {K : PySem.W.Frag} {a : Addr} {p : Prt} {r k : Nat} {H : Hp} {Q : VK} {E : XK} {i j : Int} (hi : i = (r : Int)) (hj : j = (r : Int) + k) (h : PkBase K H a p) (ok : p.Ok) (hk : k ≤ 1000) (q : ∀ H', Same H H' → Q (.int (usum p r k)) H') :
  sp_Packing_units_of K [.ref a, .int i, .int j] H Q E := by subst hi hj; unfold sp_Packing_units_of; exact ⟨a, p, r, k, rfl, h, ok, hk, q⟩
def lensL (p : Prt) (r k : Nat) : List Int := (List.range k).map fun i => lenAt p (r + i)
theorem lensL_succ (p : Prt) (r k : Nat) : lensL p r (k + 1) = lensL p r k ++ [lenAt p (r + k)] := by
  unfold lensL
  rw [List.range_succ, List.map_append]
  rfl
theorem lensL_sum (p : Prt) (r : Nat) : ∀ k, (lensL p r k).sum = usum p r k
  | 0 => rfl
  | k + 1 => by rw [lensL_succ, List.sum_append, lensL_sum p r k]; simp [usum]
theorem pk_base {K : PySem.W.Frag} {H : Hp} {a : Addr} {p : Prt} {first pages : Nat} (h : PkAt K H a p first pages) : PkBase K H a p := by
  obtain ⟨dx, t, l, h1, h2, h3⟩ := h
  exact ⟨dx, _, t, h1, by kernel_rfl, by kernel_rfl, none_all (by kernel_rfl), h2⟩
theorem ne_eq {i j : Int} {A B : Prop} (h : i = j) (b : B) : if (!decide (V.int i = V.int j)) = true then A else B := by
  subst h
  rw [decide_eq_true rfl]
  exact iteF b
@[irreducible] def sp_Packing_page_of (K : PySem.W.Frag) : Sp := fun vs H Q _ => ∃ (a : Addr) (p : Prt) (first pages r : Nat), vs = [.ref a, .int r] ∧ PkAt K H a p first pages ∧ p.Ok ∧ Cyc p first pages ∧ r < 1000000000000000000000000000000 ∧ ∀ n H', On p r n → Same H H' → Q (.int n) H'
theorem use_page_of {K : PySem.W.Frag} {a : Addr} {p : Prt} {first pages r : Nat} {H : Hp} {Q : VK} {E : XK} {i : Int} (hi : i = (r : Int)) (h : PkAt K H a p first pages) (ok : p.Ok) (c : Cyc p first pages) (hr : r < 1000000000000000000000000000000)
  (k : ∀ n H', On p r n → Same H H' → Q (.int n) H') : sp_Packing_page_of K [.ref a, .int i] H Q E := by subst hi; unfold sp_Packing_page_of; exact ⟨a, p, first, pages, r, rfl, h, ok, c, hr, k⟩
@[irreducible] def sp_Packing_begun (K : PySem.W.Frag) : Sp := fun vs H Q _ => ∃ (a : Addr) (p : Prt) (first pages r : Nat), vs = [.ref a, .int r] ∧ PkAt K H a p first pages ∧ p.Ok ∧ Cyc p first pages ∧ r ≤ 1000000000000000000000000000000 ∧
  (r = 0 → ∀ H', Same H H' → Q (.int 0) H') ∧ ∀ n H', 0 < r → On p (r - 1) n → Same H H' → Q (.int ((n : Int) + 1)) H'
theorem use_begun {K : PySem.W.Frag} {a : Addr} {p : Prt} {first pages r : Nat} {H : Hp} {Q : VK} {E : XK} {i : Int} (hi : i = (r : Int)) (h : PkAt K H a p first pages) (ok : p.Ok) (c : Cyc p first pages) (hr : r ≤ 1000000000000000000000000000000)
  (k0 : r = 0 → ∀ H', Same H H' → Q (.int 0) H') (k : ∀ n H', 0 < r → On p (r - 1) n → Same H H' → Q (.int ((n : Int) + 1)) H') : sp_Packing_begun K [.ref a, .int i] H Q E := by subst hi; unfold sp_Packing_begun; exact ⟨a, p, first, pages, r, rfl, h, ok, c, hr, k0, k⟩
@[irreducible] def sp_Packing_first_row (K : PySem.W.Frag) : Sp := fun vs H Q _ => ∃ (a : Addr) (p : Prt) (first pages n : Nat), vs = [.ref a, .int n] ∧ PkAt K H a p first pages ∧ p.Ok ∧ Cyc p first pages ∧ startN p n < 1000000000000000000000000000000 ∧ ∀ H', Same H H' → Q (.int (startN p n)) H'
theorem use_first_row {K : PySem.W.Frag} {a : Addr} {p : Prt} {first pages n : Nat} {H : Hp} {Q : VK} {E : XK} {i : Int} (hi : i = (n : Int)) (h : PkAt K H a p first pages) (ok : p.Ok) (c : Cyc p first pages) (hn : startN p n < 1000000000000000000000000000000)
  (k : ∀ H', Same H H' → Q (.int (startN p n)) H') : sp_Packing_first_row K [.ref a, .int i] H Q E := by subst hi; unfold sp_Packing_first_row; exact ⟨a, p, first, pages, n, rfl, h, ok, c, hn, k⟩
@[irreducible] def sp_Packing_rows_on (K : PySem.W.Frag) : Sp := fun vs H Q _ => ∃ (a : Addr) (p : Prt) (first pages n : Nat), vs = [.ref a, .int n] ∧ PkAt K H a p first pages ∧ p.Ok ∧ Cyc p first pages ∧ startN p n < 1000000000000000000000000000000 ∧ ∀ H', Same H H' → Q (.int (rowsF p (startN p n))) H'
theorem use_rows_on {K : PySem.W.Frag} {a : Addr} {p : Prt} {first pages n : Nat} {H : Hp} {Q : VK} {E : XK} {i : Int} (hi : i = (n : Int)) (h : PkAt K H a p first pages) (ok : p.Ok) (c : Cyc p first pages) (hn : startN p n < 1000000000000000000000000000000)
  (k : ∀ H', Same H H' → Q (.int (rowsF p (startN p n))) H') : sp_Packing_rows_on K [.ref a, .int i] H Q E := by subst hi; unfold sp_Packing_rows_on; exact ⟨a, p, first, pages, n, rfl, h, ok, c, hn, k⟩
@[irreducible] def sp_Packing_units_on (K : PySem.W.Frag) : Sp := fun vs H Q _ => ∃ (a : Addr) (p : Prt) (first pages n : Nat), vs = [.ref a, .int n] ∧ PkAt K H a p first pages ∧ p.Ok ∧ Cyc p first pages ∧ startN p n < 1000000000000000000000000000000 ∧ ∀ H', Same H H' → Q (.int (usum p (startN p n) (rowsF p (startN p n)))) H'
theorem use_units_on {K : PySem.W.Frag} {a : Addr} {p : Prt} {first pages n : Nat} {H : Hp} {Q : VK} {E : XK} {i : Int} (hi : i = (n : Int)) (h : PkAt K H a p first pages) (ok : p.Ok) (c : Cyc p first pages) (hn : startN p n < 1000000000000000000000000000000)
  (k : ∀ H', Same H H' → Q (.int (usum p (startN p n) (rowsF p (startN p n)))) H') : sp_Packing_units_on K [.ref a, .int i] H Q E := by subst hi; unfold sp_Packing_units_on; exact ⟨a, p, first, pages, n, rfl, h, ok, c, hn, k⟩
@[irreducible] def sp_Packing_units_left (K : PySem.W.Frag) : Sp := fun vs H Q _ => ∃ (a : Addr) (p : Prt) (first pages r : Nat), vs = [.ref a, .int r] ∧ PkAt K H a p first pages ∧ p.Ok ∧ Cyc p first pages ∧ r < 1000000000000000000000000000000 ∧
  ∀ n H', On p r n → Same H H' → Q (.int (p.size - usum p (startN p n) (r + 1 - startN p n))) H'
theorem use_units_left {K : PySem.W.Frag} {a : Addr} {p : Prt} {first pages r : Nat} {H : Hp} {Q : VK} {E : XK} {i : Int} (hi : i = (r : Int)) (h : PkAt K H a p first pages) (ok : p.Ok) (c : Cyc p first pages) (hr : r < 1000000000000000000000000000000)
  (k : ∀ n H', On p r n → Same H H' → Q (.int (p.size - usum p (startN p n) (r + 1 - startN p n))) H') : sp_Packing_units_left K [.ref a, .int i] H Q E := by subst hi; unfold sp_Packing_units_left; exact ⟨a, p, first, pages, r, rfl, h, ok, c, hr, k⟩
theorem begun_start {p : Prt} (ok : p.Ok) {N n : Nat} (h0 : 0 < startN p N) (on : On p (startN p N - 1) n) : n + 1 = N := by
  match N, h0, on with
  | 0, h0, _ => exact absurd h0 (by simp [startN])
  | m + 1, _, on =>
    have := start_lt ok m
    have : n = m := on.uniq ok ⟨by omega, by omega⟩
    omega
theorem bl_eq {i j : Int} {Q : VK} {H : Hp} (h : i = j) (q : Q (.bl true) H) : Q (.bl (decide (V.int i = V.int j))) H := by
  subst h
  rw [decide_eq_true rfl]
  exact q
theorem use_begun_start {K : PySem.W.Frag} {a : Addr} {p : Prt} {first pages N : Nat} {H : Hp} {Q : VK} {E : XK} {i : Int} (hi : i = (startN p N : Int)) (h : PkAt K H a p first pages) (ok : p.Ok) (c : Cyc p first pages) (hr : startN p N ≤ 1000000000000000000000000000000)
  (k : ∀ H', Same H H' → Q (.int N) H') : sp_Packing_begun K [.ref a, .int i] H Q E := by
  refine use_begun (r := startN p N) hi h ok c hr (fun h0 G g => ?_) fun n G h0 on g => ?_
  · have hN0 : N = 0 := by have := start_ge ok N; omega
    have q := k G g
    rw [hN0] at q
    exact q
  · have e := begun_start ok h0 on
    have q := k G g
    rw [← e] at q
    exact q
def Prt.rest (p : Prt) : List Int := [p.size, p.fan, p.rec_, p.every, p.keep]
theorem prt_eq {p q : Prt} : p = q ↔ p.lens = q.lens ∧ p.rest = q.rest := by
  constructor
  · intro h; subst h; exact ⟨rfl, rfl⟩
  · intro ⟨h1, h2⟩
    obtain ⟨a, b, c, d, e, f⟩ := p
    obtain ⟨a2, b2, c2, d2, e2, f2⟩ := q
    simp only [Prt.rest, List.cons.injEq, and_true] at h1 h2
    obtain ⟨h2, h3, h4, h5, h6⟩ := h2
    subst h1 h2 h3 h4 h5 h6
    rfl
theorem dep_mix {d : PyData} (h : PyData.depth d ≤ 60) (xs : List Int) : PyData.depthAll (d :: pyi xs) ≤ 60 := by
  show max (PyData.depth d) (PyData.depthAll (pyi xs)) ≤ 60
  rw [dep_ints]
  omega
theorem nb_mixA {d : PyData} (h : nbD d = true) (xs : List Int) : nbA (d :: pyi xs) = true := by
  show (nbD d && nbA (pyi xs)) = true
  rw [h, nb_ints xs]
  rfl
theorem dep_l (xs : List Int) : PyData.depth (.list (pyi xs)) ≤ 60 := by show PyData.depthAll (pyi xs) + 1 ≤ 60; rw [dep_ints]; decide
theorem dep_t (xs : List Int) : PyData.depth (.tuple (pyi xs)) ≤ 60 := by show PyData.depthAll (pyi xs) + 1 ≤ 60; rw [dep_ints]; decide
theorem nb_dt (l : List Int) : nbD (.tuple (pyi l)) = true := nb_ints l
theorem nb_dl (l : List Int) : nbD (.list (pyi l)) = true := nb_ints l
theorem nb_mixL {d : PyData} (h : nbD d = true) (h1 : PyData.depth d ≤ 60) (xs : List Int) : NB (.list (d :: pyi xs)) := ⟨nb_mixA h xs, by show PyData.depthAll (d :: pyi xs) + 1 ≤ 64; have := dep_mix h1 xs; omega⟩
theorem nb_mixT {d : PyData} (h : nbD d = true) (h1 : PyData.depth d ≤ 60) (xs : List Int) : NB (.tuple (d :: pyi xs)) := ⟨nb_mixA h xs, by show PyData.depthAll (d :: pyi xs) + 1 ≤ 64; have := dep_mix h1 xs; omega⟩
theorem mix_TT {l m xs ys : List Int} : PyData.tuple (.tuple (pyi l) :: pyi xs) = PyData.tuple (.tuple (pyi m) :: pyi ys) ↔ l = m ∧ xs = ys :=
  ⟨fun h => by injection h with h; injection h with h1 h2; injection h1 with h1; exact ⟨ints_inj h1, ints_inj h2⟩, fun ⟨h1, h2⟩ => by rw [h1, h2]⟩
theorem mix_LL {l m xs ys : List Int} : PyData.list (.list (pyi l) :: pyi xs) = PyData.list (.list (pyi m) :: pyi ys) ↔ l = m ∧ xs = ys :=
  ⟨fun h => by injection h with h; injection h with h1 h2; injection h1 with h1; exact ⟨ints_inj h1, ints_inj h2⟩, fun ⟨h1, h2⟩ => by rw [h1, h2]⟩
@[irreducible] def sp_Settings_parts (K : PySem.W.Frag) : Sp := fun vs H Q _ => ∃ (a : Addr) (p : Prt), vs = [.ref a] ∧ SetAt K H a p ∧
  ∀ q t H', H q = none → Same H H' → H' q = some (.tup (.ref t :: p.rest.map V.int)) → H' t = some (.tup (p.lens.map V.int)) → Q (.ref q) H'
theorem use_set_parts {K : PySem.W.Frag} {a : Addr} {p : Prt} {H : Hp} {Q : VK} {E : XK} (h : SetAt K H a p) (k : ∀ q t H', H q = none → Same H H' → H' q = some (.tup (.ref t :: p.rest.map V.int)) → H' t = some (.tup (p.lens.map V.int)) → Q (.ref q) H') :
  sp_Settings_parts K [.ref a] H Q E := by unfold sp_Settings_parts; exact ⟨a, p, rfl, h, k⟩
theorem b_Settings_parts {K : PySem.W.Frag} {fd : FuncData} (F : F_Settings_parts K fd) : Binds K fd P_Settings_parts [] := FunD.bindsN F fun _ _ _ _ _ _ us hl => match us, hl with | [_], _ => rfl
theorem ok_Settings_parts (T : Txt K mg D) : FnOk P w K mg base CX0 1 (He.fAd K ("Settings", some "parts")) (D D_Settings_parts) P_Settings_parts (sp_Settings_parts K) := by
  refine T.d_Settings_parts.ok sc_Settings_parts (fun vs H Q E h => ?_) (fun cdv A outer s H vs Q E hr h => ?_)
  · unfold sp_Settings_parts at h
    first | (obtain ⟨rfl, _⟩ := h; rfl) | (obtain ⟨_, rfl, _⟩ := h; rfl) | (obtain ⟨_, _, rfl, _⟩ := h; rfl) | (obtain ⟨_, _, _, rfl, _⟩ := h; rfl) | (obtain ⟨_, _, _, _, rfl, _⟩ := h; rfl) | (obtain ⟨_, _, _, _, _, rfl, _⟩ := h; rfl) | (obtain ⟨_, _, _, _, _, _, rfl, _⟩ := h; rfl) | (obtain ⟨_, _, _, _, _, _, _, rfl, _⟩ := h; rfl) | (obtain ⟨_, _, _, _, _, _, _, _, rfl, _⟩ := h; rfl) | (obtain ⟨_, _, _, _, _, _, _, _, _, rfl, _⟩ := h; rfl) | (obtain ⟨_, _, _, _, _, _, _, _, _, _, rfl, _⟩ := h; rfl) | (obtain ⟨_, _, _, _, _, _, _, _, _, _, _, rfl, _⟩ := h; rfl)
  · refine ⟨_, PSs.nox (pss_one (ps_ret (pe_tup (pa_cons (pe_fldK (K := K) (pv 0) rfl) (pa_cons (pe_fldK (K := K) (pv 0) rfl) (pa_cons (pe_fldK (K := K) (pv 0) rfl) (pa_cons (pe_fldK (K := K) (pv 0) rfl) (pa_cons (pe_fldK (K := K) (pv 0) rfl) (pa_cons (pe_fldK (K := K) (pv 0) rfl) pa_nil))))))))), ?_⟩
    unfold sp_Settings_parts at h
    obtain ⟨a, p, rfl, ⟨dx, t, h1, h2⟩, k⟩ := h
    walk_at "rd"
    intro q n
    generalize eG : upd _ q _ = G
    obtain ⟨g, c⟩ := gen_new n eG
    clear eG
    exact k q t G n g c (g _ _ h2)

/-- a plain value, a list or a tuple -/
def NoSet (K : PySem.W.Frag) (H : Hp) (y : V) : Prop := (∃ i, y = .int i) ∨ (∃ b xs, y = .ref b ∧ H b = some (.lst xs)) ∨ (∃ b xs, y = .ref b ∧ H b = some (.tup xs))
@[irreducible] def sp_Settings_eq (K : PySem.W.Frag) : Sp := fun vs H Q _ => ∃ (a : Addr) (y : V) (p : Prt), vs = [.ref a, y] ∧ SetAt K H a p ∧
  ((∃ b q, y = .ref b ∧ SetAt K H b q ∧ ∀ c H', (c = true ↔ p = q) → Same H H' → Q (.bl c) H') ∨ (NoSet K H y ∧ Q (.bl false) H))
theorem use_set_eq {K : PySem.W.Frag} {a b : Addr} {p q : Prt} {H : Hp} {Q : VK} {E : XK} (h : SetAt K H a p) (h2 : SetAt K H b q) (k : ∀ c H', (c = true ↔ p = q) → Same H H' → Q (.bl c) H') : sp_Settings_eq K [.ref a, .ref b] H Q E := by
  unfold sp_Settings_eq; exact ⟨a, .ref b, p, rfl, h, .inl ⟨b, q, rfl, h2, k⟩⟩
theorem use_set_no {K : PySem.W.Frag} {a : Addr} {y : V} {p : Prt} {H : Hp} {Q : VK} {E : XK} (h : SetAt K H a p) (h2 : NoSet K H y) (k : Q (.bl false) H) : sp_Settings_eq K [.ref a, y] H Q E := by
  unfold sp_Settings_eq; exact ⟨a, y, p, rfl, h, .inr ⟨h2, k⟩⟩
theorem isi_noset {K : PySem.W.Frag} {H : Hp} {y : V} {D : Addr} {Q : VK} (h : NoSet K H y) (k1 : PySem.W.kitOne K (.type "int") (.ref D) = some false) (k2 : PySem.W.kitOne K (.type "list") (.ref D) = some false) (k3 : PySem.W.kitOne K (.type "tuple") (.ref D) = some false) (q : Q (.bl false) H) :
    rIsiI K [y, .ref D] H Q := by
  unfold rIsiI
  rcases h with ⟨i, rfl⟩ | ⟨b, xs, rfl, e⟩ | ⟨b, xs, rfl, e⟩
  · exact ⟨_, _, _, _, false, rfl, .own _, .base (.int i), k1, q⟩
  · exact ⟨_, _, _, _, false, rfl, .own _, .base (.lst e), k2, q⟩
  · exact ⟨_, _, _, _, false, rfl, .own _, .base (.tup e), k3, q⟩
theorem b_Settings___eq__ {K : PySem.W.Frag} {fd : FuncData} (F : F_Settings___eq__ K fd) : Binds K fd P_Settings___eq__ [] := FunD.bindsN F fun _ _ _ _ _ _ us hl => match us, hl with | [_, _], _ => rfl
theorem ok_Settings___eq__ (T : Txt K mg D) : FnOk P w K mg base CX0 2 (He.fAd K ("Settings", some "__eq__")) (D D_Settings___eq__) P_Settings___eq__ (sp_Settings_eq K) := by
  refine T.d_Settings___eq__.ok sc_Settings___eq__ (fun vs H Q E h => ?_) (fun cdv A outer s H vs Q E hr h => ?_)
  · unfold sp_Settings_eq at h
    first | (obtain ⟨rfl, _⟩ := h; rfl) | (obtain ⟨_, rfl, _⟩ := h; rfl) | (obtain ⟨_, _, rfl, _⟩ := h; rfl) | (obtain ⟨_, _, _, rfl, _⟩ := h; rfl) | (obtain ⟨_, _, _, _, rfl, _⟩ := h; rfl) | (obtain ⟨_, _, _, _, _, rfl, _⟩ := h; rfl) | (obtain ⟨_, _, _, _, _, _, rfl, _⟩ := h; rfl) | (obtain ⟨_, _, _, _, _, _, _, rfl, _⟩ := h; rfl) | (obtain ⟨_, _, _, _, _, _, _, _, rfl, _⟩ := h; rfl) | (obtain ⟨_, _, _, _, _, _, _, _, _, rfl, _⟩ := h; rfl) | (obtain ⟨_, _, _, _, _, _, _, _, _, _, rfl, _⟩ := h; rfl) | (obtain ⟨_, _, _, _, _, _, _, _, _, _, _, rfl, _⟩ := h; rfl)
  · refine ⟨_, PSs.nox (pss_one (ps_ret (pe_and (pe_callB (call_isiK2 (K := K)) (by rfl) T.n_isinstance (by decide +kernel) (pa_cons (pv 1) (pa_cons (pe_glob (v := .ref (He.ga K "Settings")) rfl T.g_Settings rfl) pa_nil))) (pe_one (pe_cmpR (op_eqNK (K := K) hr.units) (pe_meth0 (pv 0) T.c_Settings T.m_Settings_parts (ok_Settings_parts T) (hr.mono (by decide)) (b_Settings_parts T.d_Settings_parts) .nil pass0) (pe_meth0 (pv 1) T.c_Settings T.m_Settings_parts (ok_Settings_parts T) (hr.mono (by decide)) (b_Settings_parts T.d_Settings_parts) .nil pass0) (nomark _)))))), ?_⟩
    unfold sp_Settings_eq at h
    obtain ⟨a, y, p, rfl, hs, ⟨b, q, rfl, hq, k⟩ | ⟨hn, k⟩⟩ := h
    · obtain ⟨dx, t, h1, h2⟩ := id hs
      obtain ⟨dy, u, h3, h4⟩ := id hq
      walk_at "rd"
      refine isi_own h3 T.c_Settings T.ic_Settings T.kk_Settings_Settings ?_
      walk_at "rd"
      refine use_set_parts hs fun q1 t1 H1 n1 s1 c1 d1 => ?_
      have h31 := s1 _ _ h3
      walk_at "rd"
      refine use_set_parts (hq.same s1) fun q2 t2 H2 n2 s2 c2 d2 => ?_
      walk_at "rd"
      refine use_eqN (.tup (SqT.of (s2 _ _ c1)) (.cons (.tup (SqT.of (s2 _ _ d1)) (dp_pyi p.lens)) (dp_pyi p.rest))) (.tup (SqT.of c2) (.cons (.tup (SqT.of d2) (dp_pyi q.lens)) (dp_pyi q.rest))) (nb_mixT (nb_dt _) (dep_t _) _) (nb_mixT (nb_dt _) (dep_t _) _) fun c hc => ?_
      exact k c H2 (hc.trans (mix_TT.trans prt_eq.symm)) (s1.trans s2)
    · obtain ⟨dx, t, h1, h2⟩ := id hs
      walk_at "rd"
      refine isi_noset hn T.kb_int_Settings T.kb_list_Settings T.kb_tuple_Settings ?_
      walk_at "rd"
      exact k

@[irreducible] def sp_Settings_length_of (K : PySem.W.Frag) : Sp := fun vs H Q _ => ∃ (b : Addr) (p : Prt) (r : Nat), vs = [.ref b, .int r] ∧ SetAt K H b p ∧ p.Ok ∧ r < 1000000000000000000000000000000 ∧ Q (.int (lenAt p r)) H
theorem use_length_of {K : PySem.W.Frag} {b : Addr} {p : Prt} {r : Nat} {H : Hp} {Q : VK} {E : XK} {i : Int} (hi : i = (r : Int)) (h : SetAt K H b p) (ok : p.Ok) (hr : r < 1000000000000000000000000000000) (q : Q (.int (lenAt p r)) H) :
  sp_Settings_length_of K [.ref b, .int i] H Q E := by subst hi; unfold sp_Settings_length_of; exact ⟨b, p, r, rfl, h, ok, hr, q⟩
theorem b_Settings_length_of {K : PySem.W.Frag} {fd : FuncData} (F : F_Settings_length_of K fd) : Binds K fd P_Settings_length_of [] := FunD.bindsN F fun _ _ _ _ _ _ us hl => match us, hl with | [_, _], _ => rfl
theorem ok_Settings_length_of (T : Txt K mg D) : FnOk P w K mg base CX0 4 (He.fAd K ("Settings", some "length_of")) (D D_Settings_length_of) P_Settings_length_of (sp_Settings_length_of K) := by
  refine T.d_Settings_length_of.ok sc_Settings_length_of (fun vs H Q E h => ?_) (fun cdv A outer s H vs Q E hr h => ?_)
  · unfold sp_Settings_length_of at h
    first | (obtain ⟨rfl, _⟩ := h; rfl) | (obtain ⟨_, rfl, _⟩ := h; rfl) | (obtain ⟨_, _, rfl, _⟩ := h; rfl) | (obtain ⟨_, _, _, rfl, _⟩ := h; rfl) | (obtain ⟨_, _, _, _, rfl, _⟩ := h; rfl) | (obtain ⟨_, _, _, _, _, rfl, _⟩ := h; rfl) | (obtain ⟨_, _, _, _, _, _, rfl, _⟩ := h; rfl) | (obtain ⟨_, _, _, _, _, _, _, rfl, _⟩ := h; rfl) | (obtain ⟨_, _, _, _, _, _, _, _, rfl, _⟩ := h; rfl) | (obtain ⟨_, _, _, _, _, _, _, _, _, rfl, _⟩ := h; rfl) | (obtain ⟨_, _, _, _, _, _, _, _, _, _, rfl, _⟩ := h; rfl) | (obtain ⟨_, _, _, _, _, _, _, _, _, _, _, rfl, _⟩ := h; rfl)
  · refine ⟨_, PSs.nox (pss_cons (ps_expr (pe_call (ok_check_row T) (hr.mono (by decide)) rfl T.g_check_row T.d_check_row.kp (b_check_row_1 T.d_check_row).choose_spec.2 (b_check_row_1 T.d_check_row).choose_spec.1 pass0 (pa_cons (pv 1) pa_nil)))
      (pss_one (ps_ret (pe_ix (ix_tupK (K := K)) (pe_fldK (K := K) (pv 0) rfl) (pe_op op_mod (pv 1) (pe_callB (call_lenK (K := K)) (by rfl) T.n_len (by decide +kernel) (pa_cons (pe_fldK (K := K) (pv 0) rfl) pa_nil))) (fun _ _ => rfl))))), ?_⟩
    unfold sp_Settings_length_of at h
    obtain ⟨b, p, r, rfl, ⟨dx, t, h1, h2⟩, ok, hr, q⟩ := h
    have l0 := mlen0 ok
    walk_at "rd"
    refine use_check_row ⟨by omega, by omega⟩ ?_
    walk_at "rd"
    exact ⟨_, _, _, _, rfl, rfl, SqT.of h2, at_len ok r, q⟩

theorem use_sl {K : PySem.W.Frag} {H : Hp} {a : Addr} {xs ys : List V} {lo hi : Option Int} {Q : VK} (h : SqL K H a xs) (e : cutV xs lo hi = ys) (k : ∀ p H', H p = none → Same H H' → H' p = some (.lst ys) → Q (.ref p) H') : rSlL K (.ref a) lo hi H Q := by
  subst e
  exact ⟨a, xs, rfl, h, fun p n => k p _ n (same_new n) upd_same⟩
theorem use_cat {K : PySem.W.Frag} {H : Hp} {a b : Addr} {xs zs : List V} {Q : VK} (h : SqL K H a xs) (h2 : SqL K H b zs) (hz : xs.length + zs.length ≤ 100000) (k : ∀ p H', H p = none → Same H H' → H' p = some (.lst (xs ++ zs)) → Q (.ref p) H') : rCatS K (.ref a) (.ref b) H Q :=
  ⟨a, b, xs, zs, rfl, rfl, h, h2, hz, k⟩
theorem dvi {i j : Int} (h : decide (V.int i = V.int j) = true) : i = j := by have := of_decide_eq_true h; injection this
theorem dvn {i j : Int} (h : ¬ decide (V.int i = V.int j) = true) : i ≠ j := fun z => h (decide_eq_true (congrArg V.int z))
theorem dct {p : Prop} [Decidable p] (h : decide p = true) : p := of_decide_eq_true h
theorem dcn {p : Prop} [Decidable p] (h : ¬ decide p = true) : ¬ p := fun z => h (decide_eq_true z)
@[irreducible] def sp_law_right : Sp := fun vs H Q _ => ∃ (s : Addr), vs = [.ref s] ∧ Src H s ∧ ∀ H', SB s H H' → Src H' s → Q (.bl true) H'
theorem use_right {s : Addr} {H : Hp} {Q : VK} {E : XK} (h : Src H s) (k : ∀ H', SB s H H' → Src H' s → Q (.bl true) H') : sp_law_right [.ref s] H Q E := by unfold sp_law_right; exact ⟨s, rfl, h, k⟩
@[irreducible] def sp_law (K : PySem.W.Frag) : Sp := fun vs H Q _ => ∃ (a : Addr) (ns : List Int), vs = [.ref a] ∧ SqL K H a (ns.map V.int) ∧ ns.length ≤ 63 ∧ ∀ H', Q (.bl true) H'
@[irreducible] def sp_law_other : Sp := fun vs H Q _ => ∃ (s a : Addr) (p : Prt), vs = [.ref s, .ref a] ∧ Src H s ∧ a ≠ s ∧ PrtAt H a p ∧ (∀ G, SB s H G → PrtAt G a p) ∧ p.Ok ∧
  ∀ b q H', SB s H H' → Src H' s → b ≠ s → (∀ G, SB s H' G → PrtAt G b q) → q.Ok → Q (.ref b) H'
theorem use_other {s a : Addr} {p : Prt} {H : Hp} {Q : VK} {E : XK} (hs : Src H s) (n : a ≠ s) (h : ∀ G, SB s H G → PrtAt G a p) (ok : p.Ok) (k : ∀ b q H', SB s H H' → Src H' s → b ≠ s → (∀ G, SB s H' G → PrtAt G b q) → q.Ok → Q (.ref b) H') : sp_law_other [.ref s, .ref a] H Q E := by
  unfold sp_law_other; exact ⟨s, a, p, rfl, hs, n, h H SB.refl, h, ok, k⟩
theorem b_law_other {K : PySem.W.Frag} {fd : FuncData} (F : F_law_other K fd) : Binds K fd P_law_other [] := FunD.bindsN F fun _ _ _ _ _ _ us hl => match us, hl with | [_, _], _ => rfl
theorem ok_law_other (T : Txt K mg D) : FnOk P w K mg base CX0 4 (He.fAd K ("_law_other", none)) (D D_law_other) P_law_other sp_law_other := by
  refine T.d_law_other.ok sc_law_other (fun vs H Q E h => ?_) (fun cdv A outer s H vs Q E hr h => ?_)
  · unfold sp_law_other at h
    first | (obtain ⟨rfl, _⟩ := h; rfl) | (obtain ⟨_, rfl, _⟩ := h; rfl) | (obtain ⟨_, _, rfl, _⟩ := h; rfl) | (obtain ⟨_, _, _, rfl, _⟩ := h; rfl) | (obtain ⟨_, _, _, _, rfl, _⟩ := h; rfl) | (obtain ⟨_, _, _, _, _, rfl, _⟩ := h; rfl) | (obtain ⟨_, _, _, _, _, _, rfl, _⟩ := h; rfl) | (obtain ⟨_, _, _, _, _, _, _, rfl, _⟩ := h; rfl) | (obtain ⟨_, _, _, _, _, _, _, _, rfl, _⟩ := h; rfl) | (obtain ⟨_, _, _, _, _, _, _, _, _, rfl, _⟩ := h; rfl) | (obtain ⟨_, _, _, _, _, _, _, _, _, _, rfl, _⟩ := h; rfl) | (obtain ⟨_, _, _, _, _, _, _, _, _, _, _, rfl, _⟩ := h; rfl)
  · refine ⟨_, PSs.nox (pss_cons (ps_par (i := 2) (j := 3) (by rfl) sc_law_other.nd rfl rfl (by decide) rfl rfl (pa_cons (pe_op (op_catSK (K := K)) (pe_lst (pa_cons (pe_callTy (call_listK (K := K)) (by rfl) T.n_list (by decide +kernel) (pa_cons (pe_ix (ix_listK (K := K)) (pv 1) pe_int (fun _ _ => rfl)) pa_nil)) pa_nil)) (pe_slice (sl_listK (K := K)) (pv 1) (po_some pe_int) po_none)) (pa_cons (pe_call (ok_law_draw T) (hr.mono (by decide)) rfl T.g_law_draw T.d_law_draw.kp (b_law_draw T.d_law_draw) .nil pass0 (pa_cons (pv 0) (pa_cons pe_int pa_nil))) pa_nil)) (by rfl))
      (pss_cons (ps_if (pt_cmpR op_eq (pv 3) pe_int (nomark _)) (pss_one (ps_asg (pe_ifExp (pt_cmpR op_lt (pe_callB (call_lenK (K := K)) (by rfl) T.n_len (by decide +kernel) (pa_cons (pe_ix (ix_listK (K := K)) (pv 1) pe_int (fun _ _ => rfl)) pa_nil)) pe_int (nomark _)) (pe_op (op_catSK (K := K)) (pe_ix (ix_listK (K := K)) (pv 1) pe_int (fun _ _ => rfl)) (pe_lst (pa_cons pe_int pa_nil))) (pe_slice (sl_listK (K := K)) (pe_ix (ix_listK (K := K)) (pv 1) pe_int (fun _ _ => rfl)) po_none (po_some (pe_un un_neg pe_int)))) (pg_sub (pv 2) pe_int set_list))) (pss_one (ps_if (pt_cmpR op_eq (pv 3) pe_int (nomark _)) (pss_one (ps_asg (pe_ifExp (pt_cmpR op_lt (pe_ix (ix_listK (K := K)) (pv 1) pe_int (fun _ _ => rfl)) pe_int (nomark _)) (pe_op op_add (pe_ix (ix_listK (K := K)) (pv 1) pe_int (fun _ _ => rfl)) pe_int) pe_int) (pg_sub (pv 2) pe_int set_list))) (pss_one (ps_asg (pe_ifExp (pt_cmpR op_gt (pe_ix (ix_listK (K := K)) (pv 1) (pv 3) (fun _ _ => rfl)) (pe_ix (ix_listK (K := K)) (pe_lst (pa_cons pe_int (pa_cons pe_int (pa_cons pe_int (pa_cons pe_int (pa_cons pe_int (pa_cons pe_int pa_nil))))))) (pv 3) (fun _ _ => rfl)) (nomark _)) (pe_op op_sub (pe_ix (ix_listK (K := K)) (pv 1) (pv 3) (fun _ _ => rfl)) pe_int) (pe_op op_add (pe_ix (ix_listK (K := K)) (pv 1) (pv 3) (fun _ _ => rfl)) pe_int)) (pg_sub (pv 2) (pv 3) set_list))))))
      (pss_one (ps_ret (pv 2))))), ?_⟩
    unfold sp_law_other at h
    obtain ⟨s, a, p, rfl, hs, na, ⟨l, h1, h2⟩, hG, ok, k⟩ := h
    obtain ⟨x1, x2, x3, hx⟩ := id hs
    have l1 := ok.l1
    have l0 := ok.l0
    have hfan := ok.f
    have hrec := ok.r
    have hev := ok.e
    have hke := ok.k
    have hs0 := ok.s0
    have hs1 := ok.s1
    have nls : l ≠ s := by
      intro z
      subst z
      obtain ⟨l', e1, e2⟩ := hG (upd H l (.lst [.int 0, .int 0, .int 0, .int 0, .int 0, .int 0, .int 0])) SB.upd
      rw [upd_ne na] at e1
      rw [h1] at e1
      cases e1
      rw [upd_same] at e2
      have := congrArg (fun z : Option HO => match z with | some (.lst xs) => xs.length | _ => 0) e2
      simp at this
      omega
    walk_at "rd"
    intro l2 n1
    generalize eG1 : upd _ l2 _ = G1
    obtain ⟨g1, c1⟩ := gen_new n1 eG1
    clear eG1
    have h11 := g1 _ _ h1
    walk_at "rd"
    intro b1 n2
    generalize eG2 : upd _ b1 _ = G2
    obtain ⟨g2, c2⟩ := gen_new n2 eG2
    clear eG2
    have h12 := g2 _ _ h11
    walk_at "rd"
    try unfold L2.tNoPart
    refine use_sl (lo := some 1) (hi := none) (ys := [.int p.size, .int p.fan, .int p.rec_, .int p.every, .int p.keep]) (SqL.of h12) (by rfl) fun b2 G3 n3 g3 c3 => ?_
    refine use_cat (SqL.of (g3 _ _ c2)) (SqL.of c3) (by simp) fun b3 G4 n4 g4 c4 => ?_
    have g04 := ((g1.trans g2).trans g3).trans g4
    have nb3 : b3 ≠ s := (ne_of_none (((g1.trans g2).trans g3) _ _ hx) n4).symm
    have nl2 : l2 ≠ s := (ne_of_none hx n1).symm
    have nlb : l2 ≠ b3 := ne_of_none (((g2.trans g3)) _ _ c1) n4
    have c14 := ((g2.trans g3).trans g4) _ _ c1
    walk_at "rd"
    refine use_draw (by decide) (by decide) ⟨x1, x2, x3, g04 _ _ hx⟩ fun d G5 d0 d1 s5 hs5 => ?_
    have hb5 := s5 _ _ nb3 c4
    have ha5 := s5 _ _ na (g04 _ _ h1)
    have hl5 := s5 _ _ nls (g04 _ _ h2)
    have hl25 := s5 _ _ nl2 c14
    have s05 : SB s H G5 := g04.sb.trans s5
    have nb3H : H b3 = none := by
      cases e : H b3 with
      | none => rfl
      | some o => exact absurd (((g1.trans g2).trans g3) _ _ e) (by rw [n4]; intro z; cases z)
    have nba : b3 ≠ a := (ne_of_none h1 nb3H).symm
    have nbl : b3 ≠ l := (ne_of_none h2 nb3H).symm
    have fin : ∀ (q : Prt) (lq : Addr) (G : Hp) (o : HO), SB s G5 G → Src G s → lq ≠ s → lq ≠ b3 → G lq = some (.lst (q.lens.map V.int)) → o = .lst [.ref lq, .int q.size, .int q.fan, .int q.rec_, .int q.every, .int q.keep] → q.Ok → Q (.ref b3) (upd G b3 o) := by
      intro q lq G o sG hsG m1 m2 hq ho okq
      subst ho
      obtain ⟨y1, y2, y3, hy⟩ := hsG
      refine k b3 q _ ?_ ⟨y1, y2, y3, by rw [upd_ne nb3.symm]; exact hy⟩ nb3 (fun G' f => ⟨lq, f _ _ nb3 upd_same, f _ _ m1 (by rw [upd_ne m2]; exact hq)⟩) okq
      intro c o hc ho
      rw [upd_ne (ne_of_none ho nb3H)]
      exact sG _ _ hc (s05 _ _ hc ho)
    walk_at "rd"
    refine ite2 (fun c => ?_) (fun c => ?_)
    · have c := dvi c
      subst c
      walk_at "rd"
      refine ite2 (fun c => ?_) (fun c => ?_)
      · have c := dct c
        walk_at "rd"
        intro b6 n6
        generalize eG6 : upd _ b6 _ = G6
        obtain ⟨g6, c6⟩ := gen_new n6 eG6
        clear eG6
        refine use_cat (SqL.of (g6 _ _ hl5)) (SqL.of c6) (by rw [List.length_map]; simp; omega) fun b7 G7 n7 g7 c7 => ?_
        have g57 := g6.trans g7
        have hb7 := g57 _ _ hb5
        obtain ⟨y1, y2, y3, hy⟩ := id hs5
        have hsb7 := g57 _ _ hy
        walk_at "rd"
        refine ⟨_, _, _, 0, rfl, rfl, hb7, rfl, ?_⟩
        walk_at "rd"
        refine fin ⟨p.lens ++ [1], p.size, p.fan, p.rec_, p.every, p.keep⟩ b7 G7 _ g57.sb ⟨y1, y2, y3, hsb7⟩ (ne_of_none (g6 _ _ hy) n7).symm (ne_of_none (g6 _ _ hb5) n7).symm (by rw [c7]; show _ = some (HO.lst ((p.lens ++ [1]).map V.int)); rw [List.map_append]; rfl) rfl ⟨?_, ?_, ?_, hs0, hs1, hfan, hrec, hev, hke⟩
        · show 0 < (p.lens ++ [1]).length
          rw [List.length_append]; omega
        · show (p.lens ++ [1]).length ≤ 6
          rw [List.length_map] at c
          rw [List.length_append]
          show p.lens.length + 1 ≤ 6
          omega
        · intro x hx'
          rcases List.mem_append.mp hx' with h | h
          · exact ok.le x h
          · rw [List.mem_singleton.mp h]; exact ⟨by decide, hs0⟩
      · have c := dcn c
        walk_at "rd"
        have hlen : p.lens.length = 6 := by rw [List.length_map] at c; omega
        refine use_sl (lo := none) (hi := some (-1)) (ys := (p.lens.take 5).map V.int) (SqL.of hl5) (by unfold cutV; rw [List.length_map, hlen, List.map_take]; rfl) fun b7 G7 n7 g7 c7 => ?_
        have hb7 := g7 _ _ hb5
        obtain ⟨y1, y2, y3, hy⟩ := id hs5
        have hsb7 := g7 _ _ hy
        walk_at "rd"
        refine ⟨_, _, _, 0, rfl, rfl, hb7, rfl, ?_⟩
        walk_at "rd"
        refine fin ⟨p.lens.take 5, p.size, p.fan, p.rec_, p.every, p.keep⟩ b7 G7 _ g7.sb ⟨y1, y2, y3, hsb7⟩ (ne_of_none hy n7).symm (ne_of_none hb5 n7).symm c7 rfl ⟨?_, ?_, ?_, hs0, hs1, hfan, hrec, hev, hke⟩
        · show 0 < (p.lens.take 5).length
          rw [List.length_take]; omega
        · show (p.lens.take 5).length ≤ 6
          rw [List.length_take]; omega
        · exact fun x hx' => ok.le x (List.mem_of_mem_take hx')
    · walk_at "rd"
      have ce := dvn c
      refine ite2 (fun c => ?_) (fun c => ?_)
      · have c := dvi c
        subst c
        walk_at "rd"
        refine ite2 (fun c => ?_) (fun c => ?_)
        · have c := dct c
          walk_at "rd"
          refine ⟨_, _, _, 1, rfl, rfl, hb5, rfl, ?_⟩
          walk_at "rd"
          exact fin ⟨p.lens, p.size + 1, p.fan, p.rec_, p.every, p.keep⟩ l2 G5 _ SB.refl hs5 nl2 nlb hl25 rfl ⟨l0, l1, fun x hx' => ⟨(ok.le x hx').1, by show x ≤ p.size + 1; have := (ok.le x hx').2; omega⟩, by show 1 ≤ p.size + 1; omega, by show p.size + 1 ≤ 64; omega, hfan, hrec, hev, hke⟩
        · have c := dcn c
          walk_at "rd"
          refine ⟨_, _, _, 1, rfl, rfl, hb5, rfl, ?_⟩
          walk_at "rd"
          exact fin ⟨p.lens, 64, p.fan, p.rec_, p.every, p.keep⟩ l2 G5 _ SB.refl hs5 nl2 nlb hl25 rfl ⟨l0, l1, fun x hx' => ⟨(ok.le x hx').1, by show x ≤ 64; have := (ok.le x hx').2; omega⟩, (show (1 : Int) ≤ 64 by decide), (show (64 : Int) ≤ 64 by decide), hfan, hrec, hev, hke⟩
      · have ce2 := dvn c
        obtain rfl | rfl | rfl | rfl : d = 2 ∨ d = 3 ∨ d = 4 ∨ d = 5 := by omega
        · walk_at "rd"
          intro b6 n6
          generalize eG6 : upd _ b6 _ = G6
          obtain ⟨g6, c6⟩ := gen_new n6 eG6
          clear eG6
          have hb6 := g6 _ _ hb5
          have ha6 := g6 _ _ ha5
          obtain ⟨y1, y2, y3, hy⟩ := id hs5
          have hsb6 := g6 _ _ hy
          have hl26 := g6 _ _ hl25
          walk_at "rd"
          refine ite2 (fun c => ?_) (fun c => ?_)
          · have c := dct c
            walk_at "rd"
            refine ⟨_, _, _, 2, rfl, rfl, hb6, rfl, ?_⟩
            walk_at "rd"
            exact fin ⟨p.lens, p.size, p.fan - 1, p.rec_, p.every, p.keep⟩ l2 G6 _ g6.sb ⟨y1, y2, y3, hsb6⟩ nl2 nlb hl26 rfl ⟨l0, l1, ok.le, hs0, hs1, ⟨by show 2 ≤ p.fan - 1; omega, by show p.fan - 1 ≤ 8; omega⟩, hrec, hev, hke⟩
          · have c := dcn c
            walk_at "rd"
            refine ⟨_, _, _, 2, rfl, rfl, hb6, rfl, ?_⟩
            walk_at "rd"
            exact fin ⟨p.lens, p.size, p.fan + 1, p.rec_, p.every, p.keep⟩ l2 G6 _ g6.sb ⟨y1, y2, y3, hsb6⟩ nl2 nlb hl26 rfl ⟨l0, l1, ok.le, hs0, hs1, ⟨by show 2 ≤ p.fan + 1; omega, by show p.fan + 1 ≤ 8; omega⟩, hrec, hev, hke⟩
        · walk_at "rd"
          intro b6 n6
          generalize eG6 : upd _ b6 _ = G6
          obtain ⟨g6, c6⟩ := gen_new n6 eG6
          clear eG6
          have hb6 := g6 _ _ hb5
          have ha6 := g6 _ _ ha5
          obtain ⟨y1, y2, y3, hy⟩ := id hs5
          have hsb6 := g6 _ _ hy
          have hl26 := g6 _ _ hl25
          walk_at "rd"
          refine ite2 (fun c => ?_) (fun c => ?_)
          · have c := dct c
            walk_at "rd"
            refine ⟨_, _, _, 3, rfl, rfl, hb6, rfl, ?_⟩
            walk_at "rd"
            exact fin ⟨p.lens, p.size, p.fan, p.rec_ - 1, p.every, p.keep⟩ l2 G6 _ g6.sb ⟨y1, y2, y3, hsb6⟩ nl2 nlb hl26 rfl ⟨l0, l1, ok.le, hs0, hs1, hfan, ⟨by show 1 ≤ p.rec_ - 1; omega, by show p.rec_ - 1 ≤ 16; omega⟩, hev, hke⟩
          · have c := dcn c
            walk_at "rd"
            refine ⟨_, _, _, 3, rfl, rfl, hb6, rfl, ?_⟩
            walk_at "rd"
            exact fin ⟨p.lens, p.size, p.fan, p.rec_ + 1, p.every, p.keep⟩ l2 G6 _ g6.sb ⟨y1, y2, y3, hsb6⟩ nl2 nlb hl26 rfl ⟨l0, l1, ok.le, hs0, hs1, hfan, ⟨by show 1 ≤ p.rec_ + 1; omega, by show p.rec_ + 1 ≤ 16; omega⟩, hev, hke⟩
        · walk_at "rd"
          intro b6 n6
          generalize eG6 : upd _ b6 _ = G6
          obtain ⟨g6, c6⟩ := gen_new n6 eG6
          clear eG6
          have hb6 := g6 _ _ hb5
          have ha6 := g6 _ _ ha5
          obtain ⟨y1, y2, y3, hy⟩ := id hs5
          have hsb6 := g6 _ _ hy
          have hl26 := g6 _ _ hl25
          walk_at "rd"
          refine ite2 (fun c => ?_) (fun c => ?_)
          · have c := dct c
            walk_at "rd"
            refine ⟨_, _, _, 4, rfl, rfl, hb6, rfl, ?_⟩
            walk_at "rd"
            exact fin ⟨p.lens, p.size, p.fan, p.rec_, p.every - 1, p.keep⟩ l2 G6 _ g6.sb ⟨y1, y2, y3, hsb6⟩ nl2 nlb hl26 rfl ⟨l0, l1, ok.le, hs0, hs1, hfan, hrec, ⟨by show 1 ≤ p.every - 1; omega, by show p.every - 1 ≤ 40; omega⟩, hke⟩
          · have c := dcn c
            walk_at "rd"
            refine ⟨_, _, _, 4, rfl, rfl, hb6, rfl, ?_⟩
            walk_at "rd"
            exact fin ⟨p.lens, p.size, p.fan, p.rec_, p.every + 1, p.keep⟩ l2 G6 _ g6.sb ⟨y1, y2, y3, hsb6⟩ nl2 nlb hl26 rfl ⟨l0, l1, ok.le, hs0, hs1, hfan, hrec, ⟨by show 1 ≤ p.every + 1; omega, by show p.every + 1 ≤ 40; omega⟩, hke⟩
        · walk_at "rd"
          intro b6 n6
          generalize eG6 : upd _ b6 _ = G6
          obtain ⟨g6, c6⟩ := gen_new n6 eG6
          clear eG6
          have hb6 := g6 _ _ hb5
          have ha6 := g6 _ _ ha5
          obtain ⟨y1, y2, y3, hy⟩ := id hs5
          have hsb6 := g6 _ _ hy
          have hl26 := g6 _ _ hl25
          walk_at "rd"
          refine ite2 (fun c => ?_) (fun c => ?_)
          · have c := dct c
            walk_at "rd"
            refine ⟨_, _, _, 5, rfl, rfl, hb6, rfl, ?_⟩
            walk_at "rd"
            exact fin ⟨p.lens, p.size, p.fan, p.rec_, p.every, p.keep - 1⟩ l2 G6 _ g6.sb ⟨y1, y2, y3, hsb6⟩ nl2 nlb hl26 rfl ⟨l0, l1, ok.le, hs0, hs1, hfan, hrec, hev, ⟨by show 1 ≤ p.keep - 1; omega, by show p.keep - 1 ≤ 100; omega⟩⟩
          · have c := dcn c
            walk_at "rd"
            refine ⟨_, _, _, 5, rfl, rfl, hb6, rfl, ?_⟩
            walk_at "rd"
            exact fin ⟨p.lens, p.size, p.fan, p.rec_, p.every, p.keep + 1⟩ l2 G6 _ g6.sb ⟨y1, y2, y3, hsb6⟩ nl2 nlb hl26 rfl ⟨l0, l1, ok.le, hs0, hs1, hfan, hrec, hev, ⟨by show 1 ≤ p.keep + 1; omega, by show p.keep + 1 ≤ 100; omega⟩⟩

theorem b_law_right {K : PySem.W.Frag} {fd : FuncData} (F : F_law_right K fd) : Binds K fd P_law_right [] := FunD.bindsN F fun _ _ _ _ _ _ us hl => match us, hl with | [_], _ => rfl
theorem ok_law_right (T : Txt K mg D) : FnOk P w K mg base CX0 7 (He.fAd K ("_law_right", none)) (D D_law_right) P_law_right sp_law_right := by
  refine T.d_law_right.ok sc_law_right (fun vs H Q E h => ?_) (fun cdv A outer s H vs Q E hr h => ?_)
  · unfold sp_law_right at h
    first | (obtain ⟨rfl, _⟩ := h; rfl) | (obtain ⟨_, rfl, _⟩ := h; rfl) | (obtain ⟨_, _, rfl, _⟩ := h; rfl) | (obtain ⟨_, _, _, rfl, _⟩ := h; rfl) | (obtain ⟨_, _, _, _, rfl, _⟩ := h; rfl) | (obtain ⟨_, _, _, _, _, rfl, _⟩ := h; rfl) | (obtain ⟨_, _, _, _, _, _, rfl, _⟩ := h; rfl) | (obtain ⟨_, _, _, _, _, _, _, rfl, _⟩ := h; rfl) | (obtain ⟨_, _, _, _, _, _, _, _, rfl, _⟩ := h; rfl) | (obtain ⟨_, _, _, _, _, _, _, _, _, rfl, _⟩ := h; rfl) | (obtain ⟨_, _, _, _, _, _, _, _, _, _, rfl, _⟩ := h; rfl) | (obtain ⟨_, _, _, _, _, _, _, _, _, _, _, rfl, _⟩ := h; rfl)
  · refine ⟨_, PSs.nox (pss_cons (ps_set (i := 1) sc_law_right.nd rfl (Or.inl rfl) (pe_call (ok_law_parts T) (hr.mono (by decide)) rfl T.g_law_parts T.d_law_parts.kp (b_law_parts T.d_law_parts) .nil pass0 (pa_cons (pv 0) pa_nil)))
      (pss_cons (ps_set (i := 2) sc_law_right.nd rfl (Or.inl rfl) (pe_callTy (call_listK (K := K)) (by rfl) T.n_list (by decide +kernel) (pa_cons (pe_ix (ix_listK (K := K)) (pv 1) pe_int (fun _ _ => rfl)) pa_nil)))
      (pss_cons (ps_set (i := 3) sc_law_right.nd rfl (Or.inl rfl) (pe_makeK T.mk_Settings (ok_Settings___init__ T) (hr.mono (by decide)) rfl T.g_Settings (b_Settings___init__ T.d_Settings___init__) pass0 (pa_cons (pv 2) (pa_cons (pe_ix (ix_listK (K := K)) (pv 1) pe_int (fun _ _ => rfl)) pa_nil)) (pk_cons (pe_ix (ix_listK (K := K)) (pv 1) pe_int (fun _ _ => rfl)) (pk_cons (pe_ix (ix_listK (K := K)) (pv 1) pe_int (fun _ _ => rfl)) (pk_cons (pe_ix (ix_listK (K := K)) (pv 1) pe_int (fun _ _ => rfl)) (pk_cons (pe_ix (ix_listK (K := K)) (pv 1) pe_int (fun _ _ => rfl)) pk_nil))))))
      (pss_cons (ps_expr (pe_bm PySem.F.plainAttrs_list PySem.F.slot_list_append PySem.F.type_list_append mt_append (pv 2) (pa_cons pe_int pa_nil)))
      (pss_cons (ps_expr (pe_bm0 PySem.F.plainAttrs_list PySem.F.slot_list_reverse PySem.F.type_list_reverse mt_reverse (pv 2)))
      (pss_cons (ps_if (pt_cmpR (op_neNK (K := K) hr.units) (pe_lst (pa_cons (pe_fldK (K := K) (pv 3) rfl) (pa_cons (pe_fldK (K := K) (pv 3) rfl) (pa_cons (pe_fldK (K := K) (pv 3) rfl) (pa_cons (pe_fldK (K := K) (pv 3) rfl) (pa_cons (pe_fldK (K := K) (pv 3) rfl) (pa_cons (pe_fldK (K := K) (pv 3) rfl) pa_nil))))))) (pe_op (op_catSK (K := K)) (pe_lst (pa_cons (pe_callTy (call_tupK (K := K)) (by rfl) T.n_tuple (by decide +kernel) (pa_cons (pe_ix (ix_listK (K := K)) (pv 1) pe_int (fun _ _ => rfl)) pa_nil)) pa_nil)) (pe_slice (sl_listK (K := K)) (pv 1) (po_some pe_int) po_none)) (nomark _)) (pss_one (ps_ret pe_bl)) pss_nil)
      (pss_cons (ps_set (i := 4) sc_law_right.nd rfl (Or.inl rfl) (pe_op op_add (pe_op op_mul (pe_call (ok_law_draw T) (hr.mono (by decide)) rfl T.g_law_draw T.d_law_draw.kp (b_law_draw T.d_law_draw) .nil pass0 (pa_cons (pv 0) (pa_cons (pe_powc (c := 1000000000) (by decide)) pa_nil))) (pe_powc (c := 1000000000000000000000) (by decide))) (pe_call (ok_law_draw T) (hr.mono (by decide)) rfl T.g_law_draw T.d_law_draw.kp (b_law_draw T.d_law_draw) .nil pass0 (pa_cons (pv 0) (pa_cons (pe_powc (c := 1000000000) (by decide)) pa_nil)))))
      (pss_cons (ps_for PassesOwn.never rfl (pi_list (pe_op (op_catSK (K := K)) (pe_listRgB rfl (by rfl) T.n_list (prg_1 (by rfl) T.n_range pe_int)) (pe_lst (pa_cons (pv 4) (pa_cons (pe_op op_add (pv 4) pe_int) (pa_cons (pe_op op_sub (pe_powc (c := 1000000000000000000000000000000) (by decide)) pe_int) pa_nil)))))) (pg_name (i := 5) sc_law_right.nd rfl (Or.inl rfl)) (pss_one (ps_if (pt_cmpR op_ne (pe_meth (pv 3) T.c_Settings T.m_Settings_length_of (ok_Settings_length_of T) (hr.mono (by decide)) (b_Settings_length_of T.d_Settings_length_of) .nil pass0 (pa_cons (pv 5) pa_nil)) (pe_ix (ix_listK (K := K)) (pe_ix (ix_listK (K := K)) (pv 1) pe_int (fun _ _ => rfl)) (pe_op op_mod (pe_callTy call_int1 (by rfl) T.n_int (by decide +kernel) (pa_cons (pv 5) pa_nil)) (pe_callB (call_lenK (K := K)) (by rfl) T.n_len (by decide +kernel) (pa_cons (pe_ix (ix_listK (K := K)) (pv 1) pe_int (fun _ _ => rfl)) pa_nil))) (fun _ _ => rfl)) (nomark _)) (pss_one (ps_ret pe_bl)) pss_nil)))
      (pss_cons (ps_if (PW.pt (pw_or (pt_cmpR (op_neO (ok_Settings___eq__ T) T.m_Settings___eq__ T.eq_Settings (hr.mono (by decide)) (b_Settings___eq__ T.d_Settings___eq__) pass0) (pv 3) (pe_call (ok_law_settings T) (hr.mono (by decide)) rfl T.g_law_settings T.d_law_settings.kp (b_law_settings T.d_law_settings) .nil pass0 (pa_cons (pv 1) pa_nil)) (nomark _)) (pw_or1 (pt_not (pt_cmpR (op_eqO (ok_Settings___eq__ T) T.m_Settings___eq__ T.eq_Settings (hr.mono (by decide)) (b_Settings___eq__ T.d_Settings___eq__) pass0) (pv 3) (pe_call (ok_law_settings T) (hr.mono (by decide)) rfl T.g_law_settings T.d_law_settings.kp (b_law_settings T.d_law_settings) .nil pass0 (pa_cons (pe_op (op_catSK (K := K)) (pe_lst (pa_cons (pe_callTy (call_listK (K := K)) (by rfl) T.n_list (by decide +kernel) (pa_cons (pe_ix (ix_listK (K := K)) (pv 1) pe_int (fun _ _ => rfl)) pa_nil)) pa_nil)) (pe_slice (sl_listK (K := K)) (pv 1) (po_some pe_int) po_none)) pa_nil)) (nomark _)))))) (pss_one (ps_ret pe_bl)) pss_nil)
      (pss_cons (ps_set (i := 6) sc_law_right.nd rfl (Or.inl rfl) (pe_call (ok_law_other T) (hr.mono (by decide)) rfl T.g_law_other T.d_law_other.kp (b_law_other T.d_law_other) .nil pass0 (pa_cons (pv 0) (pa_cons (pv 1) pa_nil))))
      (pss_cons (ps_if (PW.pt (pw_or (pt_cmpR op_ne (pe_cmpR (op_eqO (ok_Settings___eq__ T) T.m_Settings___eq__ T.eq_Settings (hr.mono (by decide)) (b_Settings___eq__ T.d_Settings___eq__) pass0) (pv 3) (pe_call (ok_law_settings T) (hr.mono (by decide)) rfl T.g_law_settings T.d_law_settings.kp (b_law_settings T.d_law_settings) .nil pass0 (pa_cons (pv 6) pa_nil)) (nomark _)) (pe_cmpR (op_eqNK (K := K) hr.units) (pv 6) (pv 1) (nomark _)) (nomark _)) (pw_or (pt_cmpR (op_eqO (ok_Settings___eq__ T) T.m_Settings___eq__ T.eq_Settings (hr.mono (by decide)) (b_Settings___eq__ T.d_Settings___eq__) pass0) (pv 3) (pe_callTy (call_tupK (K := K)) (by rfl) T.n_tuple (by decide +kernel) (pa_cons (pv 1) pa_nil)) (nomark _)) (pw_or (pt_cmpR (op_eqO (ok_Settings___eq__ T) T.m_Settings___eq__ T.eq_Settings (hr.mono (by decide)) (b_Settings___eq__ T.d_Settings___eq__) pass0) (pv 3) (pv 1) (nomark _)) (pw_or1 (pt_cmpR (op_eqO (ok_Settings___eq__ T) T.m_Settings___eq__ T.eq_Settings (hr.mono (by decide)) (b_Settings___eq__ T.d_Settings___eq__) pass0) (pv 3) pe_int (nomark _))))))) (pss_one (ps_ret pe_bl)) pss_nil)
      (pss_one (ps_ret (pe_and (pe_cmpR (op_eqO (ok_Settings___eq__ T) T.m_Settings___eq__ T.eq_Settings (hr.mono (by decide)) (b_Settings___eq__ T.d_Settings___eq__) pass0) (pv 3) (pv 3) (nomark _)) (pe_one (pe_cmpR op_eq (pe_fldK (K := K) (pe_call (ok_law_settings T) (hr.mono (by decide)) rfl T.g_law_settings T.d_law_settings.kp (b_law_settings T.d_law_settings) .nil pass0 (pa_cons (pe_op (op_catSK (K := K)) (pe_op (op_catSK (K := K)) (pe_slice (sl_listK (K := K)) (pv 1) po_none (po_some pe_int)) (pe_lst (pa_cons pe_int pa_nil))) (pe_slice (sl_listK (K := K)) (pv 1) (po_some pe_int) po_none)) pa_nil)) rfl) pe_int (nomark _))))))))))))))))), ?_⟩
    unfold sp_law_right at h
    obtain ⟨s, rfl, hs, k⟩ := h
    walk_at "rd"
    refine use_parts hs fun a H1 p s1 hs1 ok hp nb => ?_
    obtain ⟨l, h1, h2⟩ := id hp
    obtain ⟨x1, x2, x3, hx⟩ := id hs1
    walk_at "rd"
    intro hd n2
    generalize eH2 : upd _ hd _ = H2
    obtain ⟨g2, c2⟩ := gen_new n2 eH2
    clear eH2
    have h12 := g2 _ _ h1
    have hx2 := g2 _ _ hx
    have nhs : hd ≠ s := (ne_of_none hx n2).symm
    walk_at "rd"
    intro b dx n3 ndb neb
    generalize eH3 : upd (upd _ dx _) b _ = H3
    obtain ⟨g3, c3⟩ := gen_mk n3 ndb eH3
    clear eH3
    refine use_set_init c3 (g3 _ _ c2) ok fun H4 s4 hset4 => ?_
    have g24 : Same H2 H4 := same_sb_new g3 s4 n3
    have c24 := g24 _ _ c2
    have hx4 := g24 _ _ hx2
    obtain ⟨dy, t, e1, e2⟩ := id hset4
    have nbh : b ≠ hd := ne_of e1 c24 (by intro z; cases z)
    have nth : t ≠ hd := ne_of e2 c24 (by intro z; cases z)
    have nbs : b ≠ s := ne_of e1 hx4 (by intro z; cases z)
    have nts : t ≠ s := ne_of e2 hx4 (by intro z; cases z)
    walk_at "rd"
    refine ⟨.inl ⟨rfl, _, SqL.of c24⟩, ?_⟩
    walk_at "rd"
    refine ⟨_, _, _, rfl, rfl, c24, szlt (by rw [List.length_map]; have := ok.l1; omega), ?_⟩
    generalize eH5 : upd _ _ _ = H5
    obtain ⟨g5, c5⟩ := gen_st eH5
    clear eH5
    try simp only [pf_Settings_0, pf_Settings_1, pf_Settings_2, pf_Settings_3, pf_Settings_4, pf_Settings_5] at c5
    walk_at "rd"
    refine ⟨.inl ⟨rfl, _, SqL.of c5⟩, _, _, rfl, rfl, c5, ?_⟩
    generalize eH6 : upd _ _ _ = H6
    obtain ⟨g6, c6⟩ := gen_st eH6
    clear eH6
    try simp only [pf_Settings_0, pf_Settings_1, pf_Settings_2, pf_Settings_3, pf_Settings_4, pf_Settings_5] at c6
    have e16 := g6 _ _ nbh (g5 _ _ nbh e1)
    have e26 := g6 _ _ nth (g5 _ _ nth e2)
    have hx6 := g6 _ _ nhs.symm (g5 _ _ nhs.symm hx4)
    have s16 : SB s H1 H6 := by
      intro c o hc ho
      have n : c ≠ hd := ne_of_none ho n2
      exact g6 _ _ n (g5 _ _ n (g24 _ _ (g2 _ _ ho)))
    have FF : ∀ G, SB s H6 G → SetAt K G b p ∧ PrtAt G a p := fun G f => ⟨⟨dy, t, f _ _ nbs e16, f _ _ nts e26⟩, nb G (s16.trans f)⟩
    walk_at "rd"
    intro q7 n7
    generalize eH7 : upd _ q7 _ = H7
    obtain ⟨g7, c7⟩ := gen_new n7 eH7
    clear eH7
    obtain ⟨l', a7, l7⟩ := (FF H7 g7.sb).2
    walk_at "rd"
    refine ⟨_, _, rfl, .inl ⟨SqL.of l7, ?_⟩⟩
    intro q8 n8
    generalize eH8 : upd _ q8 _ = H8
    obtain ⟨g8, c8⟩ := gen_new n8 eH8
    clear eH8
    walk_at "rd"
    intro q9 n9
    generalize eH9 : upd _ q9 _ = H9
    obtain ⟨g9, c9⟩ := gen_new n9 eH9
    clear eH9
    have a9 := g9 _ _ (g8 _ _ a7)
    walk_at "rd"
    try unfold L2.tNoPart
    refine use_sl (lo := some 1) (hi := none) (ys := [.int p.size, .int p.fan, .int p.rec_, .int p.every, .int p.keep]) (SqL.of a9) (by rfl) fun q10 H10 n10 g10 c10 => ?_
    refine use_cat (SqL.of (g10 _ _ c9)) (SqL.of c10) (by simp) fun q11 H11 n11 g11 c11 => ?_
    have g711 := ((g8.trans g9).trans g10).trans g11
    have c711 := g711 _ _ c7
    have c811 := (((g9.trans g10).trans g11)) _ _ c8
    obtain ⟨⟨dz, t', b7, t7⟩, _⟩ := FF H11 (g7.trans g711).sb
    have bb := (g7.trans g711) _ _ e16
    have tt : H11 t = some (.tup (p.lens.map V.int)) := (g7.trans g711) _ _ e26
    refine use_neN (.lst (SqL.of c711) (.cons (.tup (SqT.of tt) (dp_pyi p.lens)) (dp_pyi p.rest))) (.lst (SqL.of c11) (.cons (.tup (SqT.of c811) (dp_pyi p.lens)) (dp_pyi p.rest))) (nb_mixL (nb_dt _) (dep_t _) _) (nb_mixL (nb_dt _) (dep_t _) _) fun c hc => ?_
    have hc : c = false := by
      cases c with
      | true => exact absurd rfl (hc.mp rfl)
      | false => rfl
    subst hc
    have g611 := g7.trans g711
    have FF : ∀ G, SB s H11 G → SetAt K G b p ∧ PrtAt G a p := fun G f => FF G (g611.sb.trans f)
    have hx11 := g611 _ _ hx6
    clear a7 l7 a9 c7 c8 c9 c10 c11 c711 c811 b7 t7 bb tt
    walk_at "rd"
    refine use_draw (n := 1000000000) (by decide) (by decide) ⟨x1, x2, x3, hx11⟩ fun d1 H12 d10 d11 s12 hs12 => ?_
    walk_at "rd"
    refine use_draw (n := 1000000000) (by decide) (by decide) hs12 fun d2 H13 d20 d21 s13 hs13 => ?_
    have FF : ∀ G, SB s H13 G → SetAt K G b p ∧ PrtAt G a p := fun G f => FF G ((s12.trans s13).trans f)
    walk_at "rd"
    refine use_lstB (by decide) fun q14 H14 n14 g14 c14 => ?_
    walk_at "rd"
    intro q15 n15
    generalize eH15 : upd _ q15 _ = H15
    obtain ⟨g15, c15⟩ := gen_new n15 eH15
    clear eH15
    refine use_cat (SqL.of (g15 _ _ c14)) (SqL.of c15) (by rw [rgV_length]; simp) fun q16 H16 n16 g16 c16 => ?_
    have g1316 := (g14.trans g15).trans g16
    obtain ⟨y1, y2, y3, hy⟩ := id hs13
    have hy16 := g1316 _ _ hy
    refine ⟨_, rfl, ⟨_, SqL.of c16⟩, for_list (xs := rgV 0 13 ++ [.int (d1 * 1000000000000000000000 + d2), .int (d1 * 1000000000000000000000 + d2 + 1), .int 999999999999999999999999999999]) (fun i σ G => ∃ v5 v6, σ = [some (.ref s), some (.ref a), some (.ref hd), some (.ref b), some (.int (d1 * 1000000000000000000000 + d2)), v5, v6] ∧ Same H16 G) ⟨_, _, rfl, Same.refl _⟩ ?_ ?_ ?_⟩
    · rintro i σ G _ ⟨v5, v6, rfl, f⟩
      exact SqL.of (f _ _ c16)
    · rintro i x σ G hxi ⟨v5, v6, rfl, f⟩
      obtain ⟨r, rfl, hr⟩ : ∃ r : Nat, x = .int r ∧ r < 1000000000000000000000000000000 := by
        have hm := List.mem_of_getElem? hxi
        rcases List.mem_append.mp hm with h | h
        · obtain ⟨j, hj, rfl⟩ := List.mem_map.mp h
          have := List.mem_range.mp hj
          exact ⟨j, congrArg V.int (by omega), by omega⟩
        · simp only [List.mem_cons, List.mem_nil_iff, or_false] at h
          rcases h with rfl | rfl | rfl
          · exact ⟨(d1 * 1000000000000000000000 + d2).toNat, congrArg V.int (by omega), by omega⟩
          · exact ⟨(d1 * 1000000000000000000000 + d2 + 1).toNat, congrArg V.int (by omega), by omega⟩
          · exact ⟨999999999999999999999999999999, rfl, by decide⟩
      obtain ⟨hset, l', a17, l17⟩ := FF G (g1316.trans f).sb
      obtain ⟨dz, t', b17, t17⟩ := id hset
      have l0 := mlen0 ok
      walk_at "rd"
      refine use_length_of rfl hset ok hr ?_
      walk_at "rd"
      refine ⟨_, _, _, _, rfl, rfl, SqL.of l17, at_len ok r, ?_⟩
      walk_at "rd"
      refine ne_eq rfl ?_
      walk_at "rd"
      exact f
    · rintro σ G ⟨v5, v6, rfl, f⟩
      have FF : ∀ G', SB s G G' → SetAt K G' b p ∧ PrtAt G' a p := fun G' f' => FF G' ((g1316.trans f).sb.trans f')
      have hyG := f _ _ hy16
      have hGs : SB s H13 G := (g1316.trans f).sb
      clear f g1316 g14 g15 g16 c14 c15 c16 c6 c5 e16 e26 e1 e2 c24 c2 c3
      have b18 := (FF G SB.refl)
      obtain ⟨hset, hprt⟩ := b18
      walk_at "rd"
      refine use_settings hprt ok fun bA GA nA gA stA => ?_
      obtain ⟨hset, hprt⟩ := FF GA gA.sb
      obtain ⟨dz, tz, bz, t9⟩ := id hset
      obtain ⟨dA, tA, hA, _⟩ := id stA
      refine use_neO bz (.inr (.inr ⟨_, _, hA⟩)) (use_set_eq hset stA fun c GB hc gB => ⟨c, rfl, ?_⟩)
      have hc : c = true := hc.mpr rfl
      subst hc
      have gAB := gA.trans gB
      obtain ⟨hset, l', aB, lB⟩ := FF GB gAB.sb
      obtain ⟨dz, tz, bz, t9⟩ := id hset
      walk_at "rd"
      intro qC nC
      generalize eGC : upd _ qC _ = GC
      obtain ⟨gC, cC⟩ := gen_new nC eGC
      clear eGC
      walk_at "rd"
      intro qD nD
      generalize eGD : upd _ qD _ = GD
      obtain ⟨gD, cD⟩ := gen_new nD eGD
      clear eGD
      have aD := gD _ _ (gC _ _ aB)
      walk_at "rd"
      try unfold L2.tNoPart
      refine use_sl (lo := some 1) (hi := none) (ys := [.int p.size, .int p.fan, .int p.rec_, .int p.every, .int p.keep]) (SqL.of aD) (by rfl) fun qE GE nE gE cE => ?_
      refine use_cat (SqL.of (gE _ _ cD)) (SqL.of cE) (by simp) fun qF GF nF gF cF => ?_
      have gCF := ((gC.trans gD).trans gE).trans gF
      refine use_settings (p := p) ⟨qC, cF, ((gD.trans gE).trans gF) _ _ cC⟩ ok fun bG GG nG gG stG => ?_
      have gAG := (gAB.trans gCF).trans gG
      obtain ⟨hset, _⟩ := FF GG gAG.sb
      obtain ⟨dz, tz, bz, t9⟩ := id hset
      obtain ⟨dA, tA, hA, _⟩ := id stG
      refine use_eqO bz (.inr (.inr ⟨_, _, hA⟩)) (use_set_eq hset stG fun c GH hc gH => ⟨c, rfl, ?_⟩)
      have hc : c = true := hc.mpr rfl
      subst hc
      have gAH := gAG.trans gH
      have hyH := gAH _ _ hyG
      have FF : ∀ G', SB s GH G' → SetAt K G' b p ∧ PrtAt G' a p := fun G' f' => FF G' (gAH.sb.trans f')
      clear stA stG hA
      walk_at "rd"
      have nas : a ≠ s := by
        intro z
        subst z
        obtain ⟨l9, a9, _⟩ := (FF GH SB.refl).2
        rw [hyH] at a9
        cases a9
      refine use_other ⟨y1, y2, y3, hyH⟩ nas (fun G' f' => (FF G' f').2) ok fun qb q HI sI hsI nqb nbq okq => ?_
      walk_at "rd"
      have FF : ∀ G', SB s HI G' → SetAt K G' b p ∧ PrtAt G' a p ∧ PrtAt G' qb q := fun G' f' => ⟨(FF G' (sI.trans f')).1, (FF G' (sI.trans f')).2, nbq G' f'⟩
      have hIk : SB s H HI := (((s1.trans s16).trans (((g611.sb.trans s12).trans s13))).trans (hGs.trans gAH.sb)).trans sI
      obtain ⟨z1, z2, z3, hz⟩ := id hsI
      clear hsI hyH hyG gAG gCF gAB hset hprt aB lB aD cE cF cC cD nbq
      obtain ⟨hset, hp1, hq1⟩ := FF HI SB.refl
      refine use_settings hq1 okq fun bA GA nA gA stA => ?_
      obtain ⟨hset, _, _⟩ := FF GA gA.sb
      obtain ⟨dz, tz, bz, t9⟩ := id hset
      obtain ⟨dA, tA, hA, _⟩ := id stA
      refine use_eqO bz (.inr (.inr ⟨_, _, hA⟩)) (use_set_eq hset stA fun c GB hc gB => ⟨c, rfl, ?_⟩)
      have gIB := gA.trans gB
      obtain ⟨hset, ⟨lp, hpa, hpl⟩, ⟨lq, hqa, hql⟩⟩ := FF GB gIB.sb
      walk_at "rd"
      refine use_eqN (.lst (SqL.of hqa) (.cons (.lst (SqL.of hql) (dp_pyi q.lens)) (dp_pyi q.rest))) (.lst (SqL.of hpa) (.cons (.lst (SqL.of hpl) (dp_pyi p.lens)) (dp_pyi p.rest))) (nb_mixL (nb_dl _) (dep_l _) _) (nb_mixL (nb_dl _) (dep_l _) _) fun e he => ?_
      have hce : c = e := by
        rw [Bool.eq_iff_iff, hc, he, mix_LL, prt_eq]
        exact ⟨fun ⟨h1, h2⟩ => ⟨h1.symm, h2.symm⟩, fun ⟨h1, h2⟩ => ⟨h1.symm, h2.symm⟩⟩
      subst hce
      walk_at "rd"
      rw [show (decide (V.bl c = V.bl c)) = true from decide_eq_true rfl]
      walk_at "rd"
      refine ⟨_, _, rfl, .inl ⟨SqL.of hpa, ?_⟩⟩
      intro qT nT
      generalize eGT : upd _ qT _ = GT
      obtain ⟨gT, cT⟩ := gen_new nT eGT
      clear eGT
      obtain ⟨hset, ⟨lp, hpa, hpl⟩, _⟩ := FF GT (gIB.trans gT).sb
      obtain ⟨dz, tz, bz, t9⟩ := id hset
      refine use_eqO bz (.inr (.inl ⟨_, SqT.of cT⟩)) (use_set_no hset (.inr (.inr ⟨_, _, rfl, cT⟩)) ⟨false, rfl, ?_⟩)
      walk_at "rd"
      refine use_eqO bz (.inl ⟨_, SqL.of hpa⟩) (use_set_no hset (.inr (.inl ⟨_, _, rfl, hpa⟩)) ⟨false, rfl, ?_⟩)
      walk_at "rd"
      refine use_eqO bz True.intro (use_set_no hset (.inl ⟨5, rfl⟩) ⟨false, rfl, ?_⟩)
      walk_at "rd"
      refine use_eqO bz (.inr (.inr ⟨_, _, bz⟩)) (use_set_eq hset hset fun c2 GU hc2 gU => ⟨c2, rfl, ?_⟩)
      have hc2 : c2 = true := hc2.mpr rfl
      subst hc2
      have gIU := (gIB.trans gT).trans gU
      obtain ⟨_, ⟨lp, hpa, hpl⟩, _⟩ := FF GU gIU.sb
      walk_at "rd"
      try unfold L2.tNoPart
      walk_at "rd"
      refine use_sl (lo := none) (hi := some 1) (ys := [.ref lp]) (SqL.of hpa) (by rfl) fun q1 G1 n1 g1 c1 => ?_
      walk_at "rd"
      intro q2 n2
      generalize eG2 : upd _ q2 _ = G2
      obtain ⟨g2, c2⟩ := gen_new n2 eG2
      clear eG2
      refine use_cat (SqL.of (g2 _ _ c1)) (SqL.of c2) (by simp) fun q3 G3 n3 g3 c3 => ?_
      have hpa3 := g3 _ _ (g2 _ _ (g1 _ _ hpa))
      walk_at "rd"
      try unfold L2.tNoPart
      refine use_sl (lo := some 2) (hi := none) (ys := [.int p.fan, .int p.rec_, .int p.every, .int p.keep]) (SqL.of hpa3) (by rfl) fun q4 G4 n4 g4 c4 => ?_
      refine use_cat (SqL.of (g4 _ _ c3)) (SqL.of c4) (by simp) fun q5 G5 n5 g5 c5 => ?_
      have gU5 := (((g1.trans g2).trans g3).trans g4).trans g5
      have ok64 : Prt.Ok ⟨p.lens, 64, p.fan, p.rec_, p.every, p.keep⟩ := ⟨ok.l0, ok.l1, fun x hx => ⟨(ok.le x hx).1, by show x ≤ 64; have := (ok.le x hx).2; have := ok.s1; omega⟩, (show (1 : Int) ≤ 64 by decide), (show (64 : Int) ≤ 64 by decide), ok.f, ok.r, ok.e, ok.k⟩
      refine use_settings (p := ⟨p.lens, 64, p.fan, p.rec_, p.every, p.keep⟩) ⟨lp, c5, gU5 _ _ hpl⟩ ok64 fun b6 G6 n6 g6 st6 => ?_
      obtain ⟨d6, t6, h6, _⟩ := id st6
      have fin := (gIU.trans gU5).trans g6
      walk_at "rd"
      exact bl_eq rfl (k G6 (hIk.trans fin.sb) ⟨z1, z2, z3, fin _ _ hz⟩)

theorem b_law {K : PySem.W.Frag} {fd : FuncData} (F : F_law K fd) : Binds K fd P_law [] := FunD.bindsN F fun _ _ _ _ _ _ us hl => match us, hl with | [_], _ => rfl
theorem ok_law (T : Txt K mg D) : FnOk P w K mg base CX0 8 (He.fAd K ("law", none)) (D D_law) P_law (sp_law K) := by
  refine T.d_law.ok sc_law (fun vs H Q E h => ?_) (fun cdv A outer s H vs Q E hr h => ?_)
  · unfold sp_law at h
    first | (obtain ⟨rfl, _⟩ := h; rfl) | (obtain ⟨_, rfl, _⟩ := h; rfl) | (obtain ⟨_, _, rfl, _⟩ := h; rfl) | (obtain ⟨_, _, _, rfl, _⟩ := h; rfl) | (obtain ⟨_, _, _, _, rfl, _⟩ := h; rfl) | (obtain ⟨_, _, _, _, _, rfl, _⟩ := h; rfl) | (obtain ⟨_, _, _, _, _, _, rfl, _⟩ := h; rfl) | (obtain ⟨_, _, _, _, _, _, _, rfl, _⟩ := h; rfl) | (obtain ⟨_, _, _, _, _, _, _, _, rfl, _⟩ := h; rfl) | (obtain ⟨_, _, _, _, _, _, _, _, _, rfl, _⟩ := h; rfl) | (obtain ⟨_, _, _, _, _, _, _, _, _, _, rfl, _⟩ := h; rfl) | (obtain ⟨_, _, _, _, _, _, _, _, _, _, _, rfl, _⟩ := h; rfl)
  · refine ⟨_, PSs.nox (pss_cons (ps_for PassesOwn.never rfl (pi_range1 (by rfl) T.n_range (pa_cons (pe_callB (call_max2 rfl) (by rfl) T.n_max (by decide +kernel) (pa_cons pe_int (pa_cons (pe_callB (call_min2 rfl) (by rfl) T.n_min (by decide +kernel) (pa_cons pe_int (pa_cons (pe_callB (call_lenK (K := K)) (by rfl) T.n_len (by decide +kernel) (pa_cons (pv 0) pa_nil)) pa_nil))) pa_nil))) pa_nil)) (pg_name (i := 1) sc_law.nd rfl (Or.inl rfl)) (pss_cons (ps_set (i := 2) sc_law.nd rfl (Or.inl rfl) (pe_call (ok_law_source T) (hr.mono (by decide)) rfl T.g_law_source T.d_law_source.kp (b_law_source T.d_law_source) .nil pass0 (pa_cons (pv 0) (pa_cons (pv 1) pa_nil))))
      (pss_one (ps_if (pt_not (pt_val (pe_call (ok_law_right T) (hr.mono (by decide)) rfl T.g_law_right T.d_law_right.kp (b_law_right T.d_law_right) .nil pass0 (pa_cons (pv 2) pa_nil)))) (pss_one (ps_ret pe_bl)) pss_nil))))
      (pss_one (ps_ret pe_bl))), ?_⟩
    unfold sp_law at h
    obtain ⟨a, ns, rfl, hS, hl, k⟩ := h
    walk_at "rd"
    refine ⟨_, _, rfl, .inl hS, ?_⟩
    walk_at "rd"
    generalize hn : Int.toNat _ = n
    have hn2 : n ≤ 63 := by
      subst hn
      simp only [List.length_map]
      (repeat' split) <;> omega
    refine for_range (lo := 0) (n := n) (fun i σ H' => ∃ v1 v2, σ = [some (.ref a), v1, v2] ∧ Same H H') ⟨_, _, rfl, Same.refl _⟩ ?_ ?_
    · rintro i σ H1 hi ⟨v1, v2, rfl, f1⟩
      walk_at "rd"
      refine use_source (f1.seq hS) (by omega) fun s H2 n2 s2 h2 => ?_
      walk_at "rd"
      refine use_right h2 fun H3 s3 h3 => ?_
      walk_at "rd"
      exact same_sb_new (f1.trans s2) s3 (f1.free n2)
    · rintro σ H1 ⟨v1, v2, rfl, f1⟩
      walk_at "rd"
      exact k _

end
end KR
open PySem PySem.W PySem.Calls PyProof.Rows in
set_option maxRecDepth 100000 in
set_option maxHeartbeats 0 in
theorem PySem.Challenge.cw_keeprows_k01_settings_made_holds : PySem.Challenge.rw_keeprows_k01_settings_made.Holds := by
  w_on; o_law
  refine HandSHeadRun.head_any (r := OpenLaw.row PySem.Challenge.rw_keeprows_k01_settings_made) (q := view (OpenLaw.row PySem.Challenge.rw_keeprows_k01_settings_made).prog [26]) (H := KR.hk) (ob := KR.ob) (M := 4000) (loose := KR.looseN) (d := HandSHeadRun.topDef (OpenLaw.row PySem.Challenge.rw_keeprows_k01_settings_made).prog 26) (kwd := []) KR.ob_eq
    (by kernel_rfl) (fun s => by kernel_rfl) KR.run (by kernel_rfl) (by kernel_rfl) (by kernel_rfl) (by rfl) (by first | assumption | decide +kernel) (by decide +kernel) ⟨rfl, rfl, rfl, rfl, rfl, by decide +kernel⟩ ?hw ?hc
  case hw => w_witness2
  case hc =>
    refine L2.walk_ofE (l := PySem.Challenge.rw_keeprows_k01_settings_made) (n := 63) (k := 8) (x := "script") (CX := L2.CX0) rfl (by decide) (by kernel_rfl) ⟨rfl, by decide, by decide⟩ ?F (fun _ _ _ _ z => z)
    intro w mg fa h Y G hmg0
    obtain ⟨K, KX, c, cx⟩ := Y
    have hmg : mg ("law" : PySem.Str) = some (.ref fa) := by
      have e : (HandSHeadRun.topDef (OpenLaw.row PySem.Challenge.rw_keeprows_k01_settings_made).prog 26).name = ("law" : PySem.Str) := by kernel_rfl
      rw [← e]
      exact hmg0
    obtain ⟨D, T⟩ := KR.txt_of KX G c cx
    have e1 := hmg.symm.trans T.g_law
    cases e1
    exact ⟨K, D KR.D_law, KR.sp_law K, KX, fun s v => L2.FunD.bindsA (ps := ["script"]) T.d_law (fun _ _ _ _ _ _ us hl => match us, hl with | [_], _ => rfl) s [v] rfl, fun H a ns hl _ hS => by unfold KR.sp_law; exact ⟨a, ns, rfl, hS, hl, fun _ => rfl⟩, fun base _ _ => KR.ok_law T⟩
