import PyProof.Rows.All
import Wide.All
import OpenK.AllK
import Wide.FinOn
import HandS.ForMost
import HandS.Exc
import HandS.TryOnly
import HandS.TryMany
import HandS.WordsExc
import HandS.Defaults
import HandS.MakeKwOnly
import HandS.IsInst
import HandS.Sort
import HandS.OwnEq
import HandS.NoneIn
import HandS.Conv
import HandS.Flow
import HandS.Wide
import HandS.Evl
import HandS.Style
import HandS.Head0
import HandS.Head1
import HandS.Head2
import HandS.HeadEnd
import HandS.HeadHook1
import HandS.HeadHook2
import KE.KStateDown
import PyProof.LongRange
import HandS.ExcOwn
import HandS.ExcInit
import HandS.TryMany
import HandS.ExcField
import KE.KExcInit
import KE.KExcIs
import HandS.Lambda
import HandS.EndBits
import HandS.EndTab
import HandS.HeadWalk
import HandS.HeadHook4
import HandS.Nested
import HandS.NestedK
import PySem.Challenge.RW_keeprows_k38_places_of_records
set_option Elab.async false
set_option linter.all false
set_option maxRecDepth 100000
set_option maxHeartbeats 16000000
set_option pp.deepTerms false
set_option pp.deepTerms.threshold 2
namespace KR
open PySem PySem.Spec PyProof.Rows L2
/-! ### small rules -/
theorem iteB {c : Bool} {A B : Prop} (h1 : c = true → A) (h2 : c = false → B) : if c = true then A else B := by
  cases c with
  | true => exact h1 rfl
  | false => exact h2 rfl
theorem iteT_of {c : Bool} {A B : Prop} (h : c = true) (a : A) : if c = true then A else B := by subst h; exact iteT a
theorem iteF_of {c : Bool} {A B : Prop} (h : c = false) (b : B) : if c = true then A else B := by subst h; exact iteF b
@[irreducible] def rIsiI (K : PySem.W.Frag) : List V → Hp → VK → Prop := rIsi K
theorem call_isiI {X : Cx} : CallR X (.builtin "isinstance") (rIsiI X.K) := by unfold rIsiI; exact call_isi
theorem isi_int {K : PySem.W.Frag} {H : Hp} {i : Int} {Q : VK} (q : Q (.bl true) H) : rIsiI K [.int i, .ty "int"] H Q := by
  unfold rIsiI; exact ⟨_, _, _, _, true, rfl, .ty _, .base (.int i), kit_ty (by decide +kernel), q⟩
theorem isi_bool {K : PySem.W.Frag} {H : Hp} {i : Int} {Q : VK} (q : Q (.bl false) H) : rIsiI K [.int i, .ty "bool"] H Q := by
  unfold rIsiI; exact ⟨_, _, _, _, false, rfl, .ty _, .base (.int i), kit_ty (by decide +kernel), q⟩
theorem isi_list {K : PySem.W.Frag} {H : Hp} {a : Addr} {xs : List V} {Q : VK} (h : H a = some (.lst xs)) (q : Q (.bl true) H) : rIsiI K [.ref a, .ty "list"] H Q := by
  unfold rIsiI; exact ⟨_, _, _, _, true, rfl, .ty _, .base (.lst h), kit_ty (by decide +kernel), q⟩
theorem pe_le {X : Cx} {e : Expr} {t t' : TE} (h : PE X e t) (k : ∀ σ H Q, t' σ H Q → t σ H Q) : PE X e t' := ⟨fun pins s σ H Q I hw => h.run pins s σ H Q I (k σ H Q hw)⟩
theorem pe_powc {X : Cx} {a b c : Int} {i j : Nat} {p1 p2 pos : Pos} (h : 0 ≤ b ∧ b ≤ 1000000 ∧ a.natAbs < 2 ^ 64 ∧ a ^ b.toNat = c) :
    PE X (.BinOp (.Constant (.int a) i p1) .Pow (.Constant (.int b) j p2) pos) (tC (.int c)) :=
  pe_le (pe_op op_pow pe_int pe_int) fun σ H Q q => ⟨a, b, rfl, rfl, ⟨h.1, h.2.1, h.2.2.1⟩, (show Q (.int (a ^ b.toNat)) H by rw [h.2.2.2]; exact q)⟩
theorem pe_globi {X : Cx} {x : Str} {i : Int} {pos : Pos} (hm : ∃ t, X.mg x = some (.int i t)) (hg : Gl X x := by rfl) (hd : (x == ("__debug__" : Str)) = false := by decide) : PE X (.Name x pos) (tC (.int i)) := by
  obtain ⟨t, h⟩ := hm
  exact pe_glob hg h ⟨t, rfl⟩ hd
/-! ### side conditions of numbers -/
theorem log2_lt {n : Nat} {k : Nat} (h : n < 2 ^ k) (hk : 0 < k) : n.log2 < k := by
  by_cases hn : n = 0
  · subst hn; simpa using hk
  · exact (Nat.log2_lt hn).2 h
theorem cdw {i j : Int} (h0 : 0 < j) (h1 : j ≤ 1000000000000000000000000000000000000000000) : CDivW i j :=
  ⟨h0, log2_lt (Nat.lt_of_lt_of_le (Nat.lt_succ_of_le (show j.natAbs ≤ 1000000000000000000000000000000000000000000 by omega)) (by decide +kernel)) (by decide)⟩
theorem cdv {i j : Int} (h0 : 0 < j) (h1 : j < 1073741824) : CDiv i j := ⟨h0, h1⟩
theorem cml {i j : Int} (h0 : -18446744073709551616 < i) (h1 : i < 18446744073709551616) : CMul i j := .inl ⟨h0, h1⟩
theorem cmr {i j : Int} (h0 : -18446744073709551616 < j) (h1 : j < 18446744073709551616) : CMul i j := .inr ⟨h0, h1⟩
/-! ### heaps: what was tracked stands, but for one address -/
def SB (s : Addr) (H H' : Hp) : Prop := ∀ b o, b ≠ s → H b = some o → H' b = some o
theorem SB.refl {s : Addr} {H : Hp} : SB s H H := fun _ _ _ h => h
theorem SB.trans {s : Addr} {H H1 H2 : Hp} (a : SB s H H1) (b : SB s H1 H2) : SB s H H2 := fun c o n h => b c o n (a c o n h)
theorem _root_.L2.Same.sb {s : Addr} {H H' : Hp} (a : Same H H') : SB s H H' := fun c o _ h => a c o h
theorem SB.free {s : Addr} {H H' : Hp} (e : SB s H H') {l : Addr} (n : l ≠ s) (h : H' l = none) : H l = none := by
  cases q : H l with
  | none => rfl
  | some o => rw [e l o n q] at h; cases h
theorem SB.upd {s : Addr} {H : Hp} {o : HO} : SB s H (upd H s o) := fun b u n h => by rw [upd_ne n]; exact h
theorem same_new {H : Hp} {p : Addr} {o : HO} (h : H p = none) : Same H (upd H p o) := fun b u e => by rw [upd_ne (ne_of_none e h)]; exact e
theorem gen_new {H H' : Hp} {p : Addr} {o : HO} (n : H p = none) (e : upd H p o = H') : Same H H' ∧ H' p = some o := by
  subst e
  exact ⟨same_new n, upd_same⟩
/-- a new object, its heap a letter -/
theorem new_obj {H : Hp} {o : HO} {R : Addr → Hp → Prop} (h : ∀ p H', H p = none → Same H H' → H' p = some o → R p H') : ∀ p, H p = none → R p (upd H p o) :=
  fun p hp => h p _ hp (same_new hp) upd_same
theorem new_ref {H : Hp} {o : HO} {Q : VK} (h : ∀ p H', H p = none → Same H H' → H' p = some o → Q (.ref p) H') : ∀ p, H p = none → Q (.ref p) (upd H p o) :=
  fun p hp => h p _ hp (same_new hp) upd_same
theorem hp_same {H H' : Hp} {a : Addr} {o : HO} (s : Same H H') (h : H a = some o) : H' a = some o := s a o h
theorem hp_sb {s a : Addr} {H H' : Hp} {o : HO} (e : SB s H H') (n : a ≠ s) (h : H a = some o) : H' a = some o := e a o n h
end KR
namespace KR
open PySem PySem.Spec PyProof.Rows L2 MeetsSeq
/-! ### list + list where the left one may be of the written part -/
theorem add_any {l b : Addr} {items items2 : Array Value} {n n2 : Nat} {sl sl2 : Array (Option Value)} (hz : items.size + items2.size ≤ sizeLine) :
    Meets (Builtin.«list.__add__» ⟨[.ref l, .ref b], []⟩) (fun _ R s =>
      (s.heap.get? l = some ⟨.type "list", none, .seq items n, sl⟩ ∧ s.heap.get? b = some ⟨.type "list", none, .seq items2 n2, sl2⟩) ∧
      R (.ok (.ret (Value.ref s.heap.objs.size))) { s with heap := s.heap.push { cls := Value.type "list", data := Data.seq (items ++ items2) } }) :=
  .of_wp fun prog w A R s h => by
    obtain ⟨hp, g, d, tk, os⟩ := s
    obtain ⟨⟨e1, e2⟩, h⟩ := h
    have f1 := AutoSeq1.idx_int
    have f2 := AutoSeq1.sub_tuple_tuple
    have f3 := AutoSeq1.sub_list_list
    have f4 := AutoSeq1.sub_tuple_list
    have f5 := AutoSeq1.sub_list_tuple
    wp_walk using wpAny_loadPart' e1, wpAny_loadPart' e2
    exact ⟨_, rfl, h⟩
def rCatS (K : PySem.W.Frag) : R2 := fun x y H Q => ∃ l b xs zs, x = .ref l ∧ y = .ref b ∧ SqL K H l xs ∧ SqL K H b zs ∧ xs.length + zs.length ≤ 100000 ∧
  ∀ p H', H p = none → Same H H' → H' p = some (.lst (xs ++ zs)) → Q (.ref p) H'
theorem op_catS {X : Cx} : OpR X (binaryOp .Add) (rCatS X.K) := by
  intro pins s σ H x y v u Q I rx ry h
  obtain ⟨l, b, xs, zs, rfl, rfl, hl, hb, hz, q⟩ := h
  cases rx
  cases ry
  obtain ⟨its, r, ⟨o, n, e, ec, ed, es⟩, _⟩ := I.list hl
  obtain ⟨its2, r2, ⟨o2, n2, e2, ec2, ed2, es2⟩, _⟩ := I.list hb
  obtain ⟨c, d, dt, sl⟩ := o
  obtain ⟨c2, d2, dt2, sl2⟩ := o2
  dsimp only at ec ed es ec2 ed2 es2
  subst ec ed es ec2 ed2 es2
  have hlen : its.length + its2.length ≤ sizeLine := by
    rw [← r.length, ← r2.length]
    exact Nat.le_trans hz (by decide)
  refine concat_meets ⟨_, e, rfl⟩ ⟨_, e2, rfl⟩ noFill_list_add seq_list_add F.slot_list_add F.entry_list_add (F.args_list_add_2 _ _) (add_any (by rw [List.size_toArray, List.size_toArray]; exact hlen)) ⟨⟨e, e2⟩, ?_⟩
  have ea : its.toArray ++ its2.toArray = (its ++ its2).toArray := by simp
  rw [ea]
  have hn := I.fresh
  have J := I.lnew (t' := s.toks) (r.append r2) (by rw [List.length_append]; exact Nat.le_trans hz (by decide))
  exact ⟨.ref _, _, J, rfl, q _ _ hn (same_new hn) upd_same⟩
end KR
namespace KR
open PySem PySem.Spec PyProof.Rows L2
/-! ### frames -/
def SX (X : List Addr) (H H' : Hp) : Prop := ∀ b o, b ∉ X → H b = some o → H' b = some o
theorem SX.refl {X : List Addr} {H : Hp} : SX X H H := fun _ _ _ h => h
theorem SX.trans {X : List Addr} {H H1 H2 : Hp} (a : SX X H H1) (b : SX X H1 H2) : SX X H H2 := fun c o n h => b c o n (a c o n h)
theorem SX.mono {X Y : List Addr} {H H1 : Hp} (a : SX X H H1) (h : ∀ x ∈ X, x ∈ Y) : SX Y H H1 := fun c o n q => a c o (fun z => n (h c z)) q
theorem SB.sx {s : Addr} {X : List Addr} {H H1 : Hp} (a : SB s H H1) (h : s ∈ X) : SX X H H1 := fun c o n q => a c o (fun z => n (z ▸ h)) q
theorem _root_.L2.Same.sx {X : List Addr} {H H1 : Hp} (a : Same H H1) : SX X H H1 := fun c o _ q => a c o q
theorem SX.sb {s : Addr} {H H1 : Hp} (a : SX [s] H H1) : SB s H H1 := fun c o n q => a c o (by simpa using n) q
theorem SX.upd {X : List Addr} {H H' : Hp} {p : Addr} {o : HO} (a : SX X H H') (h : p ∈ X) : SX X H (upd H' p o) := fun c u n q => by
  have e : c ≠ p := fun z => n (by rw [z]; exact h)
  rw [upd_ne e]; exact a c u n q
theorem SX.mut {X : List Addr} {H H' : Hp} {p : Addr} {o : HO} (a : SX X H H') (h : H p = none) : SX X H (L2.upd H' p o) := fun c u n q => by
  rw [upd_ne (ne_of_none q h)]; exact a c u n q
theorem SB.mut {s : Addr} {H H' : Hp} {p : Addr} {o : HO} (a : SB s H H') (h : H p = none) : SB s H (L2.upd H' p o) := fun c u n q => by
  rw [upd_ne (ne_of_none q h)]; exact a c u n q
theorem _root_.L2.Same.mut {H H' : Hp} {p : Addr} {o : HO} (a : Same H H') (h : H p = none) : Same H (L2.upd H' p o) := fun c u q => by
  rw [upd_ne (ne_of_none q h)]; exact a c u q
theorem SX.drop {X : List Addr} {H H' : Hp} {p : Addr} (a : SX (p :: X) H H') (h : H p = none) : SX X H H' := fun c u n q => by
  refine a c u (fun z => ?_) q
  rcases List.mem_cons.mp z with e | e
  · rw [e, h] at q; cases q
  · exact n e
theorem szl {n : Nat} (h : n ≤ 100000) : n ≤ sizeLine := Nat.le_trans h (by decide)
theorem szlt {n : Nat} (h : n ≤ 100000) : n < sizeLine := Nat.lt_of_le_of_lt h (by decide)
theorem atI_int {xs : List V} {i : Int} {j : Nat} {v : V} (hi : i = (j : Int)) (h : xs[j]? = some v) : atI xs i = some v := by subst hi; exact atI_nat h
theorem at_of_lt {xs : List V} {i : Int} (h0 : 0 ≤ i) (h1 : i < xs.length) : ∃ v, v ∈ xs ∧ atI xs i = some v ∧ xs[i.toNat]? = some v := by
  have h : i.toNat < xs.length := by omega
  refine ⟨xs[i.toNat], List.getElem_mem h, ?_, List.getElem?_eq_getElem h⟩
  have e : i = (i.toNat : Int) := by omega
  exact atI_int (xs := xs) (v := xs[i.toNat]) e (List.getElem?_eq_getElem h)
theorem map_some {ns : List Int} {i : Nat} {v : V} (h : (ns.map V.int)[i]? = some v) : ∃ z, ns[i]? = some z ∧ v = .int z := by
  rw [List.getElem?_map] at h
  cases e : ns[i]? with
  | none => rw [e] at h; cases h
  | some z => rw [e] at h; exact ⟨z, rfl, (Option.some.inj h).symm⟩
theorem gen_st {H H' : Hp} {a : Addr} {o : HO} (e : upd H a o = H') : SB a H H' ∧ H' a = some o := by subst e; exact ⟨SB.upd, upd_same⟩
theorem lt1000 {n : Nat} (h : Nat.ble (n + 1) 1000 = true) : n < 1000 := Nat.le_of_ble_eq_true h
theorem kb_of {K : PySem.W.Frag} {x qual : Str} {params : Arguments} {body : List Stmt} {scope : Scope} {f : Addr} {fd : FuncData} {ps : List Str} (F : FunD K x qual params body scope [] [] f fd) (n : Nat) (ks : List Str)
    (g : {α : Type} → List α → List α → List α) (hrel : ∀ {vs zs : List V} {us ws : List Value}, Vals vs us → Vals zs ws → vs.length = n → zs.length = ks.length → Vals (g vs zs) (g us ws))
    (h : ∀ (kV doc pm : Value) (an : Option Addr) (cdv ct : Value) (us ws : List Value), us.length = n → ws.length = ks.length → bindArgs (PySem.W.fnOf x qual params body scope .none kV doc pm an cdv ct) ⟨us, ks.zip ws⟩ = pure (ps.zip (g us ws)))
    (hb : ∀ {vs zs : List V} {us ws : List Value}, Vals vs us → Vals zs ws → Vals (g vs zs) (g us ws)) :
    KBn K fd ps n ks (fun us ws => g us ws) (fun vs zs => g vs zs) := by
  obtain ⟨oc, od, dV, kV, doc, pm, an, cdv, ct, osl, rfl, lk, hcd, hD, hK⟩ := F.ex
  rcases hD with ⟨_, rfl⟩ | ⟨e, _⟩
  · exact ⟨fun s us ws _ l1 l2 => BindsTo.of_eq (h kV doc pm an cdv ct us ws l1 l2), fun r1 r2 => hb r1 r2⟩
  · exact absurd rfl e
/-- keywords in the parameters' order -/
theorem kb_app {K : PySem.W.Frag} {x qual : Str} {params : Arguments} {body : List Stmt} {scope : Scope} {f : Addr} {fd : FuncData} {ps : List Str} (F : FunD K x qual params body scope [] [] f fd) (n : Nat) (ks : List Str)
    (h : ∀ (kV doc pm : Value) (an : Option Addr) (cdv ct : Value) (us ws : List Value), us.length = n → ws.length = ks.length → bindArgs (PySem.W.fnOf x qual params body scope .none kV doc pm an cdv ct) ⟨us, ks.zip ws⟩ = pure (ps.zip (us ++ ws))) :
    KBn K fd ps n ks (fun us ws => us ++ ws) (fun vs zs => vs ++ zs) := kb_of F n ks (fun a b => a ++ b) (fun r1 r2 _ _ => r1.append r2) h fun r1 r2 => r1.append r2
theorem gen_mk {H H' : Hp} {x dx : Addr} {o u : HO} (n : H x = none) (nd : H dx = none) (e : upd (upd H dx u) x o = H') : Same H H' ∧ H' x = some o := by
  subst e
  exact ⟨fun b v h => by rw [upd_ne (ne_of_none h n), upd_ne (ne_of_none h nd)]; exact h, upd_same⟩
theorem same_sb_new {H H1 H2 : Hp} {x : Addr} (a : Same H H1) (b : SB x H1 H2) (n : H x = none) : Same H H2 := fun c o h => b c o (ne_of_none h n) (a c o h)
/-! ### the head's facts, and a further Bool -/
def obsB (n : Nat) (fa : List He.Fa) (fn : List He.DefD) (ex : PySem.W.Frag → Bool) (g : Addr → Option Obj) : He.AlD :=
  ((He.obsD fa fn (He.frG g (He.asD g n))).1 && ex (He.frG g (He.asD g n)), (He.obsD fa fn (He.frG g (He.asD g n))).2)
def hookB (n : Nat) (fa : List He.Fa) (fn : List He.DefD) (ex : PySem.W.Frag → Bool) : PySem.W.Hook where
  α := He.AlD
  obs := fun s => obsB n fa fn ex s.heap.get?
  val := fun _ => He.valD fn
  says := fun _ h => ∃ K : PySem.W.Frag, K.In h ∧ He.SaysD fa fn K ∧ ex K = true
  of := fun _ s e => by
    refine ⟨He.frG s.heap.get? (He.asD s.heap.get? n), He.frG_in, ?_⟩
    have e1 : ((He.obsD fa fn (He.frG s.heap.get? (He.asD s.heap.get? n))).1 && ex (He.frG s.heap.get? (He.asD s.heap.get? n))) = true := congrArg (fun z : He.AlD => z.1) e
    have e2 : (obsB n fa fn ex s.heap.get?).2 = (He.valD fn).2 := congrArg (fun z : He.AlD => z.2) e
    obtain ⟨h1, h2⟩ := He.ba e1
    exact ⟨Prod.ext h1 e2, h2⟩
  keeps := fun _ _ _ h k => by
    obtain ⟨K, hK, c⟩ := h
    exact ⟨K, PySem.W.Frag.In.keeps hK k, c⟩
theorem obsB_eq {n : Nat} {fa : List He.Fa} {fn : List He.DefD} {ex : PySem.W.Frag → Bool} {g : Addr → Option Obj} {s : Shared} (h : ∀ a, g a = s.heap.get? a) : obsB n fa fn ex g = (hookB n fa fn ex).obs s := by
  have e : g = s.heap.get? := funext h
  subst e
  rfl
/-- what isinstance wants of a class -/
structure IsC (K : PySem.W.Frag) (C : Addr) : Prop where
  cl : PySem.W.findIn K (.ref C) "__class__" = some (some (.builtin "object.__class__"))
  g : PySem.W.specialIn K (.builtin "object.__class__") "__get__" = some (some (.builtin "getset_descriptor.__get__"))
  t : PySem.W.takesIn K (.builtin "object.__class__") = some true
  m : PySem.W.mroIn K C (.type "object") = some true
def isCB (C : Str) (K : PySem.W.Frag) : Bool :=
  decide (PySem.W.findIn K (.ref (He.ga K C)) "__class__" = some (some (.builtin "object.__class__"))) && (decide (PySem.W.specialIn K (.builtin "object.__class__") "__get__" = some (some (.builtin "getset_descriptor.__get__"))) &&
    (decide (PySem.W.takesIn K (.builtin "object.__class__") = some true) && decide (PySem.W.mroIn K (He.ga K C) (.type "object") = some true)))
theorem isCB_ok {C : Str} {K : PySem.W.Frag} (h : isCB C K = true) : IsC K (He.ga K C) := by
  unfold isCB at h
  obtain ⟨h1, h⟩ := He.ba h
  obtain ⟨h2, h⟩ := He.ba h
  obtain ⟨h3, h4⟩ := He.ba h
  exact ⟨of_decide_eq_true h1, of_decide_eq_true h2, of_decide_eq_true h3, of_decide_eq_true h4⟩
def kitB1 (ty : String) (C : Str) (b : Bool) (K : PySem.W.Frag) : Bool := decide (PySem.W.kitOne K (.type ty) (.ref (He.ga K C)) = some b)
def kitB2 (C : Str) (ty : String) (b : Bool) (K : PySem.W.Frag) : Bool := decide (PySem.W.kitOne K (.ref (He.ga K C)) (.type ty) = some b)
def kitB3 (C D : Str) (b : Bool) (K : PySem.W.Frag) : Bool := decide (PySem.W.kitOne K (.ref (He.ga K C)) (.ref (He.ga K D)) = some b)
theorem isi_own {K : PySem.W.Frag} {H : Hp} {a C dx D : Addr} {fs : List (Str × V)} {b : Bool} {Q : VK} (h : H a = some (.ins C dx fs)) (c : Cls K C) (i : IsC K C) (k : PySem.W.kitOne K (.ref C) (.ref D) = some b) (q : Q (.bl b) H) :
    rIsiI K [.ref a, .ref D] H Q := by
  unfold rIsiI; exact ⟨_, _, _, _, b, rfl, .own _, .base (.ins h c i.cl i.g i.t i.m), k, q⟩
theorem none_all {l : List Str} {fs : List (Str × V)} (h : (l.all fun x => (List.lookup x fs).isNone) = true) : ∀ x ∈ l, List.lookup x fs = none := fun x hx => by
  have := List.all_eq_true.mp h x hx
  exact Option.isNone_iff_eq_none.mp this
/-! ### data without bools: == is equality -/
mutual
def nbD : PyData → Bool
  | .none => true
  | .int _ => true
  | .str x => PyData.strOk x
  | .list xs => nbA xs
  | .tuple xs => nbA xs
  | .bool _ => false
  | .dict _ => false
def nbA : List PyData → Bool
  | [] => true
  | x :: xs => nbD x && nbA xs
end
mutual
theorem nb_lay : ∀ d : PyData, nbD d = true → PyData.canLay0 d = true
  | .none, _ => rfl
  | .int _, _ => rfl
  | .str x, h => h
  | .list xs, h => nb_layA xs h
  | .tuple xs, h => nb_layA xs h
  | .bool _, h => by cases h
  | .dict _, h => by cases h
theorem nb_layA : ∀ ds : List PyData, nbA ds = true → PyData.canLayAll0 ds = true
  | [], _ => rfl
  | x :: xs, h => by
    obtain ⟨h1, h2⟩ := He.ba (show (nbD x && nbA xs) = true from h)
    show (PyData.canLay0 x && PyData.canLayAll0 xs) = true
    rw [nb_lay x h1, nb_layA xs h2]
    rfl
end
mutual
theorem eqv_nb : ∀ d e : PyData, nbD d = true → nbD e = true → (PyData.eqv d e = true ↔ d = e)
  | .none, e, _, he => by cases e <;> simp_all [PyData.eqv, nbD]
  | .int i, e, _, he => by cases e <;> simp_all [PyData.eqv, nbD]
  | .str x, e, _, he => by cases e <;> simp_all [PyData.eqv, nbD]
  | .list xs, e, hd, he => by
    cases e with
    | list ys =>
      have k := eqv_nbA xs ys hd he
      constructor
      · intro h
        exact congrArg PyData.list (k.mp (by simpa [PyData.eqv] using h))
      · intro h
        injection h with h
        simpa [PyData.eqv] using k.mpr h
    | _ => simp_all [PyData.eqv, nbD]
  | .tuple xs, e, hd, he => by
    cases e with
    | tuple ys =>
      have k := eqv_nbA xs ys hd he
      constructor
      · intro h
        exact congrArg PyData.tuple (k.mp (by simpa [PyData.eqv] using h))
      · intro h
        injection h with h
        simpa [PyData.eqv] using k.mpr h
    | _ => simp_all [PyData.eqv, nbD]
  | .bool _, _, hd, _ => by cases hd
  | .dict _, _, hd, _ => by cases hd
theorem eqv_nbA : ∀ ds es : List PyData, nbA ds = true → nbA es = true → (PyData.eqvAll ds es = true ↔ ds = es)
  | [], [], _, _ => by simp [PyData.eqvAll]
  | [], _ :: _, _, _ => by simp [PyData.eqvAll]
  | _ :: _, [], _, _ => by simp [PyData.eqvAll]
  | x :: xs, y :: ys, hd, he => by
    obtain ⟨h1, h2⟩ := He.ba (show (nbD x && nbA xs) = true from hd)
    obtain ⟨h3, h4⟩ := He.ba (show (nbD y && nbA ys) = true from he)
    have k1 := eqv_nb x y h1 h3
    have k2 := eqv_nbA xs ys h2 h4
    simp only [PyData.eqvAll, Bool.and_eq_true, List.cons.injEq, k1, k2]
end
/-- d, without bools, not deep -/
def NB (d : PyData) : Prop := nbD d = true ∧ PyData.depth d ≤ 64
@[irreducible] def rEqN (K : PySem.W.Frag) : R2 := fun x y H Q => ∃ d e, Dp K H x d ∧ Dp K H y e ∧ NB d ∧ NB e ∧ ∀ b, (b = true ↔ d = e) → Q (.bl b) H
@[irreducible] def rNeN (K : PySem.W.Frag) : R2 := fun x y H Q => ∃ d e, Dp K H x d ∧ Dp K H y e ∧ NB d ∧ NB e ∧ ∀ b, (b = true ↔ ¬ d = e) → Q (.bl b) H
theorem NB.sh {d : PyData} (h : NB d) : SeqAt.shaped d = true := by
  unfold SeqAt.shaped
  rw [nb_lay d h.1, decide_eq_true h.2]
  rfl
theorem op_eqN {X : Cx} (hu : X.A.units + 64 < cLine) : OpR X (compareOp .Eq) (rEqN X.K) := by
  intro pins s σ H x y v u Q I rx ry h
  unfold rEqN at h
  obtain ⟨d, e, hd, he, n1, n2, q⟩ := h
  exact op_eqD hu pins s σ H x y v u Q I rx ry ⟨d, e, hd, he, n1.sh, n2.sh, q _ (eqv_nb d e n1.1 n2.1)⟩
theorem op_neN {X : Cx} (hu : X.A.units + 64 < cLine) : OpR X (compareOp .NotEq) (rNeN X.K) := by
  intro pins s σ H x y v u Q I rx ry h
  unfold rNeN at h
  obtain ⟨d, e, hd, he, n1, n2, q⟩ := h
  refine op_neD hu pins s σ H x y v u Q I rx ry ⟨d, e, hd, he, n1.sh, n2.sh, q _ ?_⟩
  have k := eqv_nb d e n1.1 n2.1
  cases hb : PyData.eqv d e with
  | true => rw [hb] at k; simp [k.mp rfl]
  | false => rw [hb] at k; simp at k; simp [k]
theorem use_eqN {K : PySem.W.Frag} {H : Hp} {x y : V} {d e : PyData} {Q : VK} (hx : Dp K H x d) (hy : Dp K H y e) (n1 : NB d) (n2 : NB e) (q : ∀ b, (b = true ↔ d = e) → Q (.bl b) H) : rEqN K x y H Q := by unfold rEqN; exact ⟨d, e, hx, hy, n1, n2, q⟩
theorem use_neN {K : PySem.W.Frag} {H : Hp} {x y : V} {d e : PyData} {Q : VK} (hx : Dp K H x d) (hy : Dp K H y e) (n1 : NB d) (n2 : NB e) (q : ∀ b, (b = true ↔ ¬ d = e) → Q (.bl b) H) : rNeN K x y H Q := by unfold rNeN; exact ⟨d, e, hx, hy, n1, n2, q⟩
/-! lists of pyi as data -/
def pyi (xs : List Int) : List PyData := xs.map PyData.int
theorem dp_pyi {K : PySem.W.Frag} {H : Hp} : ∀ xs : List Int, DpAll K H (xs.map V.int) (pyi xs)
  | [] => .nil
  | x :: xs => .cons (.int x) (dp_pyi xs)
theorem nb_ints : ∀ xs : List Int, nbA (pyi xs) = true
  | [] => rfl
  | x :: xs => by
    show (nbD (.int x) && nbA (pyi xs)) = true
    rw [nb_ints xs]
    rfl
theorem dep_ints : ∀ xs : List Int, PyData.depthAll (pyi xs) = 0
  | [] => rfl
  | x :: xs => by
    show max (PyData.depth (.int x)) (PyData.depthAll (pyi xs)) = 0
    rw [dep_ints xs]
    rfl
theorem nb_list (xs : List Int) : NB (.list (pyi xs)) := ⟨nb_ints xs, by show PyData.depthAll (pyi xs) + 1 ≤ 64; rw [dep_ints]; decide⟩
theorem nb_tup (xs : List Int) : NB (.tuple (pyi xs)) := ⟨nb_ints xs, by show PyData.depthAll (pyi xs) + 1 ≤ 64; rw [dep_ints]; decide⟩
theorem ints_inj {xs ys : List Int} (h : pyi xs = pyi ys) : xs = ys := by
  have := congrArg (fun z : List PyData => z.map fun d => match d with | .int i => i | _ => 0) h
  simpa [pyi, List.map_map, Function.comp_def] using this
theorem list_ints {xs ys : List Int} : PyData.list (pyi xs) = PyData.list (pyi ys) ↔ xs = ys := ⟨fun h => ints_inj (by injection h), fun h => by rw [h]⟩
theorem tup_ints {xs ys : List Int} : PyData.tuple (pyi xs) = PyData.tuple (pyi ys) ↔ xs = ys := ⟨fun h => ints_inj (by injection h), fun h => by rw [h]⟩
/-! ### the rules, the written part named (a comprehension's block has the def's) -/
section
variable {X : Cx} {K : PySem.W.Frag}
theorem ix_listK (h : X.K = K := by rfl) : IxR X (rIxL K) := h ▸ ix_list
theorem ix_tupK (h : X.K = K := by rfl) : IxR X (rIxT K) := h ▸ ix_tup
def rLenN (K : PySem.W.Frag) : List V → Hp → VK → Prop := fun xs H Q => ∃ p ys, xs = [.ref p] ∧ (SqL K H p ys ∨ SqT K H p ys) ∧ Q (.int ys.length) H
theorem call_lenK (h : X.K = K := by rfl) : CallR X (.builtin "len") (rLenN K) := h ▸ call_len_seq
def rListN (K : PySem.W.Frag) : List V → Hp → VK → Prop := fun xs H Q => ∃ p ys, xs = [.ref p] ∧ (SqL K H p ys ∨ SqT K H p ys) ∧ ∀ l, H l = none → Q (.ref l) (upd H l (.lst ys))
theorem call_listK (h : X.K = K := by rfl) : CallR X (.type "list") (rListN K) := h ▸ call_list_of
def rTupN (K : PySem.W.Frag) : List V → Hp → VK → Prop := fun xs H Q => ∃ p ys, xs = [.ref p] ∧ ((SqL K H p ys ∧ ∀ l, H l = none → Q (.ref l) (upd H l (.tup ys))) ∨ (SqT K H p ys ∧ Q (.ref p) H))
theorem call_tupK (h : X.K = K := by rfl) : CallR X (.type "tuple") (rTupN K) := h ▸ call_tuple_of
theorem op_catSK (h : X.K = K := by rfl) : OpR X (binaryOp .Add) (rCatS K) := h ▸ op_catS
theorem op_inK (h : X.K = K := by rfl) : OpR X (compareOp .In) (rIn K false) := h ▸ op_in_seq
theorem op_notInK (h : X.K = K := by rfl) : OpR X (compareOp .NotIn) (rIn K true) := h ▸ op_notIn_seq
theorem op_eqNK (hu : X.A.units + 64 < cLine) (h : X.K = K := by rfl) : OpR X (compareOp .Eq) (rEqN K) := h ▸ op_eqN hu
theorem op_neNK (hu : X.A.units + 64 < cLine) (h : X.K = K := by rfl) : OpR X (compareOp .NotEq) (rNeN K) := h ▸ op_neN hu
theorem sl_listK (h : X.K = K := by rfl) : SlR X (rSlL K) := h ▸ sl_list
theorem sl_tupK (h : X.K = K := by rfl) : SlR X (rSlT K) := h ▸ sl_tup
theorem cr_sumK (hc : X.calm = true) (h : X.K = K := by rfl) : CallR X (.builtin "sum") (rSum K) := h ▸ cr_sum hc
theorem cr_maxK (hc : X.calm = true) (h : X.K = K := by rfl) : CallR X (.builtin "max") (rMax K) := h ▸ cr_max hc
theorem cr_minK (hc : X.calm = true) (h : X.K = K := by rfl) : CallR X (.builtin "min") (rMin K) := h ▸ cr_min hc
theorem call_isiK2 (h : X.K = K := by rfl) : CallR X (.builtin "isinstance") (rIsiI K) := h ▸ call_isiI
theorem pe_fldK {e : Expr} {ta : TE} {f : Str} {pos : Pos} (he : PE X e ta) (hb : attributeBase e f X.env (eval e X.env) = eval e X.env) (h : X.K = K := by rfl) : PE X (.Attribute e f pos) (tFld K ta f) := h ▸ pe_fld he hb
end
end KR
namespace KR
open PySem PySem.Spec PyProof.Rows L2
/-! ### ranges of any size, by ones -/
theorem turn_long {P : Program} {w : World} {K : PySem.W.Frag} {tg : Expr} (j : Addr) (lo : Int) (n : Nat) : Turn P w K tg (Itr lo n) [j] j (fun i h => IsLongIter h j (lo + (i : Nat) * 1) ((n : Int) - (i : Nat)) 1) where
  mem := List.mem_singleton.mpr rfl
  obj := fun i h q b hb => by
    rw [List.mem_singleton.mp hb]
    exact ⟨_, q, fun v z => by
      have y : Data.fields _ = Data.cell v := z
      cases y⟩
  keep := fun i h h' q k => k j (List.mem_singleton.mpr rfl) _ q
  item := by
    intro Y e1 e2 e3 hc i pins s σ H E I fp q g
    subst e1 e2 e3
    obtain ⟨a0, a1, a2, a3, a4, a5⟩ := fp j (List.mem_singleton.mpr rfl)
    refine (Walks.longrange (prog := Y.prog) (w := Y.w) (I.ok.hd hc) j lo 1 n).item i s _ _ g q fun v h' tk hv q' kk => ?_
    obtain ⟨t, rfl⟩ := hv
    have J : Inv Y pins σ H { s with heap := h', toks := tk } := I.turned (fun b o hb e => kk b o (by simpa using hb) e) a0 a1 a3 a4 a5
    exact ⟨_, rfl, go_of (s := { s with heap := h', toks := tk }) (n := "longrange_iterator") q' rfl rfl (by decide) ⟨.int (lo + i), H, J, ⟨t, by rw [Int.mul_one]⟩, ⟨rfl, rfl⟩, q', fun b hb => (fp b hb).1⟩⟩
  done := by
    intro Y e1 e2 e3 hc i pins s σ H E I fp q g
    subst e1 e2 e3
    obtain ⟨a0, a1, a2, a3, a4, a5⟩ := fp j (List.mem_singleton.mpr rfl)
    have hle : n ≤ i := g
    exact wpAny_pyNext_long_end (I.ok.hd hc) q (by omega) fun h' eb => ⟨rfl, I.turned (t' := s.toks) (fun b o hb e => eb b o hb e) a0 a1 a3 a4 a5⟩
  self := fun _ _ _ _ _ q h => wpAny_pyIter_longiter q h
section
variable {X : Cx} {tg : Expr}
theorem long_it {pins : List (Addr × Obj)} {σ : L2.St} {H : Hp} {s : Shared} {R : It → Hp → Prop} {E : Value → Shared → Prop} {lo hi : Int} {t u v : Tok} {tk : Nat} (I : Inv X pins σ H s) (hb : Builtin.Range.small lo hi 1 = false)
    (q : R (Itr lo (hi - lo).toNat) H) : wpAny (model X.prog X.w) X.A (pyIter (.ref s.heap.objs.size)) (PIE X pins σ tg R) E { s with heap := s.heap.push { cls := .type "range", data := .fields #[.int lo t, .int hi u, .int 1 v] }, toks := tk } := by
  refine wpAny_pyIter_longrange (IsRange.new ..) hb ?_
  have J := I.kept (h' := s.heap.push { cls := .type "range", data := .fields #[.int lo t, .int hi u, .int 1 v] }) (t' := tk) fun b o e => Heap.get?_push_of_some _ e
  refine ⟨_, [_], _, _, H, rfl, J.kept (t' := tk) fun b o e => Heap.get?_push_of_some _ e, turn_long _ lo (hi - lo).toNat, ?_, fun b hb => ?_, q⟩
  · have f1 : lo + ((0 : Nat) : Int) * 1 = lo := by simp
    have f2 : (((hi - lo).toNat : Nat) : Int) - ((0 : Nat) : Int) = Builtin.Range.rangeSize lo hi 1 := by
      rw [rangeSize_one]
      split <;> omega
    show IsLongIter _ _ (lo + ((0 : Nat) : Int) * 1) ((((hi - lo).toNat : Nat) : Int) - ((0 : Nat) : Int)) 1
    rw [f1, f2]
    exact Heap.get?_push_size _ rfl
  · rw [List.mem_singleton.mp hb]
    exact J.fpOk (Nat.le_refl _) (J.hok.fresh (Nat.le_refl _))
/-- small with the bounds that the library's rule wants, or any size -/
theorem any_it {pins : List (Addr × Obj)} {σ : L2.St} {H : Hp} {s : Shared} {R : It → Hp → Prop} {E : Value → Shared → Prop} {lo hi : Int} {t u v : Tok} {tk : Nat} (I : Inv X pins σ H s)
    (q : R (Itr lo (hi - lo).toNat) H) : wpAny (model X.prog X.w) X.A (pyIter (.ref s.heap.objs.size)) (PIE X pins σ tg R) E { s with heap := s.heap.push { cls := .type "range", data := .fields #[.int lo t, .int hi u, .int 1 v] }, toks := tk } := by
  cases hb : Builtin.Range.small lo hi 1 with
  | false => exact long_it I hb q
  | true =>
    refine wpAny_pyIter_range (IsRange.new ..) hb ?_
    have J := I.kept (h' := s.heap.push { cls := .type "range", data := .fields #[.int lo t, .int hi u, .int 1 v] }) (t' := tk) fun b o e => Heap.get?_push_of_some _ e
    refine ⟨_, [_], _, _, H, rfl, J.kept (t' := tk) fun b o e => Heap.get?_push_of_some _ e, turn_range _ lo (hi - lo).toNat, ?_, fun b hb => ?_, q⟩
    · have f1 : lo + ((0 : Nat) : Int) * 1 = lo := by simp
      have f2 : (((hi - lo).toNat : Nat) : Int) - ((0 : Nat) : Int) = Builtin.Range.rangeSize lo hi 1 := by
        rw [rangeSize_one]
        split <;> omega
      show IsRangeIter _ _ (lo + ((0 : Nat) : Int) * 1) ((((hi - lo).toNat : Nat) : Int) - ((0 : Nat) : Int)) 1
      rw [f1, f2]
      exact Heap.get?_push_size _ rfl
    · rw [List.mem_singleton.mp hb]
      exact J.fpOk (Nat.le_refl _) (J.hok.fresh (Nat.le_refl _))
def iRngB (ta : TA) : TI := fun σ H R => ta σ H fun vs H1 => ∃ i j : Int, vs = [.int i, .int j] ∧ R (Itr i (j - i).toNat) H1
theorem pi_rangeB {a b : Expr} {ta : TA} {p pos : Pos} (hg : Gl X "range") (hm : X.mg "range" = none) (ha : PA X [a, b] ta) (hs : starEach [a, b] X.env = [(false, eval a X.env), (false, eval b X.env)] := by rfl) (hs2 : starEach [b] X.env = [(false, eval b X.env)] := by rfl) :
    PI X tg (.Call (.Name "range" p) [a, b] [] pos) (iRngB ta) := by
  refine ⟨fun pins s σ H R I h => ?_⟩
  refine Call_ (ld_blt I hg hm boot_range (PyProof.Rows.callWith_type1 (thn (ha.run pos pins s σ H _ I h) fun us s1 z => ?_) (by rw [hs, hs2]) (by rw [hs2]; rfl)))
  obtain ⟨vs, H1, I1, r1, i, j, e, q⟩ := z
  subst e
  obtain ⟨u1, u2, e, ⟨t, e1⟩, ⟨t', e2⟩⟩ := vals2 r1
  subst e e1 e2
  exact call_range_2 (any_it I1 q)
end
end KR
namespace PySem.W
open PySem PySem.Calls PyProof.Rows Builtin
section
variable {prog : Program} {w : World} {A : Around} {E : Value → Shared → Prop} {s : Shared} {K : Frag} {x C L f : Addr} {h₀ : Heap} {m : Str → Option Value} {ox : Obj} {od : Option Obj} {b tb : Value}
/-- != of an instance whose class has its own __eq__ and object's __ne__ -/
theorem ne_own {Q : Value → Shared → Prop} (hu : A.units + 1 < cLine) (X : K.In s.heap) (I : InstAt s.heap x ox C od) (hb : Looks (model prog w) s.heap (typeOf b) tb) (hn : notFirst K C tb = true)
    (hs : findIn K (.ref C) "__eq__" = some (some (.ref f))) (hf : isFn K (.ref f) = true) (hne : findIn K (.ref C) "__ne__" = some (some (.builtin "object.__ne__"))) (hob : mroIn K C (.type "object") = some true)
    (h : wpAny (model prog w) A.in1 (call (.ref f) [.ref x, b]) (fun v s' => ∃ r, v = .bool r ∧ Q (.bool (!r)) s') E s) : wpAny (model prog w) A (richCompare .NotEq (.ref x) b) Q E s := by
  have S : Slot "object" "__ne__" "object.__ne__" := F.cmp_object.ne
  have body : wpAny (model prog w) A.in1 (Builtin.«object.__ne__» ⟨[.ref x, b], []⟩) (fun fin s' => match fin with | .done g => wants (fun v s' => ∃ r, v = .bool r ∧ Q v s') E (.ok g) s' | .again c' => c'.quiet = true ∧ codeAny (model prog w) A c' (wants (fun v s' => ∃ r, v = .bool r ∧ Q v s') E) s') (fun e s' => wants (fun v s' => ∃ r, v = .bool r ∧ Q v s') E (.error e) s') s := by
    unfold Builtin.«object.__ne__»
    have hu1 : A.in1.units < cLine := hu
    refine wpAny_bind (wpAny_pure ?_)
    refine wpAny_bind (wpAny_cRoomFor hu1 ?_)
    refine wpAny_bind (ifBound_K X I hs hf (wpAny_mono h (fun v s' hv => ?_) fun _ _ e => e))
    obtain ⟨r, rfl, q⟩ := hv
    dsimp only
    refine wpAny_bind (wpAny_truthy_bool ?_)
    exact wpAny_pure ⟨_, rfl, q⟩
  have one : wpAny (model prog w) A (tryCompare (.ref x) "__ne__" b) (fun r s' => ∃ v, r = some v ∧ Q v s') E s := by
    unfold tryCompare
    refine wpAny_bind ?_
    simp only [callSpecialIfBound?, bindSpecialIfBound?]
    refine wpAny_holding (wpAny_bind (wpAny_bind (wpAny_bind (I.type.here ((looks_findIn X hne).here ?_)))))
    simp only [S.bind]
    refine wpAny_bind (wpAny_askSetting (wpAny_ite ?_))
    have hcall : wpAny (model prog w) A (call (.builtin "object.__ne__") [.ref x, b]) (fun v s' => ∃ r, v = .bool r ∧ Q v s') E s := by
      refine wpAny_call (codeAny_call_builtin S.plain F.cmpEntry_ne (check_slot F.cmpKind_ne F.cmpSplit_ne (I.type.andThen (looks_mroIn X hob)) (F.cmpArgs_ne _ _) body))
    have fin : wpAny (model prog w) A (call (.builtin "object.__ne__") ([.ref x] ++ [b]) >>= fun v => pure (some v)) (fun (r : Option Value) s' => wpAny (model prog w) A (match r with | some .notImplemented | none => pure none | some v => pure (some v)) (fun r s' => ∃ v, r = some v ∧ Q v s') E s') E s := by
      refine wpAny_bind (wpAny_mono hcall (fun v s' h' => ?_) fun _ _ h' => h')
      obtain ⟨r, rfl, q⟩ := h'
      exact wpAny_pure (wpAny_pure ⟨_, rfl, q⟩)
    split
    · exact wpAny_bind (wpAny_pure (wpAny_pure fin))
    · exact wpAny_tryCatch (wpAny_bind (wpAny_pure (wpAny_pure fin)))
  have hu0 : A.units < cLine := Nat.lt_of_succ_lt hu
  unfold richCompare
  simp only [oneThing_ref]
  refine wpAny_holding (wpAny_bind (wpAny_cRoomFor hu0 ?_))
  refine wpAny_bind (I.type.here (wpAny_bind (hb.here ?_)))
  split
  · rename_i q
    have e : subIn K tb (.ref C) = some false := by
      rcases Bool.or_eq_true_iff.mp hn with e | e
      · rw [beq_iff_eq.mp e] at q; simp at q
      · exact beq_iff_eq.mp e
    refine wpAny_bind ((looks_subIn X e).here ?_)
    simp only [Bool.false_eq_true, if_false]
    refine wpAny_bind (wpAny_mono one (fun r s' z => ?_) fun _ _ e => e)
    obtain ⟨v, rfl, hq⟩ := z
    exact wpAny_pure hq
  · refine wpAny_bind (wpAny_pure ?_)
    simp only [Bool.false_eq_true, if_false]
    refine wpAny_bind (wpAny_mono one (fun r s' z => ?_) fun _ _ e => e)
    obtain ⟨v, rfl, hq⟩ := z
    exact wpAny_pure hq
end
end PySem.W
namespace KR
open PySem PySem.Spec PyProof.Rows L2
/-- what == by an own __eq__ wants of the class -/
structure EqC (K : PySem.W.Frag) (C : Addr) : Prop where
  nf : ∀ t ∈ (["int", "NoneType", "bool", "str", "list", "tuple", "dict"] : List String), PySem.W.notFirst K C (.type t) = true
  ne : PySem.W.findIn K (.ref C) "__ne__" = some (some (.builtin "object.__ne__"))
  ob : PySem.W.mroIn K C (.type "object") = some true
def eqCB (C : Str) (K : PySem.W.Frag) : Bool :=
  ((["int", "NoneType", "bool", "str", "list", "tuple", "dict"] : List String).all fun t => PySem.W.notFirst K (He.ga K C) (.type t)) &&
    (decide (PySem.W.findIn K (.ref (He.ga K C)) "__ne__" = some (some (.builtin "object.__ne__"))) && decide (PySem.W.mroIn K (He.ga K C) (.type "object") = some true))
theorem eqCB_ok {C : Str} {K : PySem.W.Frag} (h : eqCB C K = true) : EqC K (He.ga K C) := by
  unfold eqCB at h
  obtain ⟨h1, h⟩ := He.ba h
  obtain ⟨h2, h3⟩ := He.ba h
  exact ⟨fun t ht => List.all_eq_true.mp h1 t ht, of_decide_eq_true h2, of_decide_eq_true h3⟩
/-- the other side: a plain value, a list, a tuple or an instance of the same class -/
def OthV (K : PySem.W.Frag) (C : Addr) (H : Hp) : V → Prop
  | .int _ | .non | .bl _ | .str _ => True
  | .ref b => (∃ xs, SqL K H b xs) ∨ (∃ xs, SqT K H b xs) ∨ ∃ dx fs, H b = some (.ins C dx fs)
  | _ => False
theorem OthV.looks {X : Cx} {C : Addr} {pins : List (Addr × Obj)} {s : Shared} {σ : L2.St} {H : Hp} {y : V} {u : Value} (ec : EqC X.K C) (I : Inv X pins σ H s) (o : OthV X.K C H y) (r : RelV y u) :
    ∃ tb, PySem.W.Looks (model X.prog X.w) s.heap (typeOf u) tb ∧ PySem.W.notFirst X.K C tb = true := by
  cases y with
  | non => cases r; exact ⟨_, .now, ec.nf "NoneType" (by decide)⟩
  | bl i => cases r; exact ⟨_, .now, ec.nf "bool" (by decide)⟩
  | int i => obtain ⟨t, rfl⟩ := r; exact ⟨_, .now, ec.nf "int" (by decide)⟩
  | str i => obtain ⟨t, rfl⟩ := r; exact ⟨_, .now, ec.nf "str" (by decide)⟩
  | ref b =>
    cases r
    rcases o with ⟨xs, h⟩ | ⟨xs, h⟩ | ⟨dx, fs, h⟩
    · obtain ⟨its, _, ⟨o, n, ho, hc, _⟩, _⟩ := I.list h
      exact ⟨_, by rw [← hc]; exact (PySem.W.Looks.ld ho).andThen .now, ec.nf "list" (by decide)⟩
    · obtain ⟨its, _, ⟨o, ho, hc, _⟩, _⟩ := I.tuple h
      exact ⟨_, by rw [← hc]; exact (PySem.W.Looks.ld ho).andThen .now, ec.nf "tuple" (by decide)⟩
    · obtain ⟨m, J, _⟩ := ins_get I.hok h
      obtain ⟨od, J, _⟩ := J.look
      exact ⟨.ref C, J.type, by simp [PySem.W.notFirst]⟩
  | _ => exact absurd o (by intro z; exact z)
/-- x == y, x != y by the own __eq__ with the promise sp -/
@[irreducible] def rEqO (K : PySem.W.Frag) (C : Addr) (sp : Sp) (E : XK) : R2 := fun x y H Q => ∃ a dx fs, x = .ref a ∧ H a = some (.ins C dx fs) ∧ OthV K C H y ∧ sp [x, y] H (fun v H' => ∃ b, v = .bl b ∧ Q (.bl b) H') E
@[irreducible] def rNeO (K : PySem.W.Frag) (C : Addr) (sp : Sp) (E : XK) : R2 := fun x y H Q => ∃ a dx fs, x = .ref a ∧ H a = some (.ins C dx fs) ∧ OthV K C H y ∧ sp [x, y] H (fun v H' => ∃ b, v = .bl b ∧ Q (.bl (!b)) H') E
theorem use_eqO {K : PySem.W.Frag} {C : Addr} {sp : Sp} {E : XK} {a dx : Addr} {fs : List (Str × V)} {y : V} {H : Hp} {Q : VK} (h : H a = some (.ins C dx fs)) (o : OthV K C H y) (k : sp [.ref a, y] H (fun v H' => ∃ b, v = .bl b ∧ Q (.bl b) H') E) : rEqO K C sp E (.ref a) y H Q := by
  unfold rEqO; exact ⟨a, dx, fs, rfl, h, o, k⟩
theorem use_neO {K : PySem.W.Frag} {C : Addr} {sp : Sp} {E : XK} {a dx : Addr} {fs : List (Str × V)} {y : V} {H : Hp} {Q : VK} (h : H a = some (.ins C dx fs)) (o : OthV K C H y) (k : sp [.ref a, y] H (fun v H' => ∃ b, v = .bl b ∧ Q (.bl (!b)) H') E) : rNeO K C sp E (.ref a) y H Q := by
  unfold rNeO; exact ⟨a, dx, fs, rfl, h, o, k⟩
section
variable {X : Cx} {CX : CXT} {C f : Addr} {fd : FuncData} {ps : List Str} {sp : Sp} {E : XK} {k : Nat}
theorem run_own {A : Around} {pins : List (Addr × Obj)} {σ : L2.St} {H : Hp} {s : Shared} {Q : VK} {us : List Value} {vs : List V} (hA : A.frames = X.A.frames) (F : FnOk X.prog X.w X.K X.mg X.base CX k f fd ps sp) (hr : Room k A) (hb : Binds X.K fd ps []) (hx : Passes CX X E)
    (I : Inv X pins σ H s) (r : Vals vs us) (h : sp vs H Q E) : wpAny (model X.prog X.w) A (call (.ref f) us) (EP X pins σ Q) X.xe s := by
  have hl : us.length = ps.length := by rw [← r.length]; exact F.len _ _ _ _ h
  have e0 : Env0 X.prog X.w X.K X.mg X.base A X.stack s H := by
    have e := I.env0
    exact ⟨by rw [hA]; exact e.frames, e.mod, e.bs, e.bsz, e.funs, e.frf, e.hok, e.bare⟩
  refine wpAny_call (codeAny_mono (F.run A X.stack s H ⟨us, []⟩ us vs Q E hr e0 (by
    have := hb s us I.kIn (by simpa using hl)
    simpa using this) r h) fun r s' hq => ?_)
  cases r with
  | error e => exact hx pins σ H s e s' I hq
  | ok fl =>
    cases fl with
    | ret u => exact I.after hq
    | next => exact False.elim hq
    | brk => exact False.elim hq
    | cont => exact False.elim hq
theorem op_eqO (F : FnOk X.prog X.w X.K X.mg X.base CX k f fd ps sp) (hm : Meth X.K C "__eq__" f) (ec : EqC X.K C) (hr : Room k X.A) (hb : Binds X.K fd ps []) (hx : Passes CX X E) : OpR X (compareOp .Eq) (rEqO X.K C sp E) := by
  intro pins s σ H x y v u Q I rx ry hq
  unfold rEqO at hq
  obtain ⟨a, dx, fs, rfl, ha, o, q⟩ := hq
  cases rx
  obtain ⟨mA, J, _⟩ := ins_get I.hok ha
  obtain ⟨od, J, _⟩ := J.look
  obtain ⟨tb, hl, hn⟩ := o.looks ec I ry
  obtain ⟨m, hF⟩ := I.fr
  show wpAny (model X.prog X.w) X.A (richCompare .Eq (.ref a) u) (EP X pins σ Q) X.xe s
  refine PySem.W.cmp_K (op := .Eq) hr.units0 hF I.ok.mod.kin J hl hn hm.at_ hm.fn ?_
  refine wpAny_mono (run_own rfl F hr hb hx I (.cons (show RelV (.ref a) (.ref a) from rfl) (.cons ry .nil)) q) (fun r s' hq => ?_) fun _ _ e => e
  obtain ⟨w, H', I', rw', b, rfl, q⟩ := hq
  cases rw'
  exact ⟨.bl b, H', I', rfl, q⟩
theorem op_neO (F : FnOk X.prog X.w X.K X.mg X.base CX k f fd ps sp) (hm : Meth X.K C "__eq__" f) (ec : EqC X.K C) (hr : Room (k + 1) X.A) (hb : Binds X.K fd ps []) (hx : Passes CX X E) : OpR X (compareOp .NotEq) (rNeO X.K C sp E) := by
  intro pins s σ H x y v u Q I rx ry hq
  unfold rNeO at hq
  obtain ⟨a, dx, fs, rfl, ha, o, q⟩ := hq
  cases rx
  obtain ⟨mA, J, _⟩ := ins_get I.hok ha
  obtain ⟨od, J, _⟩ := J.look
  obtain ⟨tb, hl, hn⟩ := o.looks ec I ry
  show wpAny (model X.prog X.w) X.A (richCompare .NotEq (.ref a) u) (EP X pins σ Q) X.xe s
  refine PySem.W.ne_own hr.in1.units0 I.kIn J hl hn hm.at_ hm.fn ec.ne ec.ob ?_
  refine wpAny_mono (run_own rfl F hr.in1 hb hx I (.cons (show RelV (.ref a) (.ref a) from rfl) (.cons ry .nil)) q) (fun r s' hq => ?_) fun _ _ e => e
  obtain ⟨w, H', I', rw', b, rfl, q⟩ := hq
  cases rw'
  exact ⟨b, rfl, .bl (!b), H', I', rfl, q⟩
end
end KR
namespace KR
open PySem PySem.Spec PyProof.Rows L2 Builtin Builtin.ObjectAttr
/-! ### the head's facts, the module of statics among the written objects -/
def frC (g : Addr → Option Obj) (n : Nat) : PySem.W.Frag := He.frG g (cStatics :: He.asD g n)
def obsC (n : Nat) (fa : List He.Fa) (fn : List He.DefD) (ex : PySem.W.Frag → Bool) (g : Addr → Option Obj) : He.AlD := ((He.obsD fa fn (frC g n)).1 && ex (frC g n), (He.obsD fa fn (frC g n)).2)
def hookC (n : Nat) (fa : List He.Fa) (fn : List He.DefD) (ex : PySem.W.Frag → Bool) : PySem.W.Hook where
  α := He.AlD
  obs := fun s => obsC n fa fn ex s.heap.get?
  val := fun _ => He.valD fn
  says := fun _ h => ∃ K : PySem.W.Frag, K.In h ∧ He.SaysD fa fn K ∧ ex K = true
  of := fun _ s e => by
    refine ⟨frC s.heap.get? n, He.frG_in, ?_⟩
    obtain ⟨h1, h2⟩ := He.ba (show ((He.obsD fa fn (frC s.heap.get? n)).1 && ex (frC s.heap.get? n)) = true from congrArg (fun z : He.AlD => z.1) e)
    exact ⟨Prod.ext h1 (show (obsC n fa fn ex s.heap.get?).2 = (He.valD fn).2 from congrArg (fun z : He.AlD => z.2) e), h2⟩
  keeps := fun _ _ _ h k => let ⟨K, hK, c⟩ := h; ⟨K, PySem.W.Frag.In.keeps hK k, c⟩
theorem obsC_eq {n : Nat} {fa : List He.Fa} {fn : List He.DefD} {ex : PySem.W.Frag → Bool} {g : Addr → Option Obj} {s : Shared} (h : ∀ a, g a = s.heap.get? a) : obsC n fa fn ex g = (hookC n fa fn ex).obs s := by
  obtain rfl : g = s.heap.get? := funext h
  rfl
/-! ### own exceptions over LookupError, whose own begin calls the base's begin by the base's name and sets one field -/
abbrev leT : List Value := [.type "LookupError", .type "Exception", .type "BaseException", .type "object"]
/-- what the written part tells of such a class -/
structure LeC (K : PySem.W.Frag) (C : Addr) : Prop where
  ini : PySem.W.excInitIn K C leT "LookupError.__new__" = true
  ovr : PySem.W.excOver K C leT = true
  hd : PySem.W.hasDictIn K C = true
  sa : PySem.W.findIn K (.ref C) "__setattr__" = some (some (.builtin "object.__setattr__"))
  ga : PySem.W.findIn K (.ref C) "__getattribute__" = some (some (.builtin "BaseException.__getattribute__"))
  gg : PySem.W.findIn K (.ref C) "__getattr__" = some none
  exC : PySem.W.subIn K (.ref C) (.type "BaseException") = some true
  tyC : PySem.W.typeIn K (.ref C) = some (.type "type")
  kC : PySem.W.keepIn K (.ref C) = true
def leCB (C : Str) (K : PySem.W.Frag) : Bool :=
  PySem.W.excInitIn K (He.ga K C) leT "LookupError.__new__" && (PySem.W.excOver K (He.ga K C) leT && (PySem.W.hasDictIn K (He.ga K C) && (decide (PySem.W.findIn K (.ref (He.ga K C)) "__setattr__" = some (some (.builtin "object.__setattr__"))) &&
    (decide (PySem.W.findIn K (.ref (He.ga K C)) "__getattribute__" = some (some (.builtin "BaseException.__getattribute__"))) && (decide (PySem.W.findIn K (.ref (He.ga K C)) "__getattr__" = some none) &&
    (decide (PySem.W.subIn K (.ref (He.ga K C)) (.type "BaseException") = some true) && (decide (PySem.W.typeIn K (.ref (He.ga K C)) = some (.type "type")) && PySem.W.keepIn K (.ref (He.ga K C)))))))))
theorem leCB_ok {C : Str} {K : PySem.W.Frag} (h : leCB C K = true) : LeC K (He.ga K C) := by
  unfold leCB at h
  obtain ⟨h1, h⟩ := He.ba h
  obtain ⟨h2, h⟩ := He.ba h
  obtain ⟨h3, h⟩ := He.ba h
  obtain ⟨h4, h⟩ := He.ba h
  obtain ⟨h5, h⟩ := He.ba h
  obtain ⟨h6, h⟩ := He.ba h
  obtain ⟨h7, h⟩ := He.ba h
  obtain ⟨h8, h9⟩ := He.ba h
  exact ⟨h1, h2, h3, of_decide_eq_true h4, of_decide_eq_true h5, of_decide_eq_true h6, of_decide_eq_true h7, of_decide_eq_true h8, h9⟩
/-- the base, whose begin is LookupError's -/
structure LeB (K : PySem.W.Frag) (B : Addr) : Prop where
  sp : PySem.W.specialIn K (.ref B) "__getattribute__" = some (some (.builtin "type.__getattribute__"))
  rd : PySem.W.readsIn K B (.type "type") = true
  ini : PySem.W.findCls K (.ref B) (.type "type") "__init__" = some (.val (.builtin "LookupError.__init__"))
def leBB (B : Str) (K : PySem.W.Frag) : Bool :=
  decide (PySem.W.specialIn K (.ref (He.ga K B)) "__getattribute__" = some (some (.builtin "type.__getattribute__"))) && (PySem.W.readsIn K (He.ga K B) (.type "type") &&
    (match PySem.W.findCls K (.ref (He.ga K B)) (.type "type") "__init__" with | some (.val (.builtin i)) => decide (i = "LookupError.__init__") | _ => false))
theorem leBB_ok {B : Str} {K : PySem.W.Frag} (h : leBB B K = true) : LeB K (He.ga K B) := by
  unfold leBB at h
  obtain ⟨h1, h⟩ := He.ba h
  obtain ⟨h2, h3⟩ := He.ba h
  refine ⟨of_decide_eq_true h1, h2, ?_⟩
  split at h3
  · rename_i i e
    rw [e, of_decide_eq_true h3]
  · cases h3
def leIB (C : Str) (K : PySem.W.Frag) : Bool := decide (PySem.W.findIn K (.ref (He.ga K C)) "__init__" = some (some (.ref (He.fAd K (C, some "__init__")))))
def leTB (C : Str) (K : PySem.W.Frag) : Bool := decide (PySem.W.typeIn K (.ref (He.fAd K (C, some "__init__"))) = some (.type "function"))
def leXB (C D : Str) (b : Bool) (K : PySem.W.Frag) : Bool := decide (PySem.W.exmOne K (.ref (He.ga K C)) (.ref (He.ga K D)) = some b)
def leNB (C f : Str) (K : PySem.W.Frag) : Bool := decide (PySem.W.findIn K (.ref (He.ga K C)) f = some none)
section
variable {X : Cx} {pins : List (Addr × Obj)} {σ : L2.St} {H : Hp} {s : Shared} {a C dx : Addr} {f : Str} {y : V} {u : Value} {Q : Unit → Shared → Prop} {E : Value → Shared → Prop} {A : Around}
abbrev exq (C t : Addr) (d : Option Addr) : Obj := { cls := .ref C, dict := d, data := .fields #[.ref t, .none, .none, .none, .bool false, .none] }
/-- the store into an exception that has no dict -/
theorem le_osa {prog : Program} {w : World} {R : Result → Shared → Prop} {K : PySem.W.Frag} {hp : Heap} {g : Array GenState} {d : Drawn} {t : Nat} {os : OsState} {x t0 : Addr} {tk : Tok} {v : Value}
    (Y : K.In hp) (T : LeC K C) (hx : hp.get? x = some (exq C t0 none)) (no : PySem.W.findIn K (.ref C) f = some none)
    (hq : ∀ h' tk' dx, (∀ b o, b ≠ x → hp.get? b = some o → h'.get? b = some o) → hp.objs.size ≤ dx → dx ≠ x → h'.get? x = some (exq C t0 (some dx)) → h'.Ns1 dx (fun z => if z = f then some v else none) → R (.ok (.ret .none)) ⟨h', g, d, tk', os⟩) :
    codeAny (model prog w) A (.call (.builtin "object.__setattr__") ⟨[.ref x, .str f tk, v], []⟩) R ⟨hp, g, d, t, os⟩ := by
  have hxs : x ≠ hp.objs.size := Nat.ne_of_lt (Heap.lt_size hx)
  have tk0 : PySem.W.takerIn K C f = some none := by unfold PySem.W.takerIn; rw [no]; rfl
  refine PySem.W.osa_openX (od := none) PySem.F.store_LookupError Y ⟨hx, rfl, rfl, trivial⟩ T.ovr tk0 fun b => ?_
  obtain ⟨cd, hc, hd'⟩ := PySem.W.any_some T.hd
  have hcl : PySem.W.Looks (model prog w) hp (classData C) cd := PySem.W.looks_clsIn Y hc
  show wpAny _ _ (storeInOwnDict (.ref x) (.ref C) (.str f tk) f v b) _ _ _
  refine wpAny_bind (wpAny_pure (wpAny_bind (PySem.W.instanceDict_exc (c2 := .none) hx hcl hd' ?_)))
  show wpAny _ _ (storeInDict hp.objs.size (.str f tk) f v) _ _ _
  refine PySem.HandSPX.store_in_new ?_ fun h' tk' hn' hs => ?_
  · exact ⟨_, #[], _, (Heap.get?_update_ne _ _ _ _ hxs.symm).trans (Heap.get?_push_at rfl rfl), rfl, fun e he => absurd he (by simp), fun _ => rfl⟩
  · refine hq h' tk' hp.objs.size (fun b o hb ho => ?_) (Nat.le_refl _) hxs.symm ?_ hn'
    · exact (hs.2 b (Nat.ne_of_lt (Heap.lt_size ho))).trans ((Heap.get?_update_ne _ _ _ _ hb).trans (Heap.get?_push_of_some _ ho))
    · exact (hs.2 x hxs).trans (Heap.get?_update_self _ (Heap.get?_push_of_some _ hx) rfl)
/-- self.f = y, the exception has no dict yet -/
theorem le_store (T : LeC X.K C) (I : Inv X pins σ H s) (e : H a = some (exo a C none)) (no : PySem.W.findIn X.K (.ref C) f = some none) (ry : RelV y u)
    (h : ∀ dx s', H dx = none → dx ≠ a → Inv X pins σ (upd (upd H dx (exd dx [(f, y)])) a (exo a C (some dx))) s' → Q () s') : wpAny (model X.prog X.w) A (setAttr (.ref a) f u) Q E s := by
  obtain ⟨tt, he⟩ := exo_at I.hok e
  obtain ⟨hp, g, dr, tk, os⟩ := s
  refine PySem.W.set_plain I.kIn (ox := exq C tt none) (od := none) ⟨he, rfl, rfl, trivial⟩ T.sa ?_
  refine le_osa I.kIn T he no fun h' tk' dx kp big dne hx hn => ?_
  have hnd : H dx = none := I.hok.fresh big
  have old : ∀ {b : Addr} {o : Obj}, hp.get? b = some o → b ≠ dx := fun {b o} q => Nat.ne_of_lt (Nat.lt_of_lt_of_le (Heap.lt_size q) big)
  have nea : ∀ {b : Addr}, H b = none → b ≠ a := fun {b} n z => by rw [z, e] at n; cases n
  have U : Un X.fs [] H (upd (upd H dx (exd dx [(f, y)])) a (exo a C (some dx))) hp h' := by
    refine ⟨fun b o q n _ _ => kp b o (nea n) q, fun b o q n _ _ => ⟨o.slots, kp b o (nea n) q⟩, fun b o q n _ => ?_, fun b o q _ => ?_, fun b xs q => ?_, fun b o v q => ?_, fun b ps q => ⟨#[], ?_⟩⟩
    · rw [upd_ne (nea n), upd_ne (old q)]
      exact n
    · by_cases hb : b = a
      · rw [hb]
        exact ⟨_, hx⟩
      · exact ⟨o, kp b o hb q⟩
    · rw [upd_ne (at_ne e q exo_tup), upd_ne (ne_of_none q hnd)]
      exact q
    · rw [upd_ne (at_ne e q exo_frz), upd_ne (ne_of_none q hnd)]
      exact q
    · rw [upd_ne (at_ne e q exo_tbl), upd_ne (ne_of_none q hnd), q]
      simp
  refine h dx _ hnd dne (I.un (t' := tk') U fun b o q => ?_)
  by_cases hb : b = a
  · subst hb
    rw [upd_same] at q
    cases q
    exact exo_ok hx
  rw [upd_ne hb] at q
  by_cases hd : b = dx
  · subst hd
    rw [upd_same] at q
    cases q
    exact exd_ok hn (relO_put (fs := []) ry fun _ => True.intro)
  rw [upd_ne hd] at q
  refine (I.hok b o q).stay (fun c v hc z => kp c v ?_ z) (fun c hc => ?_) (fun c xs hc => ?_)
  · rcases hc with hc | hc
    · rw [hc]
      exact hb
    · exact at_ne e hc exo_own
  · rw [upd_ne (at_ne e hc exo_own), upd_ne (ne_of_none hc hnd)]
    exact hc
  · rw [upd_ne (at_ne e hc exo_tup), upd_ne (ne_of_none hc hnd)]
    exact hc
/-- LookupError's begin on the exception -/
theorem le_begin {us : List Value} {Q : Value → Shared → Prop} (T : LeC X.K C) (I : Inv X pins σ H s) (e : H a = some (exo a C none)) (hl : us.length ≤ sizeLine) (h : ∀ s', Inv X pins σ H s' → Q .none s') :
    wpAny (model X.prog X.w) A (call (.builtin "LookupError.__init__") (.ref a :: us)) Q E s := by
  obtain ⟨nm, N, qn, bs, bm, hdct, sn, sub, ab, col, dd, k0, k1, k2, k3, k5, hC, hT⟩ := PySem.W.excInit_of I.kIn T.ini
  obtain ⟨tt, he⟩ := exo_at I.hok e
  obtain ⟨hp, g, dr, tk, os⟩ := s
  refine wpAny_call (PySem.HandSPX.init_base PySem.F.excBase_LookupError hT hC he hl fun h' t2 kp hx => ?_)
  have J := I.write (t' := tk) (x := a) (e := a) (o := exo a C none) (by rw [e]; exact True.intro) (.inl rfl) kp ⟨_, hx⟩ (exo_ok hx)
  rw [show upd H a (exo a C none) = H from funext fun b => by
    by_cases hb : b = a
    · rw [hb, upd_same, e]
    · rw [upd_ne hb]] at J
  exact h _ J
end
/-- B.__init__(self, ..) -/
def tLeI (K : PySem.W.Frag) (ta : TA) : TE := fun σ H Q => ta σ H fun vs H1 => ∃ (a C : Addr) (ws : List V), vs = .ref a :: ws ∧ ws.length ≤ 1000 ∧ LeC K C ∧ H1 a = some (exo a C none) ∧ Q .non H1
/-- self.f = e -/
def tLeS (K : PySem.W.Frag) (f : Str) (to te : TE) : TS := fun D σ H => te σ H fun y H1 => to σ H1 fun x H2 => ∃ a C : Addr, x = .ref a ∧ LeC K C ∧ PySem.W.findIn K (.ref C) f = some none ∧ H2 a = some (exo a C none) ∧
  ∀ dx, H2 dx = none → dx ≠ a → D.nx σ (upd (upd H2 dx (exd dx [(f, y)])) a (exo a C (some dx)))
/-- C(e, ..), C's begin keeping sp -/
def tLeM (C : Addr) (sp : Sp) (ta : TA) : L2.St → Hp → XK → Prop := fun σ H Q => ta σ H fun vs H1 => vs.length ≤ 1000 ∧ ∀ a, H1 a = none → sp (.ref a :: vs) (upd H1 a (exo a C none))
  (fun v H2 => v = .non ∧ ∃ (d : Addr) (fs : List (Str × V)), H2 a = some (exo a C (some d)) ∧ H2 d = some (exd d fs) ∧ H1 d = none ∧ Q (.ref C) (some d) (upd (del H2 a) d (.xd fs))) (fun _ _ _ => False)
section
variable {X : Cx} {o e : Expr} {es : List Expr} {to te : TE} {ta : TA} {f : Str} {p p' p1 p2 pos : Pos}
theorem pe_leI {B : Addr} {x : Str} {pl : Sem Bool} (T : LeB X.K B) (hg : Gl X x) (hm : X.mg x = some (.ref B)) (ha : PA X (e :: es) ta) (hdb : (x == ("__debug__" : Str)) = false := by decide)
    (hc : eval (.Call (.Attribute (.Name x p1) "__init__" p2) (e :: es) [] pos) X.env = (do
      let ov ← eval (.Name x p1) X.env
      standAt p2.atName
      let (f, first) ← holding [ov] (getMethod ov "__init__" pl)
      callWith pos f first (backTo pos (starEach (e :: es) X.env)) (backToKw pos (keywordEach [] X.env))) := by rfl)
    (he : starEach (e :: es) X.env = (false, eval e X.env) :: starEach es X.env := by rfl) (hpl : (backTo pos (starEach es X.env)).any (·.1) = false := by rfl) :
    PE X (.Call (.Attribute (.Name x p1) "__init__" p2) (e :: es) [] pos) (tLeI X.K ta) := by
  refine ⟨fun pins s σ H Q I h => ?_⟩
  refine PySem.W.methodCall_KW (ld_glob I hg hm ?_ hdb) hc
  refine PySem.W.method_cls I.kIn T.sp (PySem.W.cls_value I.kIn T.rd T.ini (by decide +kernel) ?_)
  show wpAny _ _ (callWith pos (Value.builtin "LookupError.__init__") [] (backTo pos (starEach (e :: es) X.env)) []) _ _ _
  refine PyProof.Rows.callWith_method1 (thn (ha.run pos pins _ σ H _ (I.tok _) h) fun us s1 hh => ?_) he hpl
  obtain ⟨vs, H1, I1, r1, a, C, ws, ev, hl, TC, ea, q⟩ := hh
  subst ev
  cases r1 with
  | @cons _ u0 _ ur ra rw' =>
    obtain rfl : u0 = Value.ref a := ra
    refine le_begin TC I1 ea (by rw [← Paired.length rw', sizeLine_eq]; omega) fun s' J => ⟨.non, H1, J, rfl, q⟩
theorem ps_leS (ho : PE X o to) (he : PE X e te) (hs : swapsWith e (some (.Attribute o f p')) pos.line X.env = pure false := by rfl) : PS X (.Assign [.Attribute o f p'] e pos) (tLeS X.K f to te) := by
  refine ⟨fun pins s σ H D I h => ?_⟩
  refine plainObj_wpAny_Assign_Attribute (thn (he.run pins s σ H _ I h) fun v s1 hh => ?_) hs
  obtain ⟨y, H1, I1, r1, q1⟩ := hh
  refine thn (ho.run pins s1 σ H1 _ I1 q1) fun u s2 hh2 => ?_
  obtain ⟨x, H2, I2, r2, a, C, ex, T, no, ea, q⟩ := hh2
  subst ex
  obtain rfl : u = Value.ref a := r2
  exact le_store T I2 ea no r1 fun dx s' n ne J => ⟨σ, _, J, q dx n ne⟩
theorem pmk_le {CX : CXT} {x : Str} {C fI : Addr} {k : Nat} {fd : FuncData} {ps : List Str} {sp : Sp} (T : LeC X.K C) (iC : PySem.W.findIn X.K (.ref C) "__init__" = some (some (.ref fI))) (tI : PySem.W.typeIn X.K (.ref fI) = some (.type "function"))
    (F1 : FnOk X.prog X.w X.K X.mg X.base CX k fI fd ps sp) (hr : Room (k + 1) X.A) (hg : Gl X x) (hm : X.mg x = some (.ref C)) (hb : Binds X.K fd ps []) (hx : Passes CX X (fun _ _ _ => False)) (ha : PA X (e :: es) ta)
    (hdb : (x == ("__debug__" : Str)) = false := by decide) (he : starEach (e :: es) X.env = (false, eval e X.env) :: starEach es X.env := by rfl) (hpl : (backTo pos (starEach es X.env)).any (·.1) = false := by rfl) :
    PMk X (.Call (.Name x p) (e :: es) [] pos) (tLeM C sp ta) := by
  intro pins s σ H Q I h
  refine wpAny_Call_Name_kw (ld_glob I hg hm ?_ hdb)
  refine PySem.W.callWith_K (h₀ := X.base) I.ok.mod.kin T.kC (thn (ha.run pos pins s σ H _ I h) fun us s1 hh => ?_) he hpl
  obtain ⟨vs, H1, I1, r1, hz, q1⟩ := hh
  refine ⟨I1.kIn, ?_⟩
  show wpAny _ _ (call (.ref C) us) _ _ _
  obtain ⟨nm, N, qn, bs, bm, hdct, sn, sub, ab, col, dd, k0, k1, k2, k3, k5, hC, hT⟩ := PySem.W.excInit_of I1.kIn T.ini
  obtain ⟨hp, g, dr, tk, os⟩ := s1
  have big : hp.objs.size ≤ hp.objs.size + 1 := Nat.le_succ _
  have hq := q1 (hp.objs.size + 1) (I1.hok.fresh big)
  have kk : ∀ b o, hp.get? b = some o → ((hp.push (PySem.W.kdv_tup us)).push (PySem.HandSPX.excO C hp.objs.size)).get? b = some o := fun b o z => Heap.get?_push_of_some _ (Heap.get?_push_of_some _ z)
  have at1 : ((hp.push (PySem.W.kdv_tup us)).push (PySem.HandSPX.excO C hp.objs.size)).get? (hp.objs.size + 1) = some (PySem.HandSPX.excO C hp.objs.size) := by heap_get
  have J : Inv X pins σ (upd H1 (hp.objs.size + 1) (exo (hp.objs.size + 1) C none)) ⟨(hp.push (PySem.W.kdv_tup us)).push (PySem.HandSPX.excO C hp.objs.size), g, dr, tk, os⟩ := I1.laid (t' := tk) kk big (exo_ok at1)
  have r2 : Vals (V.ref (hp.objs.size + 1) :: vs) (Value.ref (hp.objs.size + 1) :: us) := .cons rfl r1
  have hl : (Value.ref (hp.objs.size + 1) :: us).length = ps.length := by
    rw [← F1.len _ _ _ _ hq]
    exact r2.length.symm
  have hus : us.length ≤ sizeLine := by
    rw [← Paired.length r1, sizeLine_eq]
    omega
  have hbb := hb _ (Value.ref (hp.objs.size + 1) :: us) J.kIn (by rw [List.append_nil]; exact hl)
  rw [List.append_nil] at hbb
  refine wpAny_call (PySem.HandSPX.call_own PySem.F.excBase_LookupError hT hC (PySem.W.looks_findIn I1.kIn iC) (fun self => PySem.W.bind_fn I1.kIn self tI) hus
    (codeAny_mono (F1.run _ X.stack _ _ ⟨Value.ref (hp.objs.size + 1) :: us, []⟩ _ _ _ (fun _ _ _ => False) (hr.make C us []) (J.env0.make C us []) hbb r2 hq) fun r s' hq' => ?_))
  cases r with
  | error er => exact hx pins σ _ _ er s' J hq'
  | ok fl =>
    cases fl with
    | ret u =>
      obtain ⟨v, H2, os2, bare2, un2, hok2, rv, ev, d, fs, ea, ed, hd1, q2⟩ := hq'
      subst ev
      obtain ⟨h2, g2, d2, t2, os'⟩ := s'
      exact ⟨rv, mk_end (raises_own T.exC T.tyC) I1 big kk un2 hok2 os2 bare2 ea ed hd1 q2⟩
    | next => exact False.elim hq'
    | brk => exact False.elim hq'
    | cont => exact False.elim hq'
end
/-! ### try with several clauses, with names or without -/
/-- a clause's suite, its name in slot i -/
def hSu (ts : Addr → Value → Option Addr → TS) (ex : Addr) (cl : Value) (dd : Option Addr) (D : Ends) (σ : L2.St) (H : Hp) : Option Nat → Prop
  | none => ts ex cl dd D σ H
  | some i => ts ex cl dd { nx := fun z G => D.nx (z.set i none) G, rt := D.rt, bk := fun z G => D.bk (z.set i none) G, ct := fun z G => D.ct (z.set i none) G } (σ.set i (some (.ref ex))) H
def wTry (K : PySem.W.Frag) (Wo : WX) (D : Ends) : List (Value × Option Nat × (Addr → Value → Option Addr → TS)) → WX
  | [] => Wo
  | (c, i, ts) :: r => fun cl dd σ H => ∃ b, PySem.W.exmOne K cl c = some b ∧ (b = true → ∀ ex, H ex = none → hSu ts ex cl dd D σ H i) ∧ (b = false → wTry K Wo D r cl dd σ H)
inductive HdsN (X : Cx) : List ExceptHandler → List (Value × Option Nat × (Addr → Value → Option Addr → TS)) → Prop
  | nil : HdsN X [] []
  | bare {x : Str} {c : Value} {ts : Addr → Value → Option Addr → TS} {t₀ : Stmt} {su : List Stmt} {np pp : Pos} {hds : List ExceptHandler} {l : List (Value × Option Nat × (Addr → Value → Option Addr → TS))} (hc : Names X x c)
      (hsu : ∀ (ex : Addr) (oe : Obj) (cl : Value) (dd : Option Addr) (pn : List (Addr × Obj)), Zc cl dd oe → (∃ vs, oe.data = .fields vs) → PSs (X.suite ex ((ex, oe) :: pn)) (t₀ :: su) (ts ex cl dd)) (r : HdsN X hds l) :
      HdsN X (.ExceptHandler (some (.Name x np)) none (t₀ :: su) pp :: hds) ((c, none, ts) :: l)
  | named {x n : Str} {i : Nat} {c : Value} {ts : Addr → Value → Option Addr → TS} {t₀ : Stmt} {su : List Stmt} {np pp : Pos} {hds : List ExceptHandler} {l : List (Value × Option Nat × (Addr → Value → Option Addr → TS))} (hN : X.N.Nodup) (hi : X.N[i]? = some n) (hln : X.env.kindOf n = some .local) (hc : Names X x c)
      (hsu : ∀ (ex : Addr) (oe : Obj) (cl : Value) (dd : Option Addr) (pn : List (Addr × Obj)), Zc cl dd oe → (∃ vs, oe.data = .fields vs) → PSs (X.suite ex ((ex, oe) :: pn)) (t₀ :: su) (ts ex cl dd)) (r : HdsN X hds l) :
      HdsN X (.ExceptHandler (some (.Name x np)) (some n) (t₀ :: su) pp :: hds) ((c, some i, ts) :: l)
section
variable {X : Cx} {body : List Stmt} {h₀ : ExceptHandler} {hds : List ExceptHandler} {l : List (Value × Option Nat × (Addr → Value → Option Addr → TS))} {pos : Pos} {tb : WX → TS} {Wo : WX}
theorem ps_tryN (hs : X.stack = X.env :: X.outer) (hf : X.env.frame = some X.env.locals) (tk : Takes X Wo)
    (hb : ∀ (W : WX) (pn : List (Addr × Obj)) (xe : Value → Shared → Prop), Takes (X.tr pn xe) W → PassesOwn (model X.prog X.w) X.A X.env xe → PSs (X.tr pn xe) body (tb W))
    (hh : HdsN X (h₀ :: hds) l) : PS X (.Try body (h₀ :: hds) [] [] pos) (fun D σ H => tb (wTry X.K Wo D l) D σ H) := by
  refine ⟨fun pins s σ H D I h => ?_⟩
  have okX := I.ok
  have frm : X.A.frames = some (X.env :: X.outer) := by rw [okX.frames, hs]
  refine wpAny_Try_except (wpAny_mono ((hb (wTry X.K Wo D l) (X.pn ++ pins) (fun ev sa => wpAny (model X.prog X.w) X.A (noteFrame ev X.env) (fun _ sb => wpAny (model X.prog X.w) X.A (setFlight ev none) (fun _ sc =>
    wpAny (model X.prog X.w) X.A (handleBy ev X.env (h₀ :: hds)) (SP X pins D) X.xe sc) X.xe sb) X.xe sa) (fun u sv xx => ?_) PassesOwn.looking).run [] s σ H D (I.toTry _) h) (fun fl sq hsp => ?_) (fun ev sq he => he))
  · obtain ⟨ex, B, sI, pz, σz, Hz, cl, dd, rfl, Jt, nb, up, sky, nex, hos, bare, wish⟩ := xx
    have J : Inv X pins σz Hz sI := Jt.ofTry okX
    have sk2 : Sky B (X.env :: X.outer) ex (Zc cl dd) X.env.locals sv.heap := by rw [← hs]; exact sky
    show wpAny (model X.prog X.w) X.A (noteFrame (.ref ex) X.env) _ _ _
    refine Sky.land Zc.steady frm hf sk2 fun ha fla upa => ?_
    have Ja : Inv X pins σz Hz { sv with heap := ha } := J.landed nb fla.1 (up.trans upa) hos bare
    obtain ⟨oa, va, hea, hza, hda⟩ := fla.there
    have nfr : ex ∉ frs (X.env :: X.outer) := fun hm => by
      obtain ⟨_, o', e', hnf⟩ := fla.2.2.1.mem hm
      rw [hea] at e'
      cases e'
      exact hnf _ hda
    have nL : ex ≠ X.env.locals := fun z => nfr (List.mem_filterMap.mpr ⟨X.env, List.mem_cons_self, by rw [hf, z]⟩)
    have nF : ex ∉ X.fs := fun hm => by
      obtain ⟨ev, he, q⟩ := List.mem_filterMap.mp hm
      exact nfr (List.mem_filterMap.mpr ⟨ev, List.mem_cons_of_mem _ he, q⟩)
    have Sa := Ja.suite hea hda nex nL nF
    have named : ∀ {x : Str} {c : Value} {np : Pos} {Q : Value → Shared → Prop} {E : Value → Shared → Prop}, Names X x c → Q c { sv with heap := ha } → wpAny (model X.prog X.w) (X.A.mark (some (.ref ex))) (eval (.Name x np) X.env) Q E { sv with heap := ha } := fun {x c np Q E} hc q => by
      obtain ⟨hg, hdbg, hm | ⟨hm, hv, hnn⟩⟩ := hc
      · exact ld_glob (X := X.suite ex ((ex, oa) :: (X.pn ++ pins))) Sa hg hm q hdbg
      · exact ld_blt (X := X.suite ex ((ex, oa) :: (X.pn ++ pins))) Sa hg hm hv q hnn hdbg
    have LT : PySem.W.Looks (model X.prog X.w) ha (typeOf (.ref ex)) cl := fun A Q E s k q => wpAny_typeOf_ref (k _ _ hea) (by rw [hza.1]; exact q)
    have go : ∀ {hs' : List ExceptHandler} {l' : List (Value × Option Nat × (Addr → Value → Option Addr → TS))}, HdsN X hs' l' → wTry X.K Wo D l' cl dd σz Hz →
        wpAny (model X.prog X.w) X.A (handleBy (.ref ex) X.env hs') (SP X pins D) X.xe { sv with heap := ha } := by
      intro hs' l' hk
      induction hk with
      | nil =>
        intro w
        refine wpAny_handleBy_nil ?_
        obtain ⟨k1, k2, k3, oe, vs, T, oT, ts', he, hz, hd, h1, hr⟩ := id fla
        unfold PySem.passOn
        refine wpAny_bind (wpAny_field he hd h1 ?_)
        rw [if_neg (show ¬ ((Value.ref T == Value.none) = true) from by simp)]
        have out : wpAny (model X.prog X.w) X.A (setFlight (.ref ex) X.env.frame) (fun _ s4 => wpAny (model X.prog X.w) X.A (throw (.ref ex) : Sem Flow) (SP X pins D) X.xe s4) X.xe { sv with heap := ha } := by
          rw [hf]
          refine HandSPX.setFlight_upZ fla fun hc held upc => wpAny_throw (tk _ _ ?_)
          exact ⟨ex, B, sI, pins, σz, Hz, cl, dd, rfl, J, nb, (up.trans upa).trans upc, .inr (.inr (by rw [hs]; exact held)), nex, hos, bare, w⟩
        first
          | exact wpAny_bind (wpAny_pure (wpAny_bind out))
          | exact wpAny_bind out
      | @bare x c ts t₀ su np pp hds2 l2 hc hsu r ih =>
        intro w
        obtain ⟨b, hb1, hyes, hno⟩ := w
        refine wpAny_handleBy_cons (codeAny_handlers_test (named hc ((PySem.W.exm_one (M := model X.prog X.w) (Ja.kIn) LT hb1).here ?_))) (by intro q; cases q)
        cases b with
        | false => exact ih (hno rfl)
        | true =>
          refine codeAny_handlers_suite (HandSPX.lands_againZ fla fun hc flc upc => ?_)
          have Jc : Inv X pins σz Hz { sv with heap := hc } := J.landed nb flc.1 ((up.trans upa).trans upc) hos bare
          obtain ⟨oc, vc, hec, hzc, hdc⟩ := flc.there
          refine wpAny_mono ((hsu ex oc cl dd (X.pn ++ pins) hzc ⟨_, hdc⟩).run [] _ _ Hz _ (Jc.suite hec hdc nex nL nF) (hyes rfl ex nex)) (fun fl sx hsp => ?_) (fun _ _ z => False.elim z)
          cases fl with
          | ret u =>
            obtain ⟨v, σx, Hx, Sx, rx, qx⟩ := hsp
            exact ⟨_, _, _, Sx.unsuite okX, rx, qx⟩
          | next =>
            obtain ⟨σx, Hx, Sx, qx⟩ := hsp
            exact ⟨_, _, Sx.unsuite okX, qx⟩
          | brk =>
            obtain ⟨σx, Hx, Sx, qx⟩ := hsp
            exact ⟨_, _, Sx.unsuite okX, qx⟩
          | cont =>
            obtain ⟨σx, Hx, Sx, qx⟩ := hsp
            exact ⟨_, _, Sx.unsuite okX, qx⟩
      | @named x n i c ts t₀ su np pp hds2 l2 hN hi hln hc hsu r ih =>
        intro w
        obtain ⟨b, hb1, hyes, hno⟩ := w
        refine wpAny_handleBy_cons (codeAny_handlers_test (named hc ((PySem.W.exm_one (M := model X.prog X.w) (Ja.kIn) LT hb1).here ?_))) (by intro q; cases q)
        cases b with
        | false => exact ih (hno rfl)
        | true =>
          refine codeAny_handlers_suite_as (HandSPX.lands_againZ fla fun hc flc upc => ?_)
          have Jc : Inv X pins σz Hz { sv with heap := hc } := J.landed nb flc.1 ((up.trans upa).trans upc) hos bare
          obtain ⟨oc, vc, hec, hzc, hdc⟩ := flc.there
          refine store_ok (X := X.suite ex ((ex, oc) :: (X.pn ++ pins))) (v := .ref ex) (Jc.suite hec hdc nex nL nF) hN hi (.inl hln) rfl (fun s5 S5 => ?_) (.inr hln)
          refine wpAny_mono ((hsu ex oc cl dd (X.pn ++ pins) hzc ⟨_, hdc⟩).run [] s5 _ Hz _ S5 (hyes rfl ex nex)) (fun fl sx hsp => ?_) (fun _ _ z => False.elim z)
          have fin : ∀ {σx : L2.St} {Hx : Hp} {Q : Shared → Prop}, Inv (X.suite ex ((ex, oc) :: (X.pn ++ pins))) [] σx Hx sx → (∀ sy, Inv X pins (σx.set i none) Hx sy → Q sy) →
              wpAny (model X.prog X.w) X.A (do bindName X.env n .none; unbindBehindTheSuite X.env n pp) (fun _ sy => Q sy) X.xe sx := fun {σx Hx Q} Sx hq => gone_ok (Sx.unsuite okX) hN hi hln hq
          cases fl with
          | ret u =>
            obtain ⟨v, σx, Hx, Sx, rx, qx⟩ := hsp
            exact fin Sx fun sy Jy => ⟨_, _, _, Jy, rx, qx⟩
          | next =>
            obtain ⟨σx, Hx, Sx, qx⟩ := hsp
            exact fin Sx fun sy Jy => ⟨_, _, Jy, qx⟩
          | brk =>
            obtain ⟨σx, Hx, Sx, qx⟩ := hsp
            exact fin Sx fun sy Jy => ⟨_, _, Jy, qx⟩
          | cont =>
            obtain ⟨σx, Hx, Sx, qx⟩ := hsp
            exact fin Sx fun sy Jy => ⟨_, _, Jy, qx⟩
    exact go hh wish
  · cases fl with
    | ret u =>
      obtain ⟨v, σx, Hx, Jx, r, q⟩ := hsp
      exact ⟨v, σx, Hx, Jx.ofTry okX, r, q⟩
    | next =>
      obtain ⟨σx, Hx, Jx, q⟩ := hsp
      exact wpAny_execs_nil ⟨σx, Hx, Jx.ofTry okX, q⟩
    | brk =>
      obtain ⟨σx, Hx, Jx, q⟩ := hsp
      exact ⟨σx, Hx, Jx.ofTry okX, q⟩
    | cont =>
      obtain ⟨σx, Hx, Jx, q⟩ := hsp
      exact ⟨σx, Hx, Jx.ofTry okX, q⟩
end
/-! ### the caught exception: its field, its class -/
/-- the class fact that isinstance wants beside LeC -/
def rIsLe (K : PySem.W.Frag) (ex : Addr) (cl : Value) (dd : Option Addr) : List V → Hp → VK → Prop := fun xs H Q => ∃ (C D d : Addr) (fs : List (Str × V)) (b : Bool), xs = [.ref ex, .ref D] ∧ cl = .ref C ∧ dd = some d ∧ H d = some (.xd fs) ∧ LeC K C ∧ IsC K C ∧ PySem.W.kitOne K (.ref C) (.ref D) = some b ∧ Q (.bl b) H
theorem call_isLe {X : Cx} {ex : Addr} {cl : Value} {dd : Option Addr} {oe : Obj} {pn : List (Addr × Obj)} (hz : Zc cl dd oe) (hf : ∃ vs, oe.data = .fields vs) : CallR (X.suite ex ((ex, oe) :: pn)) (.builtin "isinstance") (rIsLe X.K ex cl dd) := by
  intro pins s σ H xs us Q I r h
  obtain ⟨C, D, d, fs, b, rfl, rfl, rfl, hd, T, T2, e, q⟩ := h
  obtain ⟨u1, u2, rfl, r1, r2⟩ := vals2 r
  cases (show u1 = Value.ref ex from r1)
  cases (show u2 = Value.ref D from r2)
  obtain ⟨hget, _⟩ := I.pin (ex, oe) (List.mem_append.mpr (.inl List.mem_cons_self))
  obtain ⟨vs, hv⟩ := hf
  have hx : ObjOk X.prog X.w H s.heap d (.xd fs) := I.hok d _ hd
  obtain ⟨mA, hns, hr⟩ := hx
  obtain ⟨od, ho, _⟩ := lookIn_ns hns
  have J : PySem.W.InstAt s.heap ex oe C (some od) := ⟨hget, hz.1, by unfold PySem.W.notCls; rw [hv] <;> rfl, by rw [hz.2]; exact ho⟩
  have hcl : (PySem.W.clsIn X.K C).isSome = true := by
    obtain ⟨cd, hc, _⟩ := PySem.W.any_some T.hd
    rw [hc]
    rfl
  exact PySem.W.kia_one (PySem.W.kitx_exc hcl T.ga T.gg T.exC T2.cl T2.g T2.t T2.m) I.kIn J e (fun z => nomatch z) fun tk => ⟨.bl b, H, I.kept (t' := tk) fun _ _ z => z, rfl, q⟩
theorem LeC.xf {K : PySem.W.Frag} {C : Addr} (T : LeC K C) : XfC K C := ⟨T.ga, T.gg, T.exC, T.hd⟩
/-- C(.., k = v, ..) where C's begin may raise -/
def tMakeKS (C : Addr) (n m : Nat) (sp : Sp) (gV : List V → List V → List V) (E : L2.St → XK) (t tk : TA) : TE := fun σ H Q => tMakeK C n m sp gV (E σ) t tk σ H Q
section
variable {X : Cx} {CX : CXT} {k n : Nat} {f C : Addr} {fd : FuncData} {ps ks : List Str} {sp : Sp} {E : L2.St → XK} {x : Str} {p pos : Pos} {e : Expr} {es : List Expr} {kws : List Keyword} {t tk : TA} {g : List Value → List Value → List Value} {gV : List V → List V → List V}
theorem run_makeKS {pins : List (Addr × Obj)} {σ : L2.St} {H : Hp} {s : Shared} {Q : VK} {us ws : List Value} {vs zs : List V} (M : Mk X.K C f) (F : FnOk X.prog X.w X.K X.mg X.base CX k f fd ps sp) (hr : Room (k + 1) X.A) (hb : KBn X.K fd ps (n + 1) ks g gV) (hx : PassesAt CX X σ (E σ))
    (I : Inv X pins σ H s) (r : Vals vs us) (rz : Vals zs ws) (l1 : vs.length = n) (l2 : zs.length = ks.length)
    (h : ∀ x dx, H x = none → H dx = none → dx ≠ x → sp (gV (.ref x :: vs) zs) (upd (upd H dx (.own x)) x (.ins C dx [])) (fun v H2 => v = .non ∧ Q (.ref x) H2) (E σ)) :
    wpAny (model X.prog X.w) X.A (call (.ref C) us (ks.zip ws)) (EP X pins σ Q) X.xe s := by
  have J := Inv.made (C := C) I
  have r1 : Vals (V.ref (s.heap.objs.size + 1) :: vs) (Value.ref (s.heap.objs.size + 1) :: us) := .cons rfl r
  have n1 : (Value.ref (s.heap.objs.size + 1) :: us).length = n + 1 := by rw [List.length_cons, ← r.length, l1]
  have q0 := h (s.heap.objs.size + 1) s.heap.objs.size (I.hok.fresh (Nat.le_succ _)) (I.hok.fresh (Nat.le_refl _)) (Nat.ne_of_lt (Nat.lt_succ_self _))
  refine wpAny_call (make_map (f := f) I.kIn M.makes M.init (beq_iff_eq.mp M.fn) (codeAny_mono (F.run _ X.stack _ _ ⟨Value.ref (s.heap.objs.size + 1) :: us, ks.zip ws⟩ (g (Value.ref (s.heap.objs.size + 1) :: us) ws) _ _ (E σ) (hr.make C us (ks.zip ws))
    (J.env0.make C us (ks.zip ws)) (hb.to _ (Value.ref (s.heap.objs.size + 1) :: us) ws J.kIn n1 (rz.length.symm.trans l2)) (hb.rel r1 rz) q0) fun rs sz z => ?_))
  cases rs with
  | error ev => exact hx pins _ _ ev sz J z
  | ok fl =>
    cases fl with
    | ret u =>
      obtain ⟨v, Hz, Jz, rv, ev, qz⟩ := J.after z
      subst ev
      exact ⟨rv, ⟨V.ref (s.heap.objs.size + 1), Hz, Jz, rfl, qz⟩⟩
    | next => exact False.elim z
    | brk => exact False.elim z
    | cont => exact False.elim z
theorem pe_makeKS (M : Mk X.K C f) (F : FnOk X.prog X.w X.K X.mg X.base CX k f fd ps sp) (hr : Room (k + 1) X.A) (hg : Gl X x) (hm : X.mg x = some (.ref C)) (hb : KBn X.K fd ps (n + 1) ks g gV) (hx : ∀ σ, PassesAt CX X σ (E σ)) (ha : PA X (e :: es) t) (hkw : PK X kws tk)
    (hall : (backToKw pos (keywordEach kws X.env)).all (·.1.isSome) = true := by rfl) (hks : (backToKw pos (keywordEach kws X.env)).filterMap (·.1) = ks := by rfl) (hdb : (x == ("__debug__" : Str)) = false := by decide)
    (he : starEach (e :: es) X.env = (false, eval e X.env) :: starEach es X.env := by rfl) (hpl : ((backTo pos (starEach (e :: es) X.env)).any (·.1) || (backToKw pos (keywordEach kws X.env)).any (·.1.isNone)) = false := by rfl) :
    PE X (.Call (.Name x p) (e :: es) kws pos) (tMakeKS C n ks.length sp gV E t tk) := by
  refine ⟨fun pins s σ H Q I h => wpAny_Call_Name_kw (ld_glob I hg hm ?_ hdb)⟩
  refine PySem.W.callWith_KW (h₀ := X.base) I.ok.mod.kin M.kp hall (thn (ha.run pos pins s σ H _ I h) fun us s1 ⟨vs, H1, I1, r, q⟩ => thn (hkw.run pos pins s1 σ H1 _ I1 q) fun ws s2 ⟨zs, H2, I2, rz, l1, l2, q2⟩ => ⟨I2.kIn, ?_⟩) hpl he
  rw [hks]
  exact run_makeKS M F hr hb (hx σ) I2 r rz l1 l2 q2
end
/-- nothing is let out -/
theorem passF {X : Cx} : Passes (L2.CX X.prog X.w) X (fun _ _ _ => False) := by
  rintro _ _ _ _ _ _ _ ⟨_, _, _, _, _, _, _, _, _, _, _, _, z⟩
  exact z.elim
end KR
namespace KR
open PySem PySem.Spec PyProof.Rows L2 LamX
/-! ### the head's facts with the tables of the defs that make lambdas -/
def frL (g : Addr → Option Obj) (n : Nat) : PySem.W.Frag := He.frT g (cStatics :: sysModules :: He.asD g n)
structure SaysL (fa : List He.Fa) (fn : List He.DefD) (ex : PySem.W.Frag → Bool) (tf : List He.Defn) (h : Heap) (K : PySem.W.Frag) : Prop where
  d : He.SaysD fa fn K
  more : ex K = true
  hd : ∀ p ∈ tf, PySem.W.codeHdIn K (He.cT K p).1 (He.cT K p).2 = true
  out : ∀ p ∈ tf, K.lookup (He.cT K p).2 = none
  empty : ∀ p ∈ tf, h.get? (He.cT K p).2 = some { cls := .none, data := .fields #[] }
def obsL (n : Nat) (fa : List He.Fa) (fn : List He.DefD) (ex : PySem.W.Frag → Bool) (tf : List He.Defn) (g : Addr → Option Obj) : He.AlD :=
  ((He.obsD fa fn (frL g n)).1 && (ex (frL g n) && He.tabsB g tf (frL g n)), (He.obsD fa fn (frL g n)).2)
theorem saysL_of {n : Nat} {fa : List He.Fa} {fn : List He.DefD} {ex : PySem.W.Frag → Bool} {tf : List He.Defn} {h : Heap} (e : obsL n fa fn ex tf h.get? = He.valD fn) : SaysL fa fn ex tf h (frL h.get? n) := by
  have e1 : ((He.obsD fa fn (frL h.get? n)).1 && (ex (frL h.get? n) && He.tabsB h.get? tf (frL h.get? n))) = true := congrArg (fun z : He.AlD => z.1) e
  have e2 : (obsL n fa fn ex tf h.get?).2 = (He.valD fn).2 := congrArg (fun z : He.AlD => z.2) e
  obtain ⟨h1, h2⟩ := He.ba e1
  obtain ⟨h3, h4⟩ := He.ba h2
  have key : ∀ p ∈ tf, PySem.W.codeHdIn (frL h.get? n) (He.cT (frL h.get? n) p).1 (He.cT (frL h.get? n) p).2 = true ∧ ∃ o, h.get? (He.cT (frL h.get? n) p).2 = some o ∧ He.emptyTab o = true := by
    intro p hp
    obtain ⟨a, b⟩ := He.ba (List.all_eq_true.mp h4 p hp)
    refine ⟨a, ?_⟩
    revert b
    cases h.get? (He.cT (frL h.get? n) p).2 with
    | none => exact fun b => (nomatch b)
    | some o => exact fun b => ⟨o, rfl, b⟩
  exact { d := Prod.ext h1 e2, more := h3, hd := fun p hp => (key p hp).1, out := fun p hp => let ⟨_, _, q, z⟩ := key p hp; He.frT_none q z, empty := fun p hp => let ⟨_, _, q, z⟩ := key p hp; He.emptyTab_eq z ▸ q }
def hookL (n : Nat) (fa : List He.Fa) (fn : List He.DefD) (ex : PySem.W.Frag → Bool) (tf : List He.Defn) : PySem.W.Hook where
  α := He.AlD
  obs := fun s => obsL n fa fn ex tf s.heap.get?
  val := fun _ => He.valD fn
  says := fun _ h => ∃ K : PySem.W.Frag, K.In h ∧ SaysL fa fn ex tf h K
  of := fun _ _ e => ⟨_, He.frT_in, saysL_of e⟩
  keeps := fun _ _ _ ⟨K, hK, c⟩ k => ⟨K, PySem.W.Frag.In.keeps hK k, { c with empty := fun p hp => k _ _ (c.empty p hp) }⟩
theorem obsL_eq {n : Nat} {fa : List He.Fa} {fn : List He.DefD} {ex : PySem.W.Frag → Bool} {tf : List He.Defn} {g : Addr → Option Obj} {s : Shared} (h : ∀ a, g a = s.heap.get? a) : obsL n fa fn ex tf g = (hookL n fa fn ex tf).obs s := by
  obtain rfl : g = s.heap.get? := funext h
  rfl
/-- sys.modules stands in the written part, a dict -/
def smB (K : PySem.W.Frag) : Bool := match K.lookup sysModules with
  | some o => decide (o.cls = .type "dict")
  | none => false
def Sm (K : PySem.W.Frag) : Prop := ∃ o, K.lookup sysModules = some o ∧ o.cls = .type "dict"
theorem smB_ok {K : PySem.W.Frag} (h : smB K = true) : Sm K := by
  unfold smB at h
  cases e : K.lookup sysModules with
  | none => rw [e] at h; cases h
  | some o => rw [e] at h; exact ⟨o, e, of_decide_eq_true h⟩
/-! ### a def's promise where no guard is on -/
structure FnG (P : Program) (w : World) (K : PySem.W.Frag) (mg : Str → Option Value) (base : Heap) (CX : CXT) (k : Nat) (f : Addr) (fd : FuncData) (ps : List Str) (sp : Sp) : Prop where
  len : ∀ vs H Q E, sp vs H Q E → vs.length = ps.length
  run : ∀ (A : Around) (outer : List Env) (s : Shared) (H : Hp) (args : Args) (us : List Value) (vs : List V) (Q : VK) (E : XK), A.guards = some [] → Room k A → Env0 P w K mg base A outer s H → BindsTo s fd args (ps.zip us) → Vals vs us → sp vs H Q E → codeAny (model P w) A (.call (.ref f) args) (CR CX outer P w H s Q E) s
section
variable {P : Program} {w : World} {K : PySem.W.Frag} {mg : Str → Option Value} {base : Heap} {x qual : Str} {params : Arguments} {body : List Stmt} {scope : Scope} {dvs : List V} {kws : List (Str × V)} {p : Str × Option Str} {fd : FuncData} {CX : CXT} {N ps : List Str} {k : Nat} {sp : Sp}
theorem okG (F : FunD K x qual params body scope dvs kws (He.fAd K p) fd) (S : FnScope N ps scope) (len : ∀ vs H Q E, sp vs H Q E → vs.length = ps.length)
    (hb : ∀ (A : Around) (outer : List Env) (s : Shared) (H : Hp) (vs : List V) (Q : VK) (E : XK), A.guards = some [] → Room k (A.deeper (envOfC qual scope s.heap.objs.size (He.fAd K p) (.ref (He.cT K p).1))) → sp vs H Q E →
      ∃ t, PSs (cxOf CX P w K mg base N qual scope (He.fAd K p) (.ref (He.cT K p).1) A outer s H E) body t ∧ t { nx := fun _ H' => Q .non H', rt := Q } (start N vs) H) : FnG P w K mg base CX (k + 1) (He.fAd K p) fd ps sp := by
  obtain ⟨oc, od, dV, kV, doc, pm, an, cdv, ct, osl, rfl, lk, hcd, _, _⟩ := F.ex
  obtain ⟨c, rfl⟩ := He.codeIn_ref hcd
  have hc : (He.cT K p).1 = c := He.codeOf_eq lk rfl
  rw [hc] at hb
  exact ⟨len, fun A outer s H args us vs Q E hg hr e0 hbd r hsp => run_ofS lk hcd S hr e0 hbd r (len _ _ _ _ hsp) fun hr' => hb A outer s H vs Q E hg hr' hsp⟩
theorem okC (F : FunD K x qual params body scope dvs kws (He.fAd K p) fd) (S : FnScope N ps scope) (len : ∀ vs H Q E, sp vs H Q E → vs.length = ps.length)
    (hb : ∀ (A : Around) (outer : List Env) (s : Shared) (H : Hp) (vs : List V) (Q : VK) (E : XK), Room k (A.deeper (envOfC qual scope s.heap.objs.size (He.fAd K p) (.ref (He.cT K p).1))) → sp vs H Q E →
      ∃ t, PSs (cxOf CX P w K mg base N qual scope (He.fAd K p) (.ref (He.cT K p).1) A outer s H E) body t ∧ t { nx := fun _ H' => Q .non H', rt := Q } (start N vs) H) : FnOk P w K mg base CX (k + 1) (He.fAd K p) fd ps sp := by
  obtain ⟨oc, od, dV, kV, doc, pm, an, cdv, ct, osl, rfl, lk, hcd, _, _⟩ := F.ex
  obtain ⟨c, rfl⟩ := He.codeIn_ref hcd
  have hc : (He.cT K p).1 = c := He.codeOf_eq lk rfl
  rw [hc] at hb
  exact ⟨len, fun A outer s H args us vs Q E hr e0 hbd r hsp => run_ofS lk hcd S hr e0 hbd r (len _ _ _ _ hsp) fun hr' => hb A outer s H vs Q E hr' hsp⟩
end
section
variable {X : Cx} {k : Nat} {f : Addr} {fd : FuncData} {ps : List Str} {sp : Sp} {x : Str} {p pos : Pos} {e : Expr} {es : List Expr} {t : TA}
/-- x(e, ..), x's promise one of no guards -/
theorem pe_callG (hgd : X.A.guards = some []) (F : FnG X.prog X.w X.K X.mg X.base CX0 k f fd ps sp) (hr : Room k X.A) (hg : Gl X x) (hm : X.mg x = some (.ref f)) (hk : PySem.W.keepIn X.K (.ref f) = true) (hb : Binds X.K fd ps []) (ha : PA X (e :: es) t)
    (hdb : (x == ("__debug__" : Str)) = false := by decide) (he : starEach (e :: es) X.env = (false, eval e X.env) :: starEach es X.env := by rfl) (hpl : (backTo pos (starEach es X.env)).any (·.1) = false := by rfl) :
    PE X (.Call (.Name x p) (e :: es) [] pos) (tCall sp [] E0 t) := by
  constructor
  intro pins s σ H Q I h
  have body : ∀ (us : List Value) (s1 : Shared), AP X pins σ (fun vs H1 => sp (vs ++ []) H1 Q E0) us s1 → X.K.In s1.heap ∧ wpAny (model X.prog X.w) X.A (call (.ref f) ([] ++ us)) (EP X pins σ Q) X.xe s1 := by
    rintro us s1 ⟨vs, H1, I1, r, q⟩
    rw [List.append_nil] at q
    have hl : (us ++ []).length = ps.length := by rw [List.append_nil, ← r.length, F.len _ _ _ _ q]
    have hbd := hb s1 us I1.kIn hl
    rw [List.append_nil] at hbd
    refine ⟨I1.kIn, wpAny_call (codeAny_mono (F.run X.A X.stack s1 H1 ⟨us, []⟩ us vs Q E0 hgd hr I1.env0 hbd r q) fun rs s2 z => ?_)⟩
    match rs, z with
    | .ok (.ret u), z => exact I1.after z
  exact wpAny_Call_Name_kw (ld_glob I hg hm (PySem.W.callWith_K (h₀ := X.base) I.ok.mod.kin hk (thn (ha.run pos pins s σ H _ I h) body) he hpl) hdb)
end
/-! ### the lambda handed to a def -/
theorem takes_len {X : Cx} {W : WX} (t : Takes X W) : Takes X (fun c d σ H => σ.length = X.N.length → W c d σ H) := by
  rintro u s' ⟨a, B, sI, pins, σ, H, cls, d, e, I, r⟩
  refine t u s' ⟨a, B, sI, pins, σ, H, cls, d, e, I, ?_⟩
  obtain ⟨r1, r2, r3, r4, r5, r6, w⟩ := r
  exact ⟨r1, r2, r3, r4, r5, r6, w I.len⟩
def tAsk (n : Nat) (W : WX) (f c' : Addr) (q : Str) (tl : XK → Hp → VK → Prop) : TE := fun σ H Q => ∃ Ech : XK, (∀ cls d (σ' : L2.St) H', σ'.length = n → Ech cls d H' → W cls d σ' H') ∧ σ[0]? = some (some (.ref f)) ∧ H c' = some (CodeO c' q) ∧ tl Ech H Q
theorem pe_ask {Z : Cx} {n : Nat} {W : WX} {f c' : Addr} {q : Str} {tl : XK → Hp → VK → Prop} {e : Expr} (hn : Z.N.length = n)
    (act : ∀ (E : XK) (W2 : WX), Takes Z W2 → (∀ cls d σ' H', E cls d H' → W2 cls d σ' H') → PE Z e (fun σZ HZ Q => σZ[0]? = some (some (.ref f)) ∧ HZ c' = some (CodeO c' q) ∧ tl E HZ Q)) (tk : Takes Z W) : PE Z e (tAsk n W f c' q tl) := by
  subst hn
  exact ⟨fun pins s σ H Q I ⟨E, hW, h1, h2, h3⟩ => (act E _ (takes_len tk) fun cls d σ' H' he hl => hW cls d σ' H' hl he).run pins s σ H Q I ⟨h1, h2, h3⟩⟩
theorem pe_lamF {X : Cx} {T : List (Addr × Str)} {TT : (XK → Hp → VK → Prop) → Hp → VK → Prop} {x a : Str} {g c P : Addr} {k : Nat} {pg : Arguments} {bg : List Stmt} {sg : Scope} {fd : FuncData} {Ng : List Str} {params : Arguments} {body : Expr} {scope : Scope} {t : XK → TE} {p lpos pos : Pos}
    (F : FunD X.K x x pg bg sg [] [] g fd) (hb : L2.Binds X.K fd [a] []) (hg : Gl X x) (hm : X.mg x = some (.ref g)) (Sg : FnScope Ng [a] sg) (hNg : Ng[0]? = some a) (hva : Vis sg a) (hG : ∀ cdv, GivesTo X Ng x sg g cdv bg a (X.env.qual ++ "<lambda>") TT)
    (TB : TabB X.base X.mg c P) (hcode : X.env.code = .ref c) (hmT : (P, X.env.qual ++ "<lambda>") ∈ T) (hu : ∀ p ∈ T, p.1 = P → p.2 = X.env.qual ++ "<lambda>") (hr : Room (k + 2) X.A) (L : LamS X.env.scope scope) (hdef : defaultsOf params X.env = ([], []))
    (hbind : ∀ (q : Str) (cl : List (Str × Addr)) (pm cv ctv : Value), bindArgs (PySem.W.kla_fn "<lambda>" q params body scope cl pm cv ctv) ⟨[], []⟩ = pure [])
    (hbody : ∀ (A : Around) (outer : List Env) (s : Shared) (H : Hp) (E : XK) (f c' : Addr), Room k (A.deeper (lamEnv X scope s.heap.objs.size f c')) → PE (lamCx X A outer s H E scope f c') body (t E))
    (hdb : (x == ("__debug__" : Str)) = false := by decide) (hd : (a == ("__debug__" : Str)) = false := by decide) (hcd : (a == ("__classdict__" : Str)) = false := by decide) :
    PE X (.Call (.Name x p) [.Lambda params body scope lpos] [] pos) (tLam T TT t) := by
  obtain ⟨oc, od, dV, kV, doc, pm, an, cdv, ct, osl, rfl, lk, hcg, _, _⟩ := F.ex
  exact pe_lamcall hg hm F.kp lk hcg hb Sg hNg hva (hG cdv) TB hcode hmT hu hr L hdef hbind hbody hdb hd hcd
theorem hp_ext {H H' : Hp} {a : Addr} {o : HO} (s : ExtN H H') (h : H a = some o) (n : ∀ ps, o ≠ .tbl ps) : H' a = some o := s a o h n
theorem extN_seq {K : PySem.W.Frag} {H H' : Hp} {a : Addr} {xs : List V} (e : ExtN H H') (h : SqL K H a xs) : SqL K H' a xs :=
  h.imp (fun h => h.imp (fun h => e _ _ h fun _ z => nomatch z) fun ⟨o, h⟩ => ⟨o, e _ _ h fun _ z => nomatch z⟩) id
theorem _root_.L2.Same.extN {H H' : Hp} (s : Same H H') : ExtN H H' := fun b o h _ => s b o h
/-- what stays where a source at s is drawn from, and tables grow -/
def EB (s : Addr) (H H' : Hp) : Prop := ∀ b o, b ≠ s → H b = some o → (∀ ps, o ≠ .tbl ps) → H' b = some o
theorem EB.refl {s : Addr} {H : Hp} : EB s H H := fun _ _ _ h _ => h
theorem EB.trans {s : Addr} {H H1 H2 : Hp} (a : EB s H H1) (b : EB s H1 H2) : EB s H H2 := fun c o n h z => b c o n (a c o n h z) z
theorem SB.eb {s : Addr} {H H1 : Hp} (a : SB s H H1) : EB s H H1 := fun c o n h _ => a c o n h
theorem extN_eb {s : Addr} {H H1 : Hp} (a : ExtN H H1) : EB s H H1 := fun c o _ h z => a c o h z
theorem tabs_sb {T : List (Addr × Str)} {s : Addr} {H H1 : Hp} {xs : List V} (t : Tabs T H) (hs : H s = some (.lst xs)) (a : SB s H H1) : Tabs T H1 := fun p hp => by
  obtain ⟨ps, h1, h2, h3⟩ := t p hp
  refine ⟨ps, a _ _ (ne_of h1 hs (fun z => nomatch z)) h1, h2, fun pos cv hc => ?_⟩
  obtain ⟨c, e1, e2⟩ := h3 pos cv hc
  exact ⟨c, e1, a _ _ (ne_of e2 hs (fun z => nomatch z)) e2⟩
theorem pi_listK {X : Cx} {K : PySem.W.Frag} {tg l : Expr} {tl : TE} (hl : PE X l tl) (h : X.K = K := by rfl) : PI X tg l (iList K tl) := h ▸ pi_list hl
theorem pi_tupK {X : Cx} {K : PySem.W.Frag} {tg l : Expr} {tl : TE} (hl : PE X l tl) (h : X.K = K := by rfl) : PI X tg l (iTup K tl) := h ▸ pi_tup hl
/-! ### texts of objects: repr -/
mutual
/-- data, empty dicts too -/
inductive Dq (K : PySem.W.Frag) (H : Hp) : V → PyData → Prop
  | non : Dq K H .non .none
  | bl (b : Bool) : Dq K H (.bl b) (.bool b)
  | int (i : Int) : Dq K H (.int i) (.int i)
  | str (x : Str) : Dq K H (.str x) (.str x)
  | lst {a : Addr} {xs : List V} {ds : List PyData} : SqL K H a xs → DqAll K H xs ds → Dq K H (.ref a) (.list ds)
  | tup {a : Addr} {xs : List V} {ds : List PyData} : SqT K H a xs → DqAll K H xs ds → Dq K H (.ref a) (.tuple ds)
  | dct {a : Addr} : H a = some (.dK []) → Dq K H (.ref a) (.dict [])
inductive DqAll (K : PySem.W.Frag) (H : Hp) : List V → List PyData → Prop
  | nil : DqAll K H [] []
  | cons {v : V} {vs : List V} {d : PyData} {ds : List PyData} : Dq K H v d → DqAll K H vs ds → DqAll K H (v :: vs) (d :: ds)
end
section
variable {X : Cx} {pins : List (Addr × Obj)} {σ : L2.St} {H : Hp} {s : Shared}
theorem not_sm (I : Inv X pins σ H s) (m : Sm X.K) {a : Addr} {o : Obj} (h : s.heap.get? a = some o) (hc : o.cls ≠ .type "dict") : a ≠ sysModules := fun z => by
  obtain ⟨u, h1, h2⟩ := m
  have h3 := I.kIn _ _ h1
  rw [z, h3] at h
  cases h
  exact hc h2
mutual
theorem Dq.reads (I : Inv X pins σ H s) (m : Sm X.K) : ∀ (d : PyData) (v : V) (u : Value), Dq X.K H v d → RelV v u → ∃ as, Reads s.heap u d as ∧ sysModules ∉ as
  | .none, _, _, h, r => by cases h; cases r; exact ⟨_, .none, by simp⟩
  | .bool b, _, _, h, r => by cases h; cases r; exact ⟨_, .bool b, by simp⟩
  | .int i, _, _, h, r => by cases h; obtain ⟨t, rfl⟩ := r; exact ⟨_, .int i t, by simp⟩
  | .str x, _, _, h, r => by cases h; obtain ⟨t, rfl⟩ := r; exact ⟨_, .str x t, by simp⟩
  | .list ds, _, _, h, r => by
    cases h with
    | lst hs ha =>
      cases r
      obtain ⟨its, rv, ⟨o, n, ho, hc, _, hd⟩, _⟩ := I.list hs
      obtain ⟨as, hr, hn⟩ := Dq.readsAll I m ds _ its ha rv
      exact ⟨_, .list ho hc hd hr, fun z => (List.mem_cons.mp z).elim (fun e => not_sm I m ho (by rw [hc]; decide +kernel) e.symm) hn⟩
  | .tuple ds, _, _, h, r => by
    cases h with
    | tup hs ha =>
      cases r
      obtain ⟨its, rv, ⟨o, ho, hc, n, hd⟩, _⟩ := I.tuple hs
      obtain ⟨as, hr, hn⟩ := Dq.readsAll I m ds _ its ha rv
      exact ⟨_, .tuple ho hc hd hr, hn⟩
  | .dict kvs, _, _, h, r => by
    cases h with
    | dct hs =>
      cases r
      rename_i a
      obtain ⟨_, hsm, vs, kv, hd⟩ := I.hok a _ hs
      cases kv
      obtain ⟨o, es, ep, ho, hx, hdat, _, hp, _⟩ := hd
      have e0 : es.toList = [] := by
        revert hp
        cases es.toList with
        | nil => exact fun _ => rfl
        | cons z l => exact fun hp => by cases hp
      refine ⟨_, .dict (as := []) (bs := []) ho hx.1 hdat ?_ ?_, fun z => ?_⟩
      · rw [e0]; exact .nil
      · rw [e0]; exact .nil
      · have z : sysModules = a := by simpa using z
        rw [z] at hsm
        simp at hsm
theorem Dq.readsAll (I : Inv X pins σ H s) (m : Sm X.K) : ∀ (ds : List PyData) (vs : List V) (us : List Value), DqAll X.K H vs ds → Vals vs us → ∃ as, ReadsAll s.heap us ds as ∧ sysModules ∉ as
  | [], _, _, h, r => by cases h; cases r; exact ⟨_, .nil, by simp⟩
  | d :: ds, _, _, h, r => by
    cases h with
    | cons h1 h2 =>
      cases r with
      | cons r1 r2 =>
        obtain ⟨as, q1, n1⟩ := Dq.reads I m d _ _ h1 r1
        obtain ⟨bs, q2, n2⟩ := Dq.readsAll I m ds _ _ h2 r2
        exact ⟨_, .cons q1 q2, fun z => (List.mem_append.mp z).elim n1 n2⟩
end
end
@[irreducible] def rRepr (K : PySem.W.Frag) : List V → Hp → VK → Prop := fun xs H Q => ∃ x d, xs = [x] ∧ Dq K H x d ∧ d.showable = true ∧ d.depth ≤ 50 ∧ d.shown.length ≤ sizeLine ∧ Q (.str d.shown) H
theorem call_repr {X : Cx} {K : PySem.W.Frag} (hg : X.A.guards = some []) (hu : X.A.units + 64 < cLine) (m : Sm K) (hK : X.K = K := by rfl) : CallR X (.builtin "repr") (rRepr K) := by
  subst hK
  intro pins s σ H xs us Q I r h
  unfold rRepr at h
  obtain ⟨x, d, rfl, hd, h1, h2, h3, q⟩ := h
  obtain ⟨u, rfl, ru⟩ := vals1 r
  obtain ⟨as, hr, hn⟩ := Dq.reads I m d x u hd ru
  have fin : ∀ (h' : Heap) (t : Tok) (tk : Nat), (∀ b o, s.heap.get? b = some o → h'.get? b = some o) → EP X pins σ Q (.str d.shown t) { s with heap := h', toks := tk } := fun h' t tk hk => ⟨.str d.shown, H, I.kept hk, ⟨t, rfl⟩, q⟩
  have rf : ∀ a, u = .ref a → wpAny (model X.prog X.w) X.A (call (.builtin "repr") [u]) (EP X pins σ Q) X.xe s := fun a e => by
    subst e
    exact repr_of_reads' hr h1 (fun _ => hn) hg (by omega) (fun _ _ e => e) fin h3
  cases hr with
  | none => exact PySem.P.repr_of_none (fin s.heap _ _ fun _ _ e => e)
  | bool b => exact PySem.P.repr_of_bool (by cases b <;> exact fin s.heap _ _ fun _ _ e => e)
  | int i t => exact PySem.P.repr_of_int (by simpa [PyData.showable] using h1) (fin s.heap _ _ fun _ _ e => e)
  | str z t => exact PySem.P.repr_of_str (fin s.heap _ _ fun _ _ e => e) h3
  | list _ _ _ _ => exact rf _ rfl
  | tuple _ _ _ _ => exact rf _ rfl
  | dict _ _ _ _ _ => exact rf _ rfl
end KR
namespace KR
open PySem PySem.Spec PyProof.Rows L2 LamX
/-! ### the end of a law row whose defs make lambdas and print objects -/
/-- what stands at the law's call: the script (if not written), the tables -/
def startH (K : PySem.W.Frag) (T : List Addr) (a : Addr) (o : Obj) (xs : List V) : Hp := fun b => if b ∈ T then some (.tbl #[]) else if b = a ∧ K.lookup a = none then some (.frz o (.lst xs)) else none
section
variable {K : PySem.W.Frag} {T : List Addr} {a b : Addr} {o : Obj} {xs : List V}
theorem startH_tab (h : b ∈ T) : startH K T a o xs b = some (.tbl #[]) := if_pos h
theorem startH_scr (h : a ∉ T) (k : K.lookup a = none) : startH K T a o xs a = some (.frz o (.lst xs)) := (if_neg h).trans (if_pos ⟨rfl, k⟩)
theorem startH_cases (b : Addr) : (b ∈ T ∧ startH K T a o xs b = some (.tbl #[])) ∨ (b ∉ T ∧ b = a ∧ K.lookup a = none ∧ startH K T a o xs b = some (.frz o (.lst xs))) ∨ startH K T a o xs b = none := by
  by_cases h : b ∈ T
  · exact .inl ⟨h, startH_tab h⟩
  · by_cases h2 : b = a ∧ K.lookup a = none
    · exact .inr (.inl ⟨h, h2.1, h2.2, (if_neg h).trans (if_pos h2)⟩)
    · exact .inr (.inr ((if_neg h).trans (if_neg h2)))
end
/-- what is known of the law's promise -/
def LawG (P : Program) (w : World) (K : PySem.W.Frag) (k n : Nat) (x : Str) (mg : Str → Option Value) (fa : Addr) (h : Heap) : Prop :=
  ∃ (fd : FuncData) (cs : List (Addr × Addr)) (sp : Sp), (∀ p ∈ cs, PySem.W.codeHdIn K p.1 p.2 = true ∧ K.lookup p.2 = none ∧ h.get? p.2 = some { cls := .none, data := .fields #[] }) ∧ (∀ (s : Shared) (u : Value), BindsTo s fd ⟨[u], []⟩ [(x, u)]) ∧
    (∀ (H : Hp) (a : Addr) (ns : List Int), ns.length ≤ n → (∀ p ∈ cs, H p.2 = some (.tbl #[])) → SqL K H a (ns.map V.int) → sp [.ref a] H (fun v _ => v = .bl true) fun _ _ _ => False) ∧
    ∀ base : Heap, K.In base → base.Ns mainGlobals mg → (∀ p ∈ cs, TabB base mg p.1 p.2) → FnG P w K mg base CX0 k fa fd [x] sp
theorem walkG {l : PySem.W.OpenLaw} {n k : Nat} {q : Program} {loose : List Str} {XP : (Str → Option Value) → Heap → Prop} {YP : World → Heap → Prop} {d : DefRec} {x : Str} (hn : l.most = some n) (hn2 : n ≤ sizeLine) (hdf : d.params.defaults = []) (hr : Room k callerA)
    (F : ∀ (w : World) (mg : Str → Option Value) (fa : Addr) (h : Heap), YP w h → h.Ns mainGlobals mg → mg d.name = some (.ref fa) → ∃ K : PySem.W.Frag, K.In h ∧ LawG l.prog w K k n x mg fa h) :
    PySem.W.WalkO q loose XP YP l.row.toRowW d [] (fun f vs => PySem.call f vs) := by
  refine Att.attach_callB hn hdf fun w s₀ s₁ mg mb fa o pm cd doc a vs ns G Y ho hd hcd hmg hobj hints hlen hbits hg => ?_
  obtain ⟨K, KX, fd, cs, sp, hcs, hbind, hsp, hF⟩ := F w mg fa _ Y G.T.g hmg
  have hlen2 : ns.length ≤ sizeLine := Nat.le_trans hlen hn2
  have lenV := hints.length
  have rv := vals_ints hints
  -- the tables
  generalize hT : cs.map (fun p => p.2) = T
  have tab : ∀ b ∈ T, ∃ p ∈ cs, p.2 = b ∧ s₁.heap.get? b = some { cls := .none, data := .fields #[] } := by
    intro b hb
    rw [← hT] at hb
    obtain ⟨p, hp, rfl⟩ := List.mem_map.mp hb
    exact ⟨p, hp, rfl, (hcs p hp).2.2⟩
  have inT : ∀ p ∈ cs, p.2 ∈ T := fun p hp => hT ▸ List.mem_map.mpr ⟨p, hp, rfl⟩
  have naT : a ∉ T := fun z => by
    obtain ⟨_, _, _, e⟩ := tab a z
    have := congrArg Obj.data (Option.some.inj (hobj.symm.trans e))
    exact nomatch (show Data.seq vs.toArray _ = Data.fields #[] from this)
  generalize hH : startH K T a { cls := .type "list", data := .seq vs.toArray } (ns.map V.int) = H
  have cse : ∀ b, (b ∈ T ∧ H b = some (.tbl #[])) ∨ (b ∉ T ∧ b = a ∧ K.lookup a = none ∧ H b = some (.frz { cls := .type "list", data := .seq vs.toArray } (.lst (ns.map V.int)))) ∨ H b = none := fun b => hH ▸ startH_cases b
  have seqA : SqL K H a (ns.map V.int) := by
    cases hk : K.lookup a with
    | some u =>
      have := (KX a u hk).symm.trans hobj
      cases this
      exact .inr ⟨_, vs.toArray, _, hk, rfl, rfl, rfl, by rw [List.size_toArray, lenV]; exact hlen2, rv⟩
    | none => exact .inl (.inr ⟨_, hH ▸ startH_scr naT hk⟩)
  have hok : HOk l.prog w H s₁.heap := by
    intro b u e
    rcases cse b with ⟨hb, e2⟩ | ⟨_, rfl, _, e2⟩ | e2
    · obtain rfl := Option.some.inj (e.symm.trans e2)
      obtain ⟨_, _, _, z⟩ := tab b hb
      exact z
    · obtain rfl := Option.some.inj (e.symm.trans e2)
      exact ⟨hobj, by rw [List.length_map]; exact hlen2, vs, _, rv, hobj⟩
    · cases e.symm.trans e2
  -- what is neither a table nor the script is not tracked
  have free : ∀ {b : Addr} {u : Obj}, s₁.heap.get? b = some u → u.data ≠ .fields #[] → u ≠ { cls := .type "list", data := .seq vs.toArray } → H b = none := by
    intro b u e n1 n2
    rcases cse b with ⟨hb, _⟩ | ⟨_, rfl, _⟩ | e2
    · obtain ⟨_, _, _, z⟩ := tab b hb
      cases e.symm.trans z
      exact absurd rfl n1
    · exact absurd (Option.some.inj (e.symm.trans hobj)) n2
    · exact e2
  have freeD : ∀ {b : Addr} {u : Obj} {es : Array DictEntry} {ep : Nat}, s₁.heap.get? b = some u → u.data = .dict es ep → H b = none := fun e d => free e (by rw [d]; exact nofun) fun z => by rw [z] at d; exact nomatch d
  have ns' : ∀ {b : Addr} {m : Str → Option Value}, s₁.heap.Ns b m → (hidT s₁.heap H).Ns b m := by
    rintro b m ⟨u, es, ep, e, dd, r⟩
    exact ⟨u, es, ep, hidT_get e (freeD e dd), dd, r⟩
  have inB : K.In (hidT s₁.heap H) := by
    intro b u e
    refine hidT_get (KX b u e) ?_
    rcases cse b with ⟨hb, _⟩ | ⟨_, rfl, z, _⟩ | e2
    · obtain ⟨p, hp, rfl, _⟩ := tab b hb
      cases e.symm.trans (hcs p hp).2.1
    · cases e.symm.trans z
    · exact e2
  have bm : ∀ p ∈ cs, (hidT s₁.heap H).BuiltinsAt mg p.2 := by
    intro p hp
    obtain ⟨m, u, b1, b2, b3, b4, b5, b6⟩ := G.T.bmain
    obtain ⟨gu, _, _, ge, gd, _⟩ := G.T.g
    refine ⟨m, u, b1, b2, fun z => ?_, fun z => ?_, hidT_get b3 (free b3 (by rw [b6]; exact nofun) fun z => by rw [z] at b6; exact nomatch b6), b4, b5, b6⟩
    · rw [z, ge] at b3
      cases b3
      cases gd.symm.trans b6
    · rw [z, (hcs p hp).2.2] at b3
      cases b3
      cases b6
  have tb : ∀ p ∈ cs, TabB (hidT s₁.heap H) mg p.1 p.2 := fun p hp => NdefX.tabB_of_K inB (hcs p hp).1 (bm p hp) fun z => by
    obtain ⟨gu, _, _, ge, gd, _⟩ := G.T.g
    rw [z, (hcs p hp).2.2] at ge
    cases ge
    cases gd
  have lim : (hidT s₁.heap H).NoLimit := by
    obtain ⟨mc, h1, h2⟩ := G.T.nolimit
    exact ⟨mc, ns' h1, h2⟩
  have e0 : Env0 l.prog w K mg (hidT s₁.heap H) callerA [] s₁ H := { frames := rfl, mod := ⟨inB, ns' G.T.g, ⟨mb, ns' G.T.b, G.T.builtins⟩, lim⟩, bs := fun b u e => of_hidT e, bsz := Nat.le_of_eq (hidT_size _ _), funs := trivial, frf := fun b z => (nomatch z), hok := hok, bare := .of_eq hg }
  have run := (hF _ inB (ns' G.T.g) tb).run callerA [] s₁ H ⟨[.ref a], []⟩ [.ref a] [.ref a] (fun v _ => v = .bl true) (fun _ _ _ => False) rfl hr e0 (hbind s₁ (.ref a)) (.cons rfl .nil) (hsp H a ns hlen (fun p hp => hH ▸ startH_tab (inT p hp)) seqA)
  refine codeAny_mono run fun r s' z => ?_
  match r, z with
  | .ok (.ret u), ⟨v, H', os, bare, un, hok', r', q⟩ =>
    obtain rfl : v = V.bl true := q
    obtain rfl : u = Value.bool true := r'
    have keep : ∀ b u, b ∉ T → s₁.heap.get? b = some u → s'.heap.get? b = some u := by
      intro b u nb e
      rcases cse b with ⟨hb, _⟩ | ⟨_, rfl, _, e2⟩ | e2
      · exact absurd hb nb
      · have g1 := (hok' b _ (un.frzs b _ _ e2)).1
        rw [← e, hobj] at *
        exact g1
      · exact un.keep b u e e2 (fun z => nomatch z) (fun z => nomatch z)
    refine ⟨rfl, ⟨fun b u e => ?_, fun b u e => ?_⟩, os, bare⟩ <;> by_cases hb : b ∈ T
    · obtain ⟨p, hp, rfl, e3⟩ := tab b hb
      obtain ⟨more, hm⟩ := un.tbls p.2 #[] (hH ▸ startH_tab hb)
      have hm2 := hok' _ _ hm
      have ch := PySem.W.codeHd_of_K KX (hcs p hp).1
      cases e.symm.trans e3
      exact .inr (.inl ⟨(ch.tab e3).isCodeTable, rfl, #[], more, rfl, by rw [Array.empty_append]; rw [Array.empty_append] at hm2; exact hm2⟩)
    · exact .inl (keep b u hb e)
    · obtain ⟨p, hp, rfl, e3⟩ := tab b hb
      obtain ⟨more, hm⟩ := un.tbls p.2 #[] (hH ▸ startH_tab hb)
      exact ⟨_, hok' _ _ hm⟩
    · exact ⟨u, keep b u hb e⟩
end KR
namespace KR
open PySem PySem.Spec PyProof.Rows L2 LamX
def topS (i : Nat) : Stmt := PySem.Challenge.pw_keeprows_k38_places_of_records.main.body.getD i (.Pass ⟨0, 0, 0, 0⟩)
abbrev s_is_integer : Stmt := topS 14
abbrev P_is_integer : List Str := ["value"]
abbrev N_is_integer : List Str := ["value"]
def dd_is_integer : He.DefD := ⟨("is_integer", none), "is_integer", "is_integer", defArgs s_is_integer, defBody s_is_integer, defScope s_is_integer, [], []⟩
theorem sc_is_integer : FnScope N_is_integer P_is_integer (defScope s_is_integer) := ⟨rfl, rfl, rfl, by decide +kernel, rfl, by decide +kernel, by decide +kernel⟩
abbrev F_is_integer (K : PySem.W.Frag) (fd : FuncData) : Prop := FunD K "is_integer" "is_integer" (defArgs s_is_integer) (defBody s_is_integer) (defScope s_is_integer) [] [] (He.fAd K ("is_integer", none)) fd
abbrev s_is_between : Stmt := topS 15
abbrev P_is_between : List Str := ["value", "low", "high"]
abbrev N_is_between : List Str := ["value", "low", "high"]
def dd_is_between : He.DefD := ⟨("is_between", none), "is_between", "is_between", defArgs s_is_between, defBody s_is_between, defScope s_is_between, [], []⟩
theorem sc_is_between : FnScope N_is_between P_is_between (defScope s_is_between) := ⟨rfl, rfl, rfl, by decide +kernel, rfl, by decide +kernel, by decide +kernel⟩
abbrev F_is_between (K : PySem.W.Frag) (fd : FuncData) : Prop := FunD K "is_between" "is_between" (defArgs s_is_between) (defBody s_is_between) (defScope s_is_between) [] [] (He.fAd K ("is_between", none)) fd
abbrev s_check_part : Stmt := topS 16
abbrev P_check_part : List Str := ["part", "value", "low", "high"]
abbrev N_check_part : List Str := ["part", "value", "low", "high"]
def dd_check_part : He.DefD := ⟨("check_part", none), "check_part", "check_part", defArgs s_check_part, defBody s_check_part, defScope s_check_part, [], []⟩
theorem sc_check_part : FnScope N_check_part P_check_part (defScope s_check_part) := ⟨rfl, rfl, rfl, by decide +kernel, rfl, by decide +kernel, by decide +kernel⟩
abbrev F_check_part (K : PySem.W.Frag) (fd : FuncData) : Prop := FunD K "check_part" "check_part" (defArgs s_check_part) (defBody s_check_part) (defScope s_check_part) [] [] (He.fAd K ("check_part", none)) fd
abbrev s_Settings___init__ : Stmt := inClass (topS 17) 0
abbrev P_Settings___init__ : List Str := ["self", "lengths", "size", "fanout", "records", "every", "keep"]
abbrev N_Settings___init__ : List Str := ["self", "lengths", "size", "fanout", "records", "every", "keep", "length"]
def dd_Settings___init__ : He.DefD := ⟨("Settings", some "__init__"), "__init__", "Settings.__init__", defArgs s_Settings___init__, defBody s_Settings___init__, defScope s_Settings___init__, [], []⟩
theorem sc_Settings___init__ : FnScope N_Settings___init__ P_Settings___init__ (defScope s_Settings___init__) := ⟨rfl, rfl, rfl, by decide +kernel, rfl, by decide +kernel, by decide +kernel⟩
abbrev F_Settings___init__ (K : PySem.W.Frag) (fd : FuncData) : Prop := FunD K "__init__" "Settings.__init__" (defArgs s_Settings___init__) (defBody s_Settings___init__) (defScope s_Settings___init__) [] [] (He.fAd K ("Settings", some "__init__")) fd
abbrev s_Settings___eq__ : Stmt := inClass (topS 17) 1
abbrev P_Settings___eq__ : List Str := ["self", "other"]
abbrev N_Settings___eq__ : List Str := ["self", "other"]
def dd_Settings___eq__ : He.DefD := ⟨("Settings", some "__eq__"), "__eq__", "Settings.__eq__", defArgs s_Settings___eq__, defBody s_Settings___eq__, defScope s_Settings___eq__, [], []⟩
theorem sc_Settings___eq__ : FnScope N_Settings___eq__ P_Settings___eq__ (defScope s_Settings___eq__) := ⟨rfl, rfl, rfl, by decide +kernel, rfl, by decide +kernel, by decide +kernel⟩
abbrev F_Settings___eq__ (K : PySem.W.Frag) (fd : FuncData) : Prop := FunD K "__eq__" "Settings.__eq__" (defArgs s_Settings___eq__) (defBody s_Settings___eq__) (defScope s_Settings___eq__) [] [] (He.fAd K ("Settings", some "__eq__")) fd
abbrev s_Settings_parts : Stmt := inClass (topS 17) 2
abbrev P_Settings_parts : List Str := ["self"]
abbrev N_Settings_parts : List Str := ["self"]
def dd_Settings_parts : He.DefD := ⟨("Settings", some "parts"), "parts", "Settings.parts", defArgs s_Settings_parts, defBody s_Settings_parts, defScope s_Settings_parts, [], []⟩
theorem sc_Settings_parts : FnScope N_Settings_parts P_Settings_parts (defScope s_Settings_parts) := ⟨rfl, rfl, rfl, by decide +kernel, rfl, by decide +kernel, by decide +kernel⟩
abbrev F_Settings_parts (K : PySem.W.Frag) (fd : FuncData) : Prop := FunD K "parts" "Settings.parts" (defArgs s_Settings_parts) (defBody s_Settings_parts) (defScope s_Settings_parts) [] [] (He.fAd K ("Settings", some "parts")) fd
abbrev s_check_settings : Stmt := topS 18
abbrev P_check_settings : List Str := ["value"]
abbrev N_check_settings : List Str := ["value"]
def dd_check_settings : He.DefD := ⟨("check_settings", none), "check_settings", "check_settings", defArgs s_check_settings, defBody s_check_settings, defScope s_check_settings, [], []⟩
theorem sc_check_settings : FnScope N_check_settings P_check_settings (defScope s_check_settings) := ⟨rfl, rfl, rfl, by decide +kernel, rfl, by decide +kernel, by decide +kernel⟩
abbrev F_check_settings (K : PySem.W.Frag) (fd : FuncData) : Prop := FunD K "check_settings" "check_settings" (defArgs s_check_settings) (defBody s_check_settings) (defScope s_check_settings) [] [] (He.fAd K ("check_settings", none)) fd
abbrev s_check_moment : Stmt := topS 19
abbrev P_check_moment : List Str := ["value"]
abbrev N_check_moment : List Str := ["value"]
def dd_check_moment : He.DefD := ⟨("check_moment", none), "check_moment", "check_moment", defArgs s_check_moment, defBody s_check_moment, defScope s_check_moment, [], []⟩
theorem sc_check_moment : FnScope N_check_moment P_check_moment (defScope s_check_moment) := ⟨rfl, rfl, rfl, by decide +kernel, rfl, by decide +kernel, by decide +kernel⟩
abbrev F_check_moment (K : PySem.W.Frag) (fd : FuncData) : Prop := FunD K "check_moment" "check_moment" (defArgs s_check_moment) (defBody s_check_moment) (defScope s_check_moment) [] [] (He.fAd K ("check_moment", none)) fd
abbrev s_check_row : Stmt := topS 20
abbrev P_check_row : List Str := ["value", "moment"]
abbrev N_check_row : List Str := ["value", "moment"]
def dd_check_row : He.DefD := ⟨("check_row", none), "check_row", "check_row", defArgs s_check_row, defBody s_check_row, defScope s_check_row, [.int (1000000000000000000000000000000)], []⟩
theorem sc_check_row : FnScope N_check_row P_check_row (defScope s_check_row) := ⟨rfl, rfl, rfl, by decide +kernel, rfl, by decide +kernel, by decide +kernel⟩
abbrev F_check_row (K : PySem.W.Frag) (fd : FuncData) : Prop := FunD K "check_row" "check_row" (defArgs s_check_row) (defBody s_check_row) (defScope s_check_row) [.int (1000000000000000000000000000000)] [] (He.fAd K ("check_row", none)) fd
abbrev s_check_count : Stmt := topS 22
abbrev P_check_count : List Str := ["number"]
abbrev N_check_count : List Str := ["number"]
def dd_check_count : He.DefD := ⟨("check_count", none), "check_count", "check_count", defArgs s_check_count, defBody s_check_count, defScope s_check_count, [], []⟩
theorem sc_check_count : FnScope N_check_count P_check_count (defScope s_check_count) := ⟨rfl, rfl, rfl, by decide +kernel, rfl, by decide +kernel, by decide +kernel⟩
abbrev F_check_count (K : PySem.W.Frag) (fd : FuncData) : Prop := FunD K "check_count" "check_count" (defArgs s_check_count) (defBody s_check_count) (defScope s_check_count) [] [] (He.fAd K ("check_count", none)) fd
abbrev s_pages_for : Stmt := topS 23
abbrev P_pages_for : List Str := ["settings", "many"]
abbrev N_pages_for : List Str := ["settings", "many"]
def dd_pages_for : He.DefD := ⟨("pages_for", none), "pages_for", "pages_for", defArgs s_pages_for, defBody s_pages_for, defScope s_pages_for, [], []⟩
theorem sc_pages_for : FnScope N_pages_for P_pages_for (defScope s_pages_for) := ⟨rfl, rfl, rfl, by decide +kernel, rfl, by decide +kernel, by decide +kernel⟩
abbrev F_pages_for (K : PySem.W.Frag) (fd : FuncData) : Prop := FunD K "pages_for" "pages_for" (defArgs s_pages_for) (defBody s_pages_for) (defScope s_pages_for) [] [] (He.fAd K ("pages_for", none)) fd
abbrev s_record_place : Stmt := topS 24
abbrev P_record_place : List Str := ["settings", "row"]
abbrev N_record_place : List Str := ["settings", "row", "place"]
def dd_record_place : He.DefD := ⟨("record_place", none), "record_place", "record_place", defArgs s_record_place, defBody s_record_place, defScope s_record_place, [], []⟩
theorem sc_record_place : FnScope N_record_place P_record_place (defScope s_record_place) := ⟨rfl, rfl, rfl, by decide +kernel, rfl, by decide +kernel, by decide +kernel⟩
abbrev F_record_place (K : PySem.W.Frag) (fd : FuncData) : Prop := FunD K "record_place" "record_place" (defArgs s_record_place) (defBody s_record_place) (defScope s_record_place) [] [] (He.fAd K ("record_place", none)) fd
abbrev s_log_total : Stmt := topS 25
abbrev P_log_total : List Str := ["settings", "moment"]
abbrev N_log_total : List Str := ["settings", "moment"]
def dd_log_total : He.DefD := ⟨("log_total", none), "log_total", "log_total", defArgs s_log_total, defBody s_log_total, defScope s_log_total, [], []⟩
theorem sc_log_total : FnScope N_log_total P_log_total (defScope s_log_total) := ⟨rfl, rfl, rfl, by decide +kernel, rfl, by decide +kernel, by decide +kernel⟩
abbrev F_log_total (K : PySem.W.Frag) (fd : FuncData) : Prop := FunD K "log_total" "log_total" (defArgs s_log_total) (defBody s_log_total) (defScope s_log_total) [] [] (He.fAd K ("log_total", none)) fd
abbrev s_log_takes : Stmt := topS 26
abbrev P_log_takes : List Str := ["settings", "moment"]
abbrev N_log_takes : List Str := ["settings", "moment", "whole"]
def dd_log_takes : He.DefD := ⟨("log_takes", none), "log_takes", "log_takes", defArgs s_log_takes, defBody s_log_takes, defScope s_log_takes, [], []⟩
theorem sc_log_takes : FnScope N_log_takes P_log_takes (defScope s_log_takes) := ⟨rfl, rfl, rfl, by decide +kernel, rfl, by decide +kernel, by decide +kernel⟩
abbrev F_log_takes (K : PySem.W.Frag) (fd : FuncData) : Prop := FunD K "log_takes" "log_takes" (defArgs s_log_takes) (defBody s_log_takes) (defScope s_log_takes) [] [] (He.fAd K ("log_takes", none)) fd
abbrev s_take_row : Stmt := topS 27
abbrev P_take_row : List Str := ["settings", "k"]
abbrev N_take_row : List Str := ["settings", "k", "whole", "row"]
def dd_take_row : He.DefD := ⟨("take_row", none), "take_row", "take_row", defArgs s_take_row, defBody s_take_row, defScope s_take_row, [], []⟩
theorem sc_take_row : FnScope N_take_row P_take_row (defScope s_take_row) := ⟨rfl, rfl, rfl, by decide +kernel, rfl, by decide +kernel, by decide +kernel⟩
abbrev F_take_row (K : PySem.W.Frag) (fd : FuncData) : Prop := FunD K "take_row" "take_row" (defArgs s_take_row) (defBody s_take_row) (defScope s_take_row) [] [] (He.fAd K ("take_row", none)) fd
abbrev s_law_digits : Stmt := topS 29
abbrev P_law_digits : List Str := ["cell", "many"]
abbrev N_law_digits : List Str := ["cell", "many", "digits", "rest", "number", "k"]
def dd_law_digits : He.DefD := ⟨("_law_digits", none), "_law_digits", "_law_digits", defArgs s_law_digits, defBody s_law_digits, defScope s_law_digits, [], []⟩
theorem sc_law_digits : FnScope N_law_digits P_law_digits (defScope s_law_digits) := ⟨rfl, rfl, rfl, by decide +kernel, rfl, by decide +kernel, by decide +kernel⟩
abbrev F_law_digits (K : PySem.W.Frag) (fd : FuncData) : Prop := FunD K "_law_digits" "_law_digits" (defArgs s_law_digits) (defBody s_law_digits) (defScope s_law_digits) [] [] (He.fAd K ("_law_digits", none)) fd
abbrev s_law_parts : Stmt := topS 30
abbrev P_law_parts : List Str := ["digits"]
abbrev N_law_parts : List Str := ["digits", "size", "lengths", "parts", "k"]
def dd_law_parts : He.DefD := ⟨("_law_parts", none), "_law_parts", "_law_parts", defArgs s_law_parts, defBody s_law_parts, defScope s_law_parts, [], []⟩
theorem sc_law_parts : FnScope N_law_parts P_law_parts (defScope s_law_parts) := ⟨rfl, rfl, rfl, by decide +kernel, rfl, by decide +kernel, by decide +kernel⟩
abbrev F_law_parts (K : PySem.W.Frag) (fd : FuncData) : Prop := FunD K "_law_parts" "_law_parts" (defArgs s_law_parts) (defBody s_law_parts) (defScope s_law_parts) [] [] (He.fAd K ("_law_parts", none)) fd
abbrev s_law_settings : Stmt := topS 31
abbrev P_law_settings : List Str := ["parts"]
abbrev N_law_settings : List Str := ["parts", "fan", "many", "pace", "kept", "word"]
def dd_law_settings : He.DefD := ⟨("_law_settings", none), "_law_settings", "_law_settings", defArgs s_law_settings, defBody s_law_settings, defScope s_law_settings, [], []⟩
theorem sc_law_settings : FnScope N_law_settings P_law_settings (defScope s_law_settings) := ⟨rfl, rfl, rfl, by decide +kernel, rfl, by decide +kernel, by decide +kernel⟩
abbrev F_law_settings (K : PySem.W.Frag) (fd : FuncData) : Prop := FunD K "_law_settings" "_law_settings" (defArgs s_law_settings) (defBody s_law_settings) (defScope s_law_settings) [] [] (He.fAd K ("_law_settings", none)) fd
abbrev s_law_number : Stmt := topS 32
abbrev P_law_number : List Str := ["ask"]
abbrev N_law_number : List Str := ["ask", "e"]
def dd_law_number : He.DefD := ⟨("_law_number", none), "_law_number", "_law_number", defArgs s_law_number, defBody s_law_number, defScope s_law_number, [], []⟩
theorem sc_law_number : FnScope N_law_number P_law_number (defScope s_law_number) := ⟨rfl, rfl, rfl, by decide +kernel, rfl, by decide +kernel, by decide +kernel⟩
abbrev F_law_number (K : PySem.W.Frag) (fd : FuncData) : Prop := FunD K "_law_number" "_law_number" (defArgs s_law_number) (defBody s_law_number) (defScope s_law_number) [] [] (He.fAd K ("_law_number", none)) fd
abbrev s_law_counted : Stmt := topS 33
abbrev P_law_counted : List Str := ["parts", "many"]
abbrev N_law_counted : List Str := ["parts", "many", "places", "totals", "takers", "begun", "pages", "left", "row"]
def dd_law_counted : He.DefD := ⟨("_law_counted", none), "_law_counted", "_law_counted", defArgs s_law_counted, defBody s_law_counted, defScope s_law_counted, [], []⟩
theorem sc_law_counted : FnScope N_law_counted P_law_counted (defScope s_law_counted) := ⟨rfl, rfl, rfl, by decide +kernel, rfl, by decide +kernel, by decide +kernel⟩
abbrev F_law_counted (K : PySem.W.Frag) (fd : FuncData) : Prop := FunD K "_law_counted" "_law_counted" (defArgs s_law_counted) (defBody s_law_counted) (defScope s_law_counted) [] [] (He.fAd K ("_law_counted", none)) fd
abbrev s_law_right : Stmt := topS 34
abbrev P_law_right : List Str := ["parts", "settings", "times"]
abbrev N_law_right : List Str := ["parts", "settings", "times", "places", "totals", "takers", "wide", "far", "gone", "sums", "row", "moment", "k"]
def dd_law_right : He.DefD := ⟨("_law_right", none), "_law_right", "_law_right", defArgs s_law_right, defBody s_law_right, defScope s_law_right, [], []⟩
theorem sc_law_right : FnScope N_law_right P_law_right (defScope s_law_right) := ⟨rfl, rfl, rfl, by decide +kernel, rfl, by decide +kernel, by decide +kernel⟩
abbrev F_law_right (K : PySem.W.Frag) (fd : FuncData) : Prop := FunD K "_law_right" "_law_right" (defArgs s_law_right) (defBody s_law_right) (defScope s_law_right) [] [] (He.fAd K ("_law_right", none)) fd
abbrev s_law : Stmt := topS 35
abbrev P_law : List Str := ["script"]
abbrev N_law : List Str := ["script", "cell", "digits", "parts", "times", "last", "odd", "settings"]
def dd_law : He.DefD := ⟨("law", none), "law", "law", defArgs s_law, defBody s_law, defScope s_law, [], []⟩
theorem sc_law : FnScope N_law P_law (defScope s_law) := ⟨rfl, rfl, rfl, by decide +kernel, rfl, by decide +kernel, by decide +kernel⟩
abbrev F_law (K : PySem.W.Frag) (fd : FuncData) : Prop := FunD K "law" "law" (defArgs s_law) (defBody s_law) (defScope s_law) [] [] (He.fAd K ("law", none)) fd
abbrev s_InvalidSettings___init__ : Stmt := inClass (topS 3) 0
abbrev P_InvalidSettings___init__ : List Str := ["self", "part"]
abbrev N_InvalidSettings___init__ : List Str := ["self", "part"]
def dd_InvalidSettings___init__ : He.DefD := ⟨("InvalidSettings", some "__init__"), "__init__", "InvalidSettings.__init__", defArgs s_InvalidSettings___init__, defBody s_InvalidSettings___init__, defScope s_InvalidSettings___init__, [], []⟩
theorem sc_InvalidSettings___init__ : FnScope N_InvalidSettings___init__ P_InvalidSettings___init__ (defScope s_InvalidSettings___init__) := ⟨rfl, rfl, rfl, by decide +kernel, rfl, by decide +kernel, by decide +kernel⟩
abbrev F_InvalidSettings___init__ (K : PySem.W.Frag) (fd : FuncData) : Prop := FunD K "__init__" "InvalidSettings.__init__" (defArgs s_InvalidSettings___init__) (defBody s_InvalidSettings___init__) (defScope s_InvalidSettings___init__) [] [] (He.fAd K ("InvalidSettings", some "__init__")) fd
abbrev s_InvalidRow___init__ : Stmt := inClass (topS 4) 0
abbrev P_InvalidRow___init__ : List Str := ["self", "row"]
abbrev N_InvalidRow___init__ : List Str := ["self", "row"]
def dd_InvalidRow___init__ : He.DefD := ⟨("InvalidRow", some "__init__"), "__init__", "InvalidRow.__init__", defArgs s_InvalidRow___init__, defBody s_InvalidRow___init__, defScope s_InvalidRow___init__, [], []⟩
theorem sc_InvalidRow___init__ : FnScope N_InvalidRow___init__ P_InvalidRow___init__ (defScope s_InvalidRow___init__) := ⟨rfl, rfl, rfl, by decide +kernel, rfl, by decide +kernel, by decide +kernel⟩
abbrev F_InvalidRow___init__ (K : PySem.W.Frag) (fd : FuncData) : Prop := FunD K "__init__" "InvalidRow.__init__" (defArgs s_InvalidRow___init__) (defBody s_InvalidRow___init__) (defScope s_InvalidRow___init__) [] [] (He.fAd K ("InvalidRow", some "__init__")) fd
abbrev s_InvalidNumber___init__ : Stmt := inClass (topS 5) 0
abbrev P_InvalidNumber___init__ : List Str := ["self", "number"]
abbrev N_InvalidNumber___init__ : List Str := ["self", "number"]
def dd_InvalidNumber___init__ : He.DefD := ⟨("InvalidNumber", some "__init__"), "__init__", "InvalidNumber.__init__", defArgs s_InvalidNumber___init__, defBody s_InvalidNumber___init__, defScope s_InvalidNumber___init__, [], []⟩
theorem sc_InvalidNumber___init__ : FnScope N_InvalidNumber___init__ P_InvalidNumber___init__ (defScope s_InvalidNumber___init__) := ⟨rfl, rfl, rfl, by decide +kernel, rfl, by decide +kernel, by decide +kernel⟩
abbrev F_InvalidNumber___init__ (K : PySem.W.Frag) (fd : FuncData) : Prop := FunD K "__init__" "InvalidNumber.__init__" (defArgs s_InvalidNumber___init__) (defBody s_InvalidNumber___init__) (defScope s_InvalidNumber___init__) [] [] (He.fAd K ("InvalidNumber", some "__init__")) fd
theorem lk_Settings_1_0 {v0 : V} : List.lookup ("lengths" : Str) [(("lengths" : Str), v0)] = some v0 := by kernel_rfl
theorem lk_Settings_2_0 {v0 v1 : V} : List.lookup ("lengths" : Str) [(("lengths" : Str), v0), (("size" : Str), v1)] = some v0 := by kernel_rfl
theorem lk_Settings_2_1 {v0 v1 : V} : List.lookup ("size" : Str) [(("lengths" : Str), v0), (("size" : Str), v1)] = some v1 := by kernel_rfl
theorem lk_Settings_3_0 {v0 v1 v2 : V} : List.lookup ("lengths" : Str) [(("lengths" : Str), v0), (("size" : Str), v1), (("fanout" : Str), v2)] = some v0 := by kernel_rfl
theorem lk_Settings_3_1 {v0 v1 v2 : V} : List.lookup ("size" : Str) [(("lengths" : Str), v0), (("size" : Str), v1), (("fanout" : Str), v2)] = some v1 := by kernel_rfl
theorem lk_Settings_3_2 {v0 v1 v2 : V} : List.lookup ("fanout" : Str) [(("lengths" : Str), v0), (("size" : Str), v1), (("fanout" : Str), v2)] = some v2 := by kernel_rfl
theorem lk_Settings_4_0 {v0 v1 v2 v3 : V} : List.lookup ("lengths" : Str) [(("lengths" : Str), v0), (("size" : Str), v1), (("fanout" : Str), v2), (("records" : Str), v3)] = some v0 := by kernel_rfl
theorem lk_Settings_4_1 {v0 v1 v2 v3 : V} : List.lookup ("size" : Str) [(("lengths" : Str), v0), (("size" : Str), v1), (("fanout" : Str), v2), (("records" : Str), v3)] = some v1 := by kernel_rfl
theorem lk_Settings_4_2 {v0 v1 v2 v3 : V} : List.lookup ("fanout" : Str) [(("lengths" : Str), v0), (("size" : Str), v1), (("fanout" : Str), v2), (("records" : Str), v3)] = some v2 := by kernel_rfl
theorem lk_Settings_4_3 {v0 v1 v2 v3 : V} : List.lookup ("records" : Str) [(("lengths" : Str), v0), (("size" : Str), v1), (("fanout" : Str), v2), (("records" : Str), v3)] = some v3 := by kernel_rfl
theorem lk_Settings_5_0 {v0 v1 v2 v3 v4 : V} : List.lookup ("lengths" : Str) [(("lengths" : Str), v0), (("size" : Str), v1), (("fanout" : Str), v2), (("records" : Str), v3), (("every" : Str), v4)] = some v0 := by kernel_rfl
theorem lk_Settings_5_1 {v0 v1 v2 v3 v4 : V} : List.lookup ("size" : Str) [(("lengths" : Str), v0), (("size" : Str), v1), (("fanout" : Str), v2), (("records" : Str), v3), (("every" : Str), v4)] = some v1 := by kernel_rfl
theorem lk_Settings_5_2 {v0 v1 v2 v3 v4 : V} : List.lookup ("fanout" : Str) [(("lengths" : Str), v0), (("size" : Str), v1), (("fanout" : Str), v2), (("records" : Str), v3), (("every" : Str), v4)] = some v2 := by kernel_rfl
theorem lk_Settings_5_3 {v0 v1 v2 v3 v4 : V} : List.lookup ("records" : Str) [(("lengths" : Str), v0), (("size" : Str), v1), (("fanout" : Str), v2), (("records" : Str), v3), (("every" : Str), v4)] = some v3 := by kernel_rfl
theorem lk_Settings_5_4 {v0 v1 v2 v3 v4 : V} : List.lookup ("every" : Str) [(("lengths" : Str), v0), (("size" : Str), v1), (("fanout" : Str), v2), (("records" : Str), v3), (("every" : Str), v4)] = some v4 := by kernel_rfl
theorem lk_Settings_6_0 {v0 v1 v2 v3 v4 v5 : V} : List.lookup ("lengths" : Str) [(("lengths" : Str), v0), (("size" : Str), v1), (("fanout" : Str), v2), (("records" : Str), v3), (("every" : Str), v4), (("keep" : Str), v5)] = some v0 := by kernel_rfl
theorem lk_Settings_6_1 {v0 v1 v2 v3 v4 v5 : V} : List.lookup ("size" : Str) [(("lengths" : Str), v0), (("size" : Str), v1), (("fanout" : Str), v2), (("records" : Str), v3), (("every" : Str), v4), (("keep" : Str), v5)] = some v1 := by kernel_rfl
theorem lk_Settings_6_2 {v0 v1 v2 v3 v4 v5 : V} : List.lookup ("fanout" : Str) [(("lengths" : Str), v0), (("size" : Str), v1), (("fanout" : Str), v2), (("records" : Str), v3), (("every" : Str), v4), (("keep" : Str), v5)] = some v2 := by kernel_rfl
theorem lk_Settings_6_3 {v0 v1 v2 v3 v4 v5 : V} : List.lookup ("records" : Str) [(("lengths" : Str), v0), (("size" : Str), v1), (("fanout" : Str), v2), (("records" : Str), v3), (("every" : Str), v4), (("keep" : Str), v5)] = some v3 := by kernel_rfl
theorem lk_Settings_6_4 {v0 v1 v2 v3 v4 v5 : V} : List.lookup ("every" : Str) [(("lengths" : Str), v0), (("size" : Str), v1), (("fanout" : Str), v2), (("records" : Str), v3), (("every" : Str), v4), (("keep" : Str), v5)] = some v4 := by kernel_rfl
theorem lk_Settings_6_5 {v0 v1 v2 v3 v4 v5 : V} : List.lookup ("keep" : Str) [(("lengths" : Str), v0), (("size" : Str), v1), (("fanout" : Str), v2), (("records" : Str), v3), (("every" : Str), v4), (("keep" : Str), v5)] = some v5 := by kernel_rfl
theorem pf_Settings_0 {v0 : V} : putF ("lengths" : Str) v0 ([] : List (Str × V)) = ([(("lengths" : Str), v0)] : List (Str × V)) := by kernel_rfl
theorem pf_Settings_1 {v0 v1 : V} : putF ("size" : Str) v1 ([(("lengths" : Str), v0)] : List (Str × V)) = ([(("lengths" : Str), v0), (("size" : Str), v1)] : List (Str × V)) := by kernel_rfl
theorem pf_Settings_2 {v0 v1 v2 : V} : putF ("fanout" : Str) v2 ([(("lengths" : Str), v0), (("size" : Str), v1)] : List (Str × V)) = ([(("lengths" : Str), v0), (("size" : Str), v1), (("fanout" : Str), v2)] : List (Str × V)) := by kernel_rfl
theorem pf_Settings_3 {v0 v1 v2 v3 : V} : putF ("records" : Str) v3 ([(("lengths" : Str), v0), (("size" : Str), v1), (("fanout" : Str), v2)] : List (Str × V)) = ([(("lengths" : Str), v0), (("size" : Str), v1), (("fanout" : Str), v2), (("records" : Str), v3)] : List (Str × V)) := by kernel_rfl
theorem pf_Settings_4 {v0 v1 v2 v3 v4 : V} : putF ("every" : Str) v4 ([(("lengths" : Str), v0), (("size" : Str), v1), (("fanout" : Str), v2), (("records" : Str), v3)] : List (Str × V)) = ([(("lengths" : Str), v0), (("size" : Str), v1), (("fanout" : Str), v2), (("records" : Str), v3), (("every" : Str), v4)] : List (Str × V)) := by kernel_rfl
theorem pf_Settings_5 {v0 v1 v2 v3 v4 v5 : V} : putF ("keep" : Str) v5 ([(("lengths" : Str), v0), (("size" : Str), v1), (("fanout" : Str), v2), (("records" : Str), v3), (("every" : Str), v4)] : List (Str × V)) = ([(("lengths" : Str), v0), (("size" : Str), v1), (("fanout" : Str), v2), (("records" : Str), v3), (("every" : Str), v4), (("keep" : Str), v5)] : List (Str × V)) := by kernel_rfl
def exl : List (PySem.W.Frag → Bool) := [eqCB "Settings", isCB "Settings", kitB2 "Settings" "int" false, kitB2 "Settings" "bool" false, kitB2 "Settings" "list" false, kitB1 "int" "Settings" false, kitB1 "bool" "Settings" false, kitB1 "str" "Settings" false, kitB1 "list" "Settings" false, kitB1 "tuple" "Settings" false, kitB1 "dict" "Settings" false, kitB1 "NoneType" "Settings" false, kitB3 "Settings" "Settings" true, leBB "StoreError", leCB "InvalidSettings", leIB "InvalidSettings", leTB "InvalidSettings", isCB "InvalidSettings", leNB "InvalidSettings" "part", leXB "InvalidSettings" "InvalidNumber" false, leCB "InvalidRow", leIB "InvalidRow", leTB "InvalidRow", isCB "InvalidRow", leNB "InvalidRow" "row", leXB "InvalidRow" "InvalidNumber" false, leCB "InvalidNumber", leIB "InvalidNumber", leTB "InvalidNumber", isCB "InvalidNumber", leNB "InvalidNumber" "number", leXB "InvalidNumber" "InvalidNumber" true, smB]
def exB (K : PySem.W.Frag) : Bool := exl.all fun f => f K
structure Txt0 (K : PySem.W.Frag)  (mg : Str → Option Value) (D : Nat → FuncData) : Prop where
  d_is_integer : F_is_integer K (D 0)
  d_is_between : F_is_between K (D 1)
  d_check_part : F_check_part K (D 2)
  d_Settings___init__ : F_Settings___init__ K (D 3)
  d_Settings___eq__ : F_Settings___eq__ K (D 4)
  d_Settings_parts : F_Settings_parts K (D 5)
  d_check_settings : F_check_settings K (D 6)
  d_check_moment : F_check_moment K (D 7)
  d_check_row : F_check_row K (D 8)
  d_check_count : F_check_count K (D 9)
  d_pages_for : F_pages_for K (D 10)
  d_record_place : F_record_place K (D 11)
  d_log_total : F_log_total K (D 12)
  d_log_takes : F_log_takes K (D 13)
  d_take_row : F_take_row K (D 14)
  d_law_digits : F_law_digits K (D 15)
  d_law_parts : F_law_parts K (D 16)
  d_law_settings : F_law_settings K (D 17)
  d_law_number : F_law_number K (D 18)
  d_law_counted : F_law_counted K (D 19)
  d_law_right : F_law_right K (D 20)
  d_law : F_law K (D 21)
  d_InvalidSettings___init__ : F_InvalidSettings___init__ K (D 22)
  d_InvalidRow___init__ : F_InvalidRow___init__ K (D 23)
  d_InvalidNumber___init__ : F_InvalidNumber___init__ K (D 24)
  g_is_integer : mg "is_integer" = some (.ref (He.fAd K ("is_integer", none)))
  g_is_between : mg "is_between" = some (.ref (He.fAd K ("is_between", none)))
  g_check_part : mg "check_part" = some (.ref (He.fAd K ("check_part", none)))
  g_check_settings : mg "check_settings" = some (.ref (He.fAd K ("check_settings", none)))
  g_check_moment : mg "check_moment" = some (.ref (He.fAd K ("check_moment", none)))
  g_check_row : mg "check_row" = some (.ref (He.fAd K ("check_row", none)))
  g_check_count : mg "check_count" = some (.ref (He.fAd K ("check_count", none)))
  g_pages_for : mg "pages_for" = some (.ref (He.fAd K ("pages_for", none)))
  g_record_place : mg "record_place" = some (.ref (He.fAd K ("record_place", none)))
  g_log_total : mg "log_total" = some (.ref (He.fAd K ("log_total", none)))
  g_log_takes : mg "log_takes" = some (.ref (He.fAd K ("log_takes", none)))
  g_take_row : mg "take_row" = some (.ref (He.fAd K ("take_row", none)))
  g_law_digits : mg "_law_digits" = some (.ref (He.fAd K ("_law_digits", none)))
  g_law_parts : mg "_law_parts" = some (.ref (He.fAd K ("_law_parts", none)))
  g_law_settings : mg "_law_settings" = some (.ref (He.fAd K ("_law_settings", none)))
  g_law_number : mg "_law_number" = some (.ref (He.fAd K ("_law_number", none)))
  g_law_counted : mg "_law_counted" = some (.ref (He.fAd K ("_law_counted", none)))
  g_law_right : mg "_law_right" = some (.ref (He.fAd K ("_law_right", none)))
  g_law : mg "law" = some (.ref (He.fAd K ("law", none)))
  g_Settings : mg "Settings" = some (.ref (He.ga K "Settings"))
  g_StoreError : mg "StoreError" = some (.ref (He.ga K "StoreError"))
  g_InvalidSettings : mg "InvalidSettings" = some (.ref (He.ga K "InvalidSettings"))
  g_InvalidRow : mg "InvalidRow" = some (.ref (He.ga K "InvalidRow"))
  g_InvalidNumber : mg "InvalidNumber" = some (.ref (He.ga K "InvalidNumber"))
  c_Settings : Cls K (He.ga K "Settings")
  mk_Settings : Mk K (He.ga K "Settings") (He.fAd K ("Settings", some "__init__"))
  a_Settings_lengths : NoAttr K (He.ga K "Settings") "lengths"
  a_Settings_size : NoAttr K (He.ga K "Settings") "size"
  a_Settings_fanout : NoAttr K (He.ga K "Settings") "fanout"
  a_Settings_records : NoAttr K (He.ga K "Settings") "records"
  a_Settings_every : NoAttr K (He.ga K "Settings") "every"
  a_Settings_keep : NoAttr K (He.ga K "Settings") "keep"
  m_Settings___eq__ : Meth K (He.ga K "Settings") "__eq__" (He.fAd K ("Settings", some "__eq__"))
  m_Settings_parts : Meth K (He.ga K "Settings") "parts" (He.fAd K ("Settings", some "parts"))
  n_int : mg "int" = none
  n_len : mg "len" = none
  n_range : mg "range" = none
  n_isinstance : mg "isinstance" = none
  n_list : mg "list" = none
  n_tuple : mg "tuple" = none
  n_bool : mg "bool" = none
  n_max : mg "max" = none
  n_repr : mg "repr" = none
  i_MOST_ROW : ∃ t, mg "MOST_ROW" = some (.int (1000000000000000000000000000000) t)
  i_MOST_LENGTHS : ∃ t, mg "MOST_LENGTHS" = some (.int (6) t)
  i_MOST_SIZE : ∃ t, mg "MOST_SIZE" = some (.int (64) t)
  i_MOST_FANOUT : ∃ t, mg "MOST_FANOUT" = some (.int (8) t)
  i_MOST_RECORDS : ∃ t, mg "MOST_RECORDS" = some (.int (16) t)
  i_MOST_EVERY : ∃ t, mg "MOST_EVERY" = some (.int (40) t)
  i_MOST_KEEP : ∃ t, mg "MOST_KEEP" = some (.int (100) t)
  eq_Settings : EqC K (He.ga K "Settings")
  ic_Settings : IsC K (He.ga K "Settings")
  kc_Settings_int : PySem.W.kitOne K (.ref (He.ga K "Settings")) (.type "int") = some false
  kc_Settings_bool : PySem.W.kitOne K (.ref (He.ga K "Settings")) (.type "bool") = some false
  kc_Settings_list : PySem.W.kitOne K (.ref (He.ga K "Settings")) (.type "list") = some false
  kb_int_Settings : PySem.W.kitOne K (.type "int") (.ref (He.ga K "Settings")) = some false
  kb_bool_Settings : PySem.W.kitOne K (.type "bool") (.ref (He.ga K "Settings")) = some false
  kb_str_Settings : PySem.W.kitOne K (.type "str") (.ref (He.ga K "Settings")) = some false
  kb_list_Settings : PySem.W.kitOne K (.type "list") (.ref (He.ga K "Settings")) = some false
  kb_tuple_Settings : PySem.W.kitOne K (.type "tuple") (.ref (He.ga K "Settings")) = some false
  kb_dict_Settings : PySem.W.kitOne K (.type "dict") (.ref (He.ga K "Settings")) = some false
  kb_NoneType_Settings : PySem.W.kitOne K (.type "NoneType") (.ref (He.ga K "Settings")) = some false
  kk_Settings_Settings : PySem.W.kitOne K (.ref (He.ga K "Settings")) (.ref (He.ga K "Settings")) = some true
  lb_StoreError : LeB K (He.ga K "StoreError")
  le_InvalidSettings : LeC K (He.ga K "InvalidSettings")
  li_InvalidSettings : PySem.W.findIn K (.ref (He.ga K "InvalidSettings")) "__init__" = some (some (.ref (He.fAd K ("InvalidSettings", some "__init__"))))
  lt_InvalidSettings : PySem.W.typeIn K (.ref (He.fAd K ("InvalidSettings", some "__init__"))) = some (.type "function")
  ic_InvalidSettings : IsC K (He.ga K "InvalidSettings")
  ln_InvalidSettings_part : PySem.W.findIn K (.ref (He.ga K "InvalidSettings")) "part" = some none
  xm_InvalidSettings_InvalidNumber : PySem.W.exmOne K (.ref (He.ga K "InvalidSettings")) (.ref (He.ga K "InvalidNumber")) = some false
  le_InvalidRow : LeC K (He.ga K "InvalidRow")
  li_InvalidRow : PySem.W.findIn K (.ref (He.ga K "InvalidRow")) "__init__" = some (some (.ref (He.fAd K ("InvalidRow", some "__init__"))))
  lt_InvalidRow : PySem.W.typeIn K (.ref (He.fAd K ("InvalidRow", some "__init__"))) = some (.type "function")
  ic_InvalidRow : IsC K (He.ga K "InvalidRow")
  ln_InvalidRow_row : PySem.W.findIn K (.ref (He.ga K "InvalidRow")) "row" = some none
  xm_InvalidRow_InvalidNumber : PySem.W.exmOne K (.ref (He.ga K "InvalidRow")) (.ref (He.ga K "InvalidNumber")) = some false
  le_InvalidNumber : LeC K (He.ga K "InvalidNumber")
  li_InvalidNumber : PySem.W.findIn K (.ref (He.ga K "InvalidNumber")) "__init__" = some (some (.ref (He.fAd K ("InvalidNumber", some "__init__"))))
  lt_InvalidNumber : PySem.W.typeIn K (.ref (He.fAd K ("InvalidNumber", some "__init__"))) = some (.type "function")
  ic_InvalidNumber : IsC K (He.ga K "InvalidNumber")
  ln_InvalidNumber_number : PySem.W.findIn K (.ref (He.ga K "InvalidNumber")) "number" = some none
  xm_InvalidNumber_InvalidNumber : PySem.W.exmOne K (.ref (He.ga K "InvalidNumber")) (.ref (He.ga K "InvalidNumber")) = some true
  sm : Sm K
def fnl : List He.DefD := [dd_is_integer, dd_is_between, dd_check_part, dd_Settings___init__, dd_Settings___eq__, dd_Settings_parts, dd_check_settings, dd_check_moment, dd_check_row, dd_check_count, dd_pages_for, dd_record_place, dd_log_total, dd_log_takes, dd_take_row, dd_law_digits, dd_law_parts, dd_law_settings, dd_law_number, dd_law_counted, dd_law_right, dd_law, dd_InvalidSettings___init__, dd_InvalidRow___init__, dd_InvalidNumber___init__]
def fal : List He.Fa := [.glo "is_integer", .glo "is_between", .glo "check_part", .glo "check_settings", .glo "check_moment", .glo "check_row", .glo "check_count", .glo "pages_for", .glo "record_place", .glo "log_total", .glo "log_takes", .glo "take_row", .glo "_law_digits", .glo "_law_parts", .glo "_law_settings", .glo "_law_number", .glo "_law_counted", .glo "_law_right", .glo "law", .glo "Settings", .glo "StoreError", .glo "InvalidSettings", .glo "InvalidRow", .glo "InvalidNumber", .cls "Settings", .mkr "Settings", .noat "Settings" "lengths", .noat "Settings" "size", .noat "Settings" "fanout", .noat "Settings" "records", .noat "Settings" "every", .noat "Settings" "keep", .meth "Settings" "__eq__", .meth "Settings" "parts", .free "int", .free "len", .free "range", .free "isinstance", .free "list", .free "tuple", .free "bool", .free "max", .free "repr", .int "MOST_ROW" (1000000000000000000000000000000), .int "MOST_LENGTHS" (6), .int "MOST_SIZE" (64), .int "MOST_FANOUT" (8), .int "MOST_RECORDS" (16), .int "MOST_EVERY" (40), .int "MOST_KEEP" (100)]
def D_is_integer : Nat := 0
def D_is_between : Nat := 1
def D_check_part : Nat := 2
def D_Settings___init__ : Nat := 3
def D_Settings___eq__ : Nat := 4
def D_Settings_parts : Nat := 5
def D_check_settings : Nat := 6
def D_check_moment : Nat := 7
def D_check_row : Nat := 8
def D_check_count : Nat := 9
def D_pages_for : Nat := 10
def D_record_place : Nat := 11
def D_log_total : Nat := 12
def D_log_takes : Nat := 13
def D_take_row : Nat := 14
def D_law_digits : Nat := 15
def D_law_parts : Nat := 16
def D_law_settings : Nat := 17
def D_law_number : Nat := 18
def D_law_counted : Nat := 19
def D_law_right : Nat := 20
def D_law : Nat := 21
def D_InvalidSettings___init__ : Nat := 22
def D_InvalidRow___init__ : Nat := 23
def D_InvalidNumber___init__ : Nat := 24
theorem txt_of {K : PySem.W.Frag} {h : Heap} {mg : Str → Option Value} (X : K.In h) (G : h.Ns mainGlobals mg) (c : He.SaysD fal fnl K) (cx : exB K = true) : ∃ D, Txt0 K mg D := by
  have hx : ∀ f ∈ exl, f K = true := List.all_eq_true.mp cx
  have hd : ∀ i : Nat, ∃ fd : FuncData, ∀ d : He.DefD, fnl[i]? = some d → FunD K d.name d.qual d.params d.body d.scope (d.dvs K) (d.kws K) (He.fAd K d.at_) fd := fun i => by
    cases e : fnl[i]? with
    | none => exact ⟨PySem.W.fnOf "" "" (defArgs (topS 0)) [] (defScope (topS 0)) .none .none .none .none none .none .none, fun d h => nomatch h⟩
    | some d =>
      obtain ⟨fd, h⟩ := c.def_ i e
      exact ⟨fd, fun d2 h2 => by cases h2; exact h⟩
  have key := Classical.axiomOfChoice hd
  obtain ⟨D, hD⟩ := key
  refine ⟨D, ?_⟩
  constructor
  · exact hD 0 dd_is_integer rfl
  · exact hD 1 dd_is_between rfl
  · exact hD 2 dd_check_part rfl
  · exact hD 3 dd_Settings___init__ rfl
  · exact hD 4 dd_Settings___eq__ rfl
  · exact hD 5 dd_Settings_parts rfl
  · exact hD 6 dd_check_settings rfl
  · exact hD 7 dd_check_moment rfl
  · exact hD 8 dd_check_row rfl
  · exact hD 9 dd_check_count rfl
  · exact hD 10 dd_pages_for rfl
  · exact hD 11 dd_record_place rfl
  · exact hD 12 dd_log_total rfl
  · exact hD 13 dd_log_takes rfl
  · exact hD 14 dd_take_row rfl
  · exact hD 15 dd_law_digits rfl
  · exact hD 16 dd_law_parts rfl
  · exact hD 17 dd_law_settings rfl
  · exact hD 18 dd_law_number rfl
  · exact hD 19 dd_law_counted rfl
  · exact hD 20 dd_law_right rfl
  · exact hD 21 dd_law rfl
  · exact hD 22 dd_InvalidSettings___init__ rfl
  · exact hD 23 dd_InvalidRow___init__ rfl
  · exact hD 24 dd_InvalidNumber___init__ rfl
  · exact He.glo_ok X G (c.fact 0 (f := .glo "is_integer") rfl)
  · exact He.glo_ok X G (c.fact 1 (f := .glo "is_between") rfl)
  · exact He.glo_ok X G (c.fact 2 (f := .glo "check_part") rfl)
  · exact He.glo_ok X G (c.fact 3 (f := .glo "check_settings") rfl)
  · exact He.glo_ok X G (c.fact 4 (f := .glo "check_moment") rfl)
  · exact He.glo_ok X G (c.fact 5 (f := .glo "check_row") rfl)
  · exact He.glo_ok X G (c.fact 6 (f := .glo "check_count") rfl)
  · exact He.glo_ok X G (c.fact 7 (f := .glo "pages_for") rfl)
  · exact He.glo_ok X G (c.fact 8 (f := .glo "record_place") rfl)
  · exact He.glo_ok X G (c.fact 9 (f := .glo "log_total") rfl)
  · exact He.glo_ok X G (c.fact 10 (f := .glo "log_takes") rfl)
  · exact He.glo_ok X G (c.fact 11 (f := .glo "take_row") rfl)
  · exact He.glo_ok X G (c.fact 12 (f := .glo "_law_digits") rfl)
  · exact He.glo_ok X G (c.fact 13 (f := .glo "_law_parts") rfl)
  · exact He.glo_ok X G (c.fact 14 (f := .glo "_law_settings") rfl)
  · exact He.glo_ok X G (c.fact 15 (f := .glo "_law_number") rfl)
  · exact He.glo_ok X G (c.fact 16 (f := .glo "_law_counted") rfl)
  · exact He.glo_ok X G (c.fact 17 (f := .glo "_law_right") rfl)
  · exact He.glo_ok X G (c.fact 18 (f := .glo "law") rfl)
  · exact He.glo_ok X G (c.fact 19 (f := .glo "Settings") rfl)
  · exact He.glo_ok X G (c.fact 20 (f := .glo "StoreError") rfl)
  · exact He.glo_ok X G (c.fact 21 (f := .glo "InvalidSettings") rfl)
  · exact He.glo_ok X G (c.fact 22 (f := .glo "InvalidRow") rfl)
  · exact He.glo_ok X G (c.fact 23 (f := .glo "InvalidNumber") rfl)
  · exact He.cls_ok (c.fact 24 (f := .cls "Settings") rfl)
  · exact He.mkr_ok (c.fact 25 (f := .mkr "Settings") rfl)
  · exact He.noat_ok (c.fact 26 (f := .noat "Settings" "lengths") rfl)
  · exact He.noat_ok (c.fact 27 (f := .noat "Settings" "size") rfl)
  · exact He.noat_ok (c.fact 28 (f := .noat "Settings" "fanout") rfl)
  · exact He.noat_ok (c.fact 29 (f := .noat "Settings" "records") rfl)
  · exact He.noat_ok (c.fact 30 (f := .noat "Settings" "every") rfl)
  · exact He.noat_ok (c.fact 31 (f := .noat "Settings" "keep") rfl)
  · exact He.meth_ok (c.fact 32 (f := .meth "Settings" "__eq__") rfl)
  · exact He.meth_ok (c.fact 33 (f := .meth "Settings" "parts") rfl)
  · exact He.free_ok X G (c.fact 34 (f := .free "int") rfl)
  · exact He.free_ok X G (c.fact 35 (f := .free "len") rfl)
  · exact He.free_ok X G (c.fact 36 (f := .free "range") rfl)
  · exact He.free_ok X G (c.fact 37 (f := .free "isinstance") rfl)
  · exact He.free_ok X G (c.fact 38 (f := .free "list") rfl)
  · exact He.free_ok X G (c.fact 39 (f := .free "tuple") rfl)
  · exact He.free_ok X G (c.fact 40 (f := .free "bool") rfl)
  · exact He.free_ok X G (c.fact 41 (f := .free "max") rfl)
  · exact He.free_ok X G (c.fact 42 (f := .free "repr") rfl)
  · exact He.int_ok X G (c.fact 43 (f := .int "MOST_ROW" (1000000000000000000000000000000)) rfl)
  · exact He.int_ok X G (c.fact 44 (f := .int "MOST_LENGTHS" (6)) rfl)
  · exact He.int_ok X G (c.fact 45 (f := .int "MOST_SIZE" (64)) rfl)
  · exact He.int_ok X G (c.fact 46 (f := .int "MOST_FANOUT" (8)) rfl)
  · exact He.int_ok X G (c.fact 47 (f := .int "MOST_RECORDS" (16)) rfl)
  · exact He.int_ok X G (c.fact 48 (f := .int "MOST_EVERY" (40)) rfl)
  · exact He.int_ok X G (c.fact 49 (f := .int "MOST_KEEP" (100)) rfl)
  · exact eqCB_ok (hx (eqCB "Settings") (List.mem_of_getElem? (i := 0) rfl))
  · exact isCB_ok (hx (isCB "Settings") (List.mem_of_getElem? (i := 1) rfl))
  · exact of_decide_eq_true (hx (kitB2 "Settings" "int" false) (List.mem_of_getElem? (i := 2) rfl))
  · exact of_decide_eq_true (hx (kitB2 "Settings" "bool" false) (List.mem_of_getElem? (i := 3) rfl))
  · exact of_decide_eq_true (hx (kitB2 "Settings" "list" false) (List.mem_of_getElem? (i := 4) rfl))
  · exact of_decide_eq_true (hx (kitB1 "int" "Settings" false) (List.mem_of_getElem? (i := 5) rfl))
  · exact of_decide_eq_true (hx (kitB1 "bool" "Settings" false) (List.mem_of_getElem? (i := 6) rfl))
  · exact of_decide_eq_true (hx (kitB1 "str" "Settings" false) (List.mem_of_getElem? (i := 7) rfl))
  · exact of_decide_eq_true (hx (kitB1 "list" "Settings" false) (List.mem_of_getElem? (i := 8) rfl))
  · exact of_decide_eq_true (hx (kitB1 "tuple" "Settings" false) (List.mem_of_getElem? (i := 9) rfl))
  · exact of_decide_eq_true (hx (kitB1 "dict" "Settings" false) (List.mem_of_getElem? (i := 10) rfl))
  · exact of_decide_eq_true (hx (kitB1 "NoneType" "Settings" false) (List.mem_of_getElem? (i := 11) rfl))
  · exact of_decide_eq_true (hx (kitB3 "Settings" "Settings" true) (List.mem_of_getElem? (i := 12) rfl))
  · exact leBB_ok (hx (leBB "StoreError") (List.mem_of_getElem? (i := 13) rfl))
  · exact leCB_ok (hx (leCB "InvalidSettings") (List.mem_of_getElem? (i := 14) rfl))
  · exact of_decide_eq_true (hx (leIB "InvalidSettings") (List.mem_of_getElem? (i := 15) rfl))
  · exact of_decide_eq_true (hx (leTB "InvalidSettings") (List.mem_of_getElem? (i := 16) rfl))
  · exact isCB_ok (hx (isCB "InvalidSettings") (List.mem_of_getElem? (i := 17) rfl))
  · exact of_decide_eq_true (hx (leNB "InvalidSettings" "part") (List.mem_of_getElem? (i := 18) rfl))
  · exact of_decide_eq_true (hx (leXB "InvalidSettings" "InvalidNumber" false) (List.mem_of_getElem? (i := 19) rfl))
  · exact leCB_ok (hx (leCB "InvalidRow") (List.mem_of_getElem? (i := 20) rfl))
  · exact of_decide_eq_true (hx (leIB "InvalidRow") (List.mem_of_getElem? (i := 21) rfl))
  · exact of_decide_eq_true (hx (leTB "InvalidRow") (List.mem_of_getElem? (i := 22) rfl))
  · exact isCB_ok (hx (isCB "InvalidRow") (List.mem_of_getElem? (i := 23) rfl))
  · exact of_decide_eq_true (hx (leNB "InvalidRow" "row") (List.mem_of_getElem? (i := 24) rfl))
  · exact of_decide_eq_true (hx (leXB "InvalidRow" "InvalidNumber" false) (List.mem_of_getElem? (i := 25) rfl))
  · exact leCB_ok (hx (leCB "InvalidNumber") (List.mem_of_getElem? (i := 26) rfl))
  · exact of_decide_eq_true (hx (leIB "InvalidNumber") (List.mem_of_getElem? (i := 27) rfl))
  · exact of_decide_eq_true (hx (leTB "InvalidNumber") (List.mem_of_getElem? (i := 28) rfl))
  · exact isCB_ok (hx (isCB "InvalidNumber") (List.mem_of_getElem? (i := 29) rfl))
  · exact of_decide_eq_true (hx (leNB "InvalidNumber" "number") (List.mem_of_getElem? (i := 30) rfl))
  · exact of_decide_eq_true (hx (leXB "InvalidNumber" "InvalidNumber" true) (List.mem_of_getElem? (i := 31) rfl))
  · exact smB_ok (hx (smB) (List.mem_of_getElem? (i := 32) rfl))
abbrev RowK : PySem.W.OpenRow := PySem.W.OpenLaw.row PySem.Challenge.rw_keeprows_k38_places_of_records
def tfl : List He.Defn := [("law", none)]
structure Txt (K : PySem.W.Frag) (mg : Str → Option Value) (base : Heap) (D : Nat → FuncData) : Prop extends Txt0 K mg D where
  tbs : ∀ p ∈ tfl.map (He.cT K), TabB base mg p.1 p.2
def lamT (K : PySem.W.Frag) : List (Addr × Str) := [((He.cT K ("law", none)).2, ("law" : Str) ++ ".<locals>." ++ "<lambda>")]
theorem tb_law {K : PySem.W.Frag} {mg : Str → Option Value} {base : Heap} {D : Nat → FuncData} (T : Txt K mg base D) : TabB base mg (He.cT K ("law", none)).1 (He.cT K ("law", none)).2 := T.tbs _ (List.mem_map_of_mem (List.mem_of_getElem? (i := 0) rfl))
theorem lm_law {K : PySem.W.Frag} : ((He.cT K ("law", none)).2, ("law" : Str) ++ ".<locals>." ++ "<lambda>") ∈ lamT K := List.mem_of_getElem? (i := 0) rfl
theorem lu_law {K : PySem.W.Frag} {mg : Str → Option Value} {base : Heap} {D : Nat → FuncData} (T : Txt K mg base D) : ∀ p ∈ lamT K, p.1 = (He.cT K ("law", none)).2 → p.2 = ("law" : Str) ++ ".<locals>." ++ "<lambda>" := fun p hp e => by
  unfold lamT at hp
  simp only [List.mem_cons, List.mem_nil_iff, or_false] at hp
  rcases hp with rfl
  · rfl
theorem tabs_start {K : PySem.W.Frag} {H : Hp} (h : ∀ p ∈ tfl.map (He.cT K), H p.2 = some (.tbl #[])) : Tabs (lamT K) H := fun p hp => by
  unfold lamT at hp
  simp only [List.mem_cons, List.mem_nil_iff, or_false] at hp
  rcases hp with rfl
  · exact TabS.nil (h _ (List.mem_map_of_mem (f := He.cT K) (List.mem_of_getElem? (l := tfl) (i := 0) (a := (("law", none) : He.Defn)) rfl)))
abbrev hk : PySem.W.Hook := hookL 6 fal fnl exB tfl
def ob (s : PySem.W.SharedT) : He.AlD := obsL 6 fal fnl exB tfl (HandSHeadRun.getT s)
theorem ob_eq (s : PySem.W.SharedT) : ob s = hk.obs s.abs := obsL_eq (HandSHeadRun.getT_eq s)
def looseN : List Str := (["_wall", "StoreError", "InvalidSettings", "InvalidRow", "InvalidNumber", "MOST_ROW", "MOST_LENGTHS", "MOST_SIZE", "MOST_FANOUT", "MOST_RECORDS", "MOST_EVERY", "MOST_KEEP", "is_integer", "is_between", "check_part", "Settings", "check_settings", "check_moment", "check_row", "check_count", "pages_for", "record_place", "log_total", "log_takes", "take_row"] : List Str) ++ (["_law_digits", "_law_parts", "_law_settings", "_law_number", "_law_counted", "_law_right"] : List Str)
theorem run (w : World) : HandSHeadRun.RunEq RowK (PySem.W.view RowK.prog [35]) hk ob 4000 looseN w := by
  intro os
  kernel_rfl
end KR
local macro_rules | `(tactic| walk_at "cls") => `(tactic| first
  | exact KR.Txt0.c_Settings (KR.Txt.toTxt0 (by assumption)))
local macro_rules | `(tactic| walk_at "noat") => `(tactic| first
  | exact KR.Txt0.a_Settings_lengths (KR.Txt.toTxt0 (by assumption))
  | exact KR.Txt0.a_Settings_size (KR.Txt.toTxt0 (by assumption))
  | exact KR.Txt0.a_Settings_fanout (KR.Txt.toTxt0 (by assumption))
  | exact KR.Txt0.a_Settings_records (KR.Txt.toTxt0 (by assumption))
  | exact KR.Txt0.a_Settings_every (KR.Txt.toTxt0 (by assumption))
  | exact KR.Txt0.a_Settings_keep (KR.Txt.toTxt0 (by assumption)))
local macro_rules | `(tactic| walk_at "lk") => `(tactic| first
  | assumption
  | with_reducible exact KR.lk_Settings_6_5
  | with_reducible exact KR.lk_Settings_6_4
  | with_reducible exact KR.lk_Settings_6_3
  | with_reducible exact KR.lk_Settings_6_2
  | with_reducible exact KR.lk_Settings_6_1
  | with_reducible exact KR.lk_Settings_6_0
  | with_reducible exact KR.lk_Settings_5_4
  | with_reducible exact KR.lk_Settings_5_3
  | with_reducible exact KR.lk_Settings_5_2
  | with_reducible exact KR.lk_Settings_5_1
  | with_reducible exact KR.lk_Settings_5_0
  | with_reducible exact KR.lk_Settings_4_3
  | with_reducible exact KR.lk_Settings_4_2
  | with_reducible exact KR.lk_Settings_4_1
  | with_reducible exact KR.lk_Settings_4_0
  | with_reducible exact KR.lk_Settings_3_2
  | with_reducible exact KR.lk_Settings_3_1
  | with_reducible exact KR.lk_Settings_3_0
  | with_reducible exact KR.lk_Settings_2_1
  | with_reducible exact KR.lk_Settings_2_0
  | with_reducible exact KR.lk_Settings_1_0
  | kernel_rfl)
local macro_rules | `(tactic| walk_at "dg") => `(tactic| first
  | exact KR.pg_lengths (by walk_at "hp")
  | exact KR.pg_size (by walk_at "hp")
  | exact KR.pg_fanout (by walk_at "hp")
  | exact KR.pg_records (by walk_at "hp")
  | exact KR.pg_every (by walk_at "hp")
  | exact KR.pg_keep (by walk_at "hp"))
local macro_rules | `(tactic| walk_at "sd") => `(tactic| first
  | omega
  | decide
  | exact KR.szl (Nat.le_of_ble_eq_true rfl)
  | ((repeat' split) <;> omega)
  | exact ⟨Nat.le_of_ble_eq_true rfl, Nat.le_of_ble_eq_true rfl⟩
  | (refine KR.cdw ?_ ?_ <;> omega)
  | (refine KR.cdv ?_ ?_ <;> omega)
  | (refine KR.cml ?_ ?_ <;> omega)
  | (refine KR.cmr ?_ ?_ <;> omega))
local macro_rules | `(tactic| walk_at "hp") => `(tactic| first
  | assumption
  | exact KR.hp_same (by assumption) (by assumption)
  | exact KR.hp_sb (by assumption) (by assumption) (by assumption))
local macro_rules | `(tactic| walk_at "s1") => `(tactic| first
  | refine ⟨_, rfl, ?_⟩
  | refine L2.iteT ?_
  | refine L2.iteF ?_
  | refine ⟨_, _, rfl, rfl, ?_⟩
  | refine Or.inl ⟨_, rfl, ?_⟩
  | (refine' ⟨_, _, _, _, rfl, rfl, L2.SqL.of ?h1, ?h2, ?_⟩; (case h1 => walk_at "hp"); (case h2 => rfl))
  | (refine' ⟨_, _, _, _, rfl, rfl, L2.SqT.of ?h1, ?h2, ?_⟩; (case h1 => walk_at "hp"); (case h2 => rfl))
  | refine ⟨rfl, ?_⟩
  | refine ⟨_, _, rfl, ?_⟩
  | refine ⟨_, _, _, rfl, ?_⟩
  | (refine' ⟨_, _, rfl, L2.SqT.of ?h1, ?h2, ?_⟩; (case h1 => walk_at "hp"); (case h2 => rfl))
  | (refine' ⟨_, _, rfl, Or.inl (L2.SqL.of ?h1), ?_⟩; (case h1 => walk_at "hp"))
  | (refine' ⟨_, _, rfl, Or.inr (L2.SqT.of ?h1), ?_⟩; (case h1 => walk_at "hp"))
  | (refine' ⟨_, _, _, _, _, rfl, ?h1, ?h2, ?h3, ?h4, ?_⟩; (case h1 => walk_at "hp"); (case h2 => walk_at "cls"); (case h3 => walk_at "noat"); (case h4 => walk_at "lk"))
  | (refine' ⟨_, _, _, _, rfl, ?h1, ?h2, ?h3, ?h4, ?_⟩; (case h1 => walk_at "hp"); (case h2 => walk_at "cls"); (case h3 => walk_at "noat"); (case h4 => exact KR.lt1000 rfl))
  | (refine' ⟨_, _, _, rfl, ?h1, ?h2, ?_⟩; (case h1 => walk_at "hp"); (case h2 => walk_at "lk"))
  | (refine' ⟨⟨_, L2.SqL.of ?h1⟩, ?_⟩; (case h1 => walk_at "hp"))
  | (refine' ⟨⟨_, L2.SqT.of ?h1⟩, ?_⟩; (case h1 => walk_at "hp"))
  | (refine' ⟨_, _, rfl, ?h1, ?_⟩; (case h1 => walk_at "dg"))
  | (refine And.intro ?h1 ?_; (case h1 => walk_at "sd")))
local macro_rules | `(tactic| walk_at "rd") => `(tactic| repeat walk_at "s1")
namespace KR
open PySem PySem.Spec PyProof.Rows L2 LamX
section
variable {P : Program} {w : World} {K : PySem.W.Frag} {mg : Str → Option Value} {base : Heap} {D : Nat → FuncData}
/-- drawn settings -/
structure Prt where
  lens : List Int
  size : Int
  fan : Int
  rec_ : Int
  every : Int
  keep : Int
structure Prt.Ok (p : Prt) : Prop where
  l0 : 0 < p.lens.length
  l1 : p.lens.length ≤ 6
  le : ∀ x ∈ p.lens, 1 ≤ x ∧ x ≤ p.size
  s0 : 1 ≤ p.size
  s1 : p.size ≤ 64
  f : 2 ≤ p.fan ∧ p.fan ≤ 8
  r : 1 ≤ p.rec_ ∧ p.rec_ ≤ 16
  e : 1 ≤ p.every ∧ p.every ≤ 40
  k : 1 ≤ p.keep ∧ p.keep ≤ 100
def dgL (f : Nat → Int) : List V := [.int (f 0), .int (f 1), .int (f 2), .int (f 3), .int (f 4), .int (f 5), .int (f 6), .int (f 7), .int (f 8), .int (f 9), .int (f 10), .int (f 11), .int (f 12), .int (f 13), .int (f 14), .int (f 15), .int (f 16), .int (f 17), .int (f 18), .int (f 19), .int (f 20), .int (f 21), .int (f 22), .int (f 23), .int (f 24), .int (f 25), .int (f 26), .int (f 27), .int (f 28), .int (f 29), .int (f 30), .int (f 31), .int (f 32), .int (f 33), .int (f 34), .int (f 35), .int (f 36), .int (f 37), .int (f 38), .int (f 39)]
theorem dgL_eq (f : Nat → Int) : dgL f = (List.range 40).map fun j => V.int (f j) := rfl
def DgOk (f : Nat → Int) : Prop := ∀ j, 0 ≤ f j ∧ f j < 1009
theorem dgL_of {xs : List Int} (h : xs.length = 40) : dgL (fun j => xs.getD j 0) = xs.map V.int := by
  rw [dgL_eq]
  apply List.ext_getElem
  · rw [List.length_map, List.length_range, List.length_map, h]
  · intro i h1 h2
    rw [List.getElem_map, List.getElem_map, List.getElem_range]
    have : i < xs.length := by simpa using h2
    simp [List.getD_eq_getElem?_getD, this]
theorem dg_at {f : Nat → Int} {j : Nat} {i : Int} (hi : i = (j : Int)) (h : j < 40) : atI (dgL f) i = some (.int (f j)) := by
  refine atI_int hi ?_
  rw [dgL_eq, List.getElem?_map, List.getElem?_range h]
  rfl
@[irreducible] def sp_law_digits : Sp := fun vs H Q _ => ∃ c : Int, vs = [.int c, .int 40] ∧ ∀ q f H', H q = none → Same H H' → DgOk f → H' q = some (.lst (dgL f)) → Q (.ref q) H'
theorem use_digits {c : Int} {H : Hp} {Q : VK} {E : XK} (k : ∀ q f H', H q = none → Same H H' → DgOk f → H' q = some (.lst (dgL f)) → Q (.ref q) H') : sp_law_digits [.int c, .int 40] H Q E := by unfold sp_law_digits; exact ⟨c, rfl, k⟩
theorem b_law_digits {K : PySem.W.Frag} {fd : FuncData} (F : F_law_digits K fd) : Binds K fd P_law_digits [] := FunD.bindsN F fun _ _ _ _ _ _ us hl => match us, hl with | [_, _], _ => rfl
theorem ok_law_digits (T : Txt K mg base D) : FnOk P w K mg base CX0 1 (He.fAd K ("_law_digits", none)) (D D_law_digits) P_law_digits sp_law_digits := by
  refine T.d_law_digits.ok sc_law_digits (fun vs H Q E h => ?_) (fun cdv A outer s H vs Q E hr h => ?_)
  · unfold sp_law_digits at h
    first | (obtain ⟨rfl, _⟩ := h; rfl) | (obtain ⟨_, rfl, _⟩ := h; rfl) | (obtain ⟨_, _, rfl, _⟩ := h; rfl) | (obtain ⟨_, _, _, rfl, _⟩ := h; rfl) | (obtain ⟨_, _, _, _, rfl, _⟩ := h; rfl) | (obtain ⟨_, _, _, _, _, rfl, _⟩ := h; rfl) | (obtain ⟨_, _, _, _, _, _, rfl, _⟩ := h; rfl) | (obtain ⟨_, _, _, _, _, _, _, rfl, _⟩ := h; rfl) | (obtain ⟨_, _, _, _, _, _, _, _, rfl, _⟩ := h; rfl) | (obtain ⟨_, _, _, _, _, _, _, _, _, rfl, _⟩ := h; rfl) | (obtain ⟨_, _, _, _, _, _, _, _, _, _, rfl, _⟩ := h; rfl) | (obtain ⟨_, _, _, _, _, _, _, _, _, _, _, rfl, _⟩ := h; rfl)
  · refine ⟨_, PSs.nox (pss_cons (ps_set (i := 2) sc_law_digits.nd rfl (Or.inl rfl) (pe_lst pa_nil))
      (pss_cons (ps_set (i := 3) sc_law_digits.nd rfl (Or.inl rfl) pe_int)
      (Evl.pss_cut (ps_if (pt_cmpR op_ge (pv 0) (pe_powc (c := 1000000000000000000) (by decide)) (nomark _)) (pss_one (ps_set (i := 3) sc_law_digits.nd rfl (Or.inl rfl) (pv 0))) pss_nil)
      (pss_cons (ps_set (i := 4) sc_law_digits.nd rfl (Or.inl rfl) (pe_op op_mod (pe_callTy call_int1 (by rfl) T.n_int (by decide +kernel) (pa_cons (pv 0) pa_nil)) pe_int))
      (pss_cons (ps_for PassesOwn.never rfl (pi_range1 (by rfl) T.n_range (pa_cons (pv 1) pa_nil)) (pg_name (i := 5) sc_law_digits.nd rfl (Or.inl rfl)) (pss_cons (ps_set (i := 4) sc_law_digits.nd rfl (Or.inl rfl) (pe_op op_mod (pe_callTy call_int1 (by rfl) T.n_int (by decide +kernel) (pa_cons (pe_op op_add (pe_op op_add (pe_op op_mul (pv 4) pe_int) (pe_op op_mul pe_int (pv 5))) pe_int) pa_nil)) pe_int))
      (pss_cons (ps_set (i := 4) sc_law_digits.nd rfl (Or.inl rfl) (pe_op op_mod (pe_callTy call_int1 (by rfl) T.n_int (by decide +kernel) (pa_cons (pe_op op_mul (pv 4) (pe_op op_add (pe_op op_fdivW (pv 4) pe_int) pe_int)) pa_nil)) pe_int))
      (pss_one (ps_if (pt_cmpR op_gt (pv 3) pe_int (nomark _)) (pss_cons (ps_expr (pe_bm PySem.F.plainAttrs_list PySem.F.slot_list_append PySem.F.type_list_append mt_append (pv 2) (pa_cons (pe_op op_mod (pe_callTy call_int1 (by rfl) T.n_int (by decide +kernel) (pa_cons (pv 3) pa_nil)) pe_int) pa_nil)))
      (pss_one (ps_set (i := 3) sc_law_digits.nd rfl (Or.inl rfl) (pe_op op_fdivW (pv 3) pe_int)))) (pss_one (ps_expr (pe_bm PySem.F.plainAttrs_list PySem.F.slot_list_append PySem.F.type_list_append mt_append (pv 2) (pa_cons (pe_op op_mod (pe_callTy call_int1 (by rfl) T.n_int (by decide +kernel) (pa_cons (pe_op op_fdivW (pv 4) pe_int) pa_nil)) pe_int) pa_nil)))))))))
      (pss_one (ps_ret (pv 2)))))))), ?_⟩
    unfold sp_law_digits at h
    obtain ⟨c, rfl, k⟩ := h
    walk_at "rd"
    intro q n0
    generalize eG0 : upd _ q _ = G0
    obtain ⟨g0, c0⟩ := gen_new n0 eG0
    clear eG0
    walk_at "rd"
    refine ⟨fun σ' H' => H' = G0 ∧ ∃ z : Int, σ' = [some (.int c), some (.int 40), some (.ref q), some (.int z), none, none], ?_, ?_⟩
    · walk_at "rd"
      refine ite2 (fun _ => ?_) (fun _ => ?_)
      · walk_at "rd"
        exact ⟨_, rfl⟩
      · walk_at "rd"
        exact ⟨_, rfl⟩
    rintro σ H' ⟨rfl, z, rfl⟩
    walk_at "rd"
    refine for_range (lo := 0) (n := 40) (fun i σ G => ∃ (xs : List Int) (z n : Int) (v : Option V), σ = [some (.int c), some (.int 40), some (.ref q), some (.int z), some (.int n), v] ∧ (0 ≤ n ∧ n < 2147483647) ∧ xs.length = i ∧ (∀ x ∈ xs, 0 ≤ x ∧ x < 1009) ∧ G q = some (.lst (xs.map V.int)) ∧ SX [q] H' G)
      ⟨[], _, _, _, rfl, ⟨Int.emod_nonneg _ (by decide), Int.emod_lt_of_pos _ (by decide)⟩, rfl, fun x hx => (nomatch hx), c0, SX.refl⟩ ?_ ?_
    · rintro i σ G hi ⟨xs, z, n, v, rfl, ⟨m0, m1⟩, hl, hb, hq, f⟩
      walk_at "rd"
      have b0 := Int.emod_nonneg (n * 48271 + 30103 * (0 + (i : Int)) + 11) (show (2147483647 : Int) ≠ 0 by decide)
      have b1 := Int.emod_lt_of_pos (n * 48271 + 30103 * (0 + (i : Int)) + 11) (show (0 : Int) < 2147483647 by decide)
      generalize (n * 48271 + 30103 * (0 + (i : Int)) + 11) % 2147483647 = y at b0 b1 ⊢
      walk_at "rd"
      have e0 := Int.emod_nonneg (y * (y / 1009 + 69621)) (show (2147483629 : Int) ≠ 0 by decide)
      have e1 := Int.emod_lt_of_pos (y * (y / 1009 + 69621)) (show (0 : Int) < 2147483629 by decide)
      have app : ∀ w : Int, 0 ≤ w → w < 1009 → (∀ x ∈ xs ++ [w], 0 ≤ x ∧ x < 1009) := fun w w0 w1 x hx => by
        rcases List.mem_append.mp hx with h | h
        · exact hb x h
        · rw [List.mem_singleton.mp h]; exact ⟨w0, w1⟩
      refine ite2 (fun _ => ?_) (fun _ => ?_)
      · walk_at "rd"
        refine ⟨.inl ⟨rfl, _, SqL.of hq⟩, ?_⟩
        walk_at "rd"
        refine ⟨_, _, _, rfl, rfl, hq, szlt (by rw [List.length_map]; omega), ?_⟩
        walk_at "rd"
        refine ⟨xs ++ [z % 1009], _, _, _, rfl, ⟨e0, by omega⟩, by rw [List.length_append, hl]; rfl, app _ (Int.emod_nonneg _ (by decide)) (Int.emod_lt_of_pos _ (by decide)), by rw [upd_same, List.map_append]; rfl, f.upd (by simp)⟩
      · walk_at "rd"
        refine ⟨.inl ⟨rfl, _, SqL.of hq⟩, ?_⟩
        walk_at "rd"
        refine ⟨_, _, _, rfl, rfl, hq, szlt (by rw [List.length_map]; omega), ?_⟩
        refine ⟨xs ++ [y * (y / 1009 + 69621) % 2147483629 / 7 % 1009], _, _, _, rfl, ⟨e0, by omega⟩, by rw [List.length_append, hl]; rfl, app _ (Int.emod_nonneg _ (by decide)) (Int.emod_lt_of_pos _ (by decide)), by rw [upd_same, List.map_append]; rfl, f.upd (by simp)⟩
    · rintro σ G ⟨xs, z, n, v, rfl, _, hl, hb, hq, f⟩
      walk_at "rd"
      refine k q (fun j => xs.getD j 0) G n0 (fun b o ho => f _ _ (by simp [ne_of_none ho n0]) (g0 _ _ ho)) (fun j => ?_) (by rw [dgL_of hl]; exact hq)
      by_cases hj : j < xs.length
      · show 0 ≤ xs.getD j 0 ∧ xs.getD j 0 < 1009
        rw [List.getD_eq_getElem?_getD, List.getElem?_eq_getElem hj]
        exact hb _ (List.getElem_mem hj)
      · show 0 ≤ xs.getD j 0 ∧ xs.getD j 0 < 1009
        rw [List.getD_eq_getElem?_getD, List.getElem?_eq_none (by omega)]
        exact ⟨by decide, by decide⟩

/-- drawn settings as a dict -/
def pdL (l : Addr) (p : Prt) : List (Key × V) := [(.inr "lengths", .ref l), (.inr "size", .int p.size), (.inr "fanout", .int p.fan), (.inr "records", .int p.rec_), (.inr "every", .int p.every), (.inr "keep", .int p.keep)]
def PdAt (H : Hp) (a : Addr) (p : Prt) : Prop := ∃ l, H a = some (.dK (pdL l p)) ∧ H l = some (.lst (p.lens.map V.int))
theorem PdAt.same {H H' : Hp} {a : Addr} {p : Prt} (h : PdAt H a p) (s : Same H H') : PdAt H' a p := let ⟨l, h1, h2⟩ := h; ⟨l, s _ _ h1, s _ _ h2⟩
theorem pg_lengths {H : Hp} {a l : Addr} {p : Prt} (h : H a = some (.dK (pdL l p))) : DGet H a (.str "lengths") (some (.ref l)) := (show valV (pdL l p) (Sum.inr "lengths") = some (.ref l) from by kernel_rfl) ▸ DGet.k (k := Sum.inr "lengths") h
theorem pg_size {H : Hp} {a l : Addr} {p : Prt} (h : H a = some (.dK (pdL l p))) : DGet H a (.str "size") (some (.int p.size)) := (show valV (pdL l p) (Sum.inr "size") = some (.int p.size) from by kernel_rfl) ▸ DGet.k (k := Sum.inr "size") h
theorem pg_fanout {H : Hp} {a l : Addr} {p : Prt} (h : H a = some (.dK (pdL l p))) : DGet H a (.str "fanout") (some (.int p.fan)) := (show valV (pdL l p) (Sum.inr "fanout") = some (.int p.fan) from by kernel_rfl) ▸ DGet.k (k := Sum.inr "fanout") h
theorem pg_records {H : Hp} {a l : Addr} {p : Prt} (h : H a = some (.dK (pdL l p))) : DGet H a (.str "records") (some (.int p.rec_)) := (show valV (pdL l p) (Sum.inr "records") = some (.int p.rec_) from by kernel_rfl) ▸ DGet.k (k := Sum.inr "records") h
theorem pg_every {H : Hp} {a l : Addr} {p : Prt} (h : H a = some (.dK (pdL l p))) : DGet H a (.str "every") (some (.int p.every)) := (show valV (pdL l p) (Sum.inr "every") = some (.int p.every) from by kernel_rfl) ▸ DGet.k (k := Sum.inr "every") h
theorem pg_keep {H : Hp} {a l : Addr} {p : Prt} (h : H a = some (.dK (pdL l p))) : DGet H a (.str "keep") (some (.int p.keep)) := (show valV (pdL l p) (Sum.inr "keep") = some (.int p.keep) from by kernel_rfl) ▸ DGet.k (k := Sum.inr "keep") h
@[irreducible] def sp_law_parts : Sp := fun vs H Q _ => ∃ (d : Addr) (f : Nat → Int), vs = [.ref d] ∧ DgOk f ∧ H d = some (.lst (dgL f)) ∧ ∀ a p H', H a = none → Same H H' → p.Ok → p.size ≤ 6 → PdAt H' a p → Q (.ref a) H'
theorem use_pd {d : Addr} {f : Nat → Int} {H : Hp} {Q : VK} {E : XK} (hf : DgOk f) (h : H d = some (.lst (dgL f))) (k : ∀ a p H', H a = none → Same H H' → p.Ok → p.size ≤ 6 → PdAt H' a p → Q (.ref a) H') : sp_law_parts [.ref d] H Q E := by
  unfold sp_law_parts; exact ⟨d, f, rfl, hf, h, k⟩
theorem put_k {H : Hp} {a : Addr} {kvs kvs2 : List (Key × V)} {x : Str} {v : V} (e : H a = some (.dK kvs)) (hl : kvs.length ≤ 100) (h2 : putK kvs (Sum.inr x) v = kvs2) : DPut H a (.str x) v (upd H a (.dK kvs2)) := by
  subst h2; exact DPut.k (k := Sum.inr x) e (szlt (by omega))
theorem pd_put1 {a b c : V} : putK ([(.inr "lengths", a), (.inr "size", b)] : List (Key × V)) (Sum.inr "fanout") c = [(.inr "lengths", a), (.inr "size", b), (.inr "fanout", c)] := by kernel_rfl
theorem pd_put2 {a b c d : V} : putK ([(.inr "lengths", a), (.inr "size", b), (.inr "fanout", c)] : List (Key × V)) (Sum.inr "records") d = [(.inr "lengths", a), (.inr "size", b), (.inr "fanout", c), (.inr "records", d)] := by kernel_rfl
theorem pd_put3 {a b c d e : V} : putK ([(.inr "lengths", a), (.inr "size", b), (.inr "fanout", c), (.inr "records", d)] : List (Key × V)) (Sum.inr "every") e = [(.inr "lengths", a), (.inr "size", b), (.inr "fanout", c), (.inr "records", d), (.inr "every", e)] := by kernel_rfl
theorem pd_put4 {a b c d e g : V} : putK ([(.inr "lengths", a), (.inr "size", b), (.inr "fanout", c), (.inr "records", d), (.inr "every", e)] : List (Key × V)) (Sum.inr "keep") g = [(.inr "lengths", a), (.inr "size", b), (.inr "fanout", c), (.inr "records", d), (.inr "every", e), (.inr "keep", g)] := by kernel_rfl
theorem pd_merge {a b : V} : mergeK [] ([(.inr "lengths", a), (.inr "size", b)] : List (Key × V)) = [(.inr "lengths", a), (.inr "size", b)] := by kernel_rfl
/-- one of two written moduli -/
theorem two_at {a b r : Int} (h0 : 0 ≤ r) (h1 : r < 2) : ∃ m, (m = a ∨ m = b) ∧ atI ([.int a, .int b] : List V) r = some (V.int m) := by
  obtain rfl | rfl : r = 0 ∨ r = 1 := by omega
  · exact ⟨a, .inl rfl, rfl⟩
  · exact ⟨b, .inr rfl, rfl⟩
theorem mod_bd {x m k : Int} (h : 0 < m) (hk : m ≤ k) : 0 ≤ x % m ∧ x % m < k := ⟨Int.emod_nonneg _ (by omega), by have := Int.emod_lt_of_pos x h; omega⟩
local macro_rules | `(tactic| walk_at "dg") => `(tactic| first
  | exact KR.pg_lengths (by walk_at "hp")
  | exact KR.pg_size (by walk_at "hp")
  | exact KR.pg_fanout (by walk_at "hp")
  | exact KR.pg_records (by walk_at "hp")
  | exact KR.pg_every (by walk_at "hp")
  | exact KR.pg_keep (by walk_at "hp"))
theorem pd_merge3 {a b c : V} : mergeK [] ([(.inr "lengths", a), (.inr "size", b), (.inr "fanout", c)] : List (Key × V)) = [(.inr "lengths", a), (.inr "size", b), (.inr "fanout", c)] := by kernel_rfl
theorem three_at {a b c r : Int} (h0 : 0 ≤ r) (h1 : r < 3) : ∃ m, (m = a ∨ m = b ∨ m = c) ∧ atI ([.int a, .int b, .int c] : List V) r = some (V.int m) := by
  obtain rfl | rfl | rfl : r = 0 ∨ r = 1 ∨ r = 2 := by omega
  · exact ⟨a, .inl rfl, rfl⟩
  · exact ⟨b, .inr (.inl rfl), rfl⟩
  · exact ⟨c, .inr (.inr rfl), rfl⟩
theorem b_law_parts {K : PySem.W.Frag} {fd : FuncData} (F : F_law_parts K fd) : Binds K fd P_law_parts [] := FunD.bindsN F fun _ _ _ _ _ _ us hl => match us, hl with | [_], _ => rfl
theorem ok_law_parts (T : Txt K mg base D) : FnOk P w K mg base CX0 1 (He.fAd K ("_law_parts", none)) (D D_law_parts) P_law_parts sp_law_parts := by
  refine T.d_law_parts.ok sc_law_parts (fun vs H Q E h => ?_) (fun cdv A outer s H vs Q E hr h => ?_)
  · unfold sp_law_parts at h
    first | (obtain ⟨rfl, _⟩ := h; rfl) | (obtain ⟨_, rfl, _⟩ := h; rfl) | (obtain ⟨_, _, rfl, _⟩ := h; rfl) | (obtain ⟨_, _, _, rfl, _⟩ := h; rfl) | (obtain ⟨_, _, _, _, rfl, _⟩ := h; rfl) | (obtain ⟨_, _, _, _, _, rfl, _⟩ := h; rfl) | (obtain ⟨_, _, _, _, _, _, rfl, _⟩ := h; rfl) | (obtain ⟨_, _, _, _, _, _, _, rfl, _⟩ := h; rfl) | (obtain ⟨_, _, _, _, _, _, _, _, rfl, _⟩ := h; rfl) | (obtain ⟨_, _, _, _, _, _, _, _, _, rfl, _⟩ := h; rfl) | (obtain ⟨_, _, _, _, _, _, _, _, _, _, rfl, _⟩ := h; rfl) | (obtain ⟨_, _, _, _, _, _, _, _, _, _, _, rfl, _⟩ := h; rfl)
  · refine ⟨_, PSs.nox (pss_cons (ps_set (i := 1) sc_law_parts.nd rfl (Or.inr rfl) (pe_op op_add pe_int (pe_op op_mod (pe_callTy call_int1 (by rfl) T.n_int (by decide +kernel) (pa_cons (pe_ix (ix_listK (K := K)) (pv 0) pe_int (fun _ _ => rfl)) pa_nil)) pe_int)))
      (pss_cons (ps_setLc (i := 2) (own := [("k", 4)]) rfl sc_law_parts.nd rfl rfl (sw_true rfl rfl rfl (by decide +kernel)) (pi_range1 (by rfl) T.n_range (pa_cons (pe_op op_add pe_int (pe_op op_mod (pe_callTy call_int1 (by rfl) T.n_int (by decide +kernel) (pa_cons (pe_ix (ix_listK (K := K)) (pv 0) pe_int (fun _ _ => rfl)) pa_nil)) pe_int)) pa_nil)) (blkOk_by (N := N_law_parts) (sc := defScope s_law_parts) (by decide +kernel)) (fun _ _ _ _ _ => (pg_name (i := 4) sc_law_parts.nd rfl (Or.inl rfl))) (fun _ _ _ _ _ => pts_nil) (fun _ _ _ _ _ => (pe_op op_add pe_int (pe_op op_mod (pe_callTy call_int1 (by rfl) T.n_int (by decide +kernel) (pa_cons (pe_ix (ix_listK (K := K)) (pv 0) (pe_op op_add pe_int (pv 4)) (fun _ _ => rfl)) pa_nil)) (pv 1)))))
      (pss_cons (ps_set (i := 3) sc_law_parts.nd rfl (Or.inl rfl) (pe_disp (pps_cons pe_str (pv 2) (pps_cons pe_str (pv 1) (pps_cons pe_str (pe_op op_add pe_int (pe_op op_mod (pe_callTy call_int1 (by rfl) T.n_int (by decide +kernel) (pa_cons (pe_ix (ix_listK (K := K)) (pv 0) pe_int (fun _ _ => rfl)) pa_nil)) pe_int)) pps_nil))) (by rfl) (by rfl) (fun z => by cases z) (by decide)))
      (pss_cons (ps_dput (hu_of hr) (pv 3) pe_str (pe_op op_add pe_int (pe_op op_mod (pe_callTy call_int1 (by rfl) T.n_int (by decide +kernel) (pa_cons (pe_ix (ix_listK (K := K)) (pv 0) pe_int (fun _ _ => rfl)) pa_nil)) (pe_ix (ix_listK (K := K)) (pe_lst (pa_cons pe_int (pa_cons pe_int (pa_cons pe_int pa_nil)))) (pe_op op_mod (pe_callTy call_int1 (by rfl) T.n_int (by decide +kernel) (pa_cons (pe_ix (ix_listK (K := K)) (pv 0) pe_int (fun _ _ => rfl)) pa_nil)) pe_int) (fun _ _ => rfl)))) rfl)
      (pss_cons (ps_dput (hu_of hr) (pv 3) pe_str (pe_op op_add pe_int (pe_op op_mod (pe_callTy call_int1 (by rfl) T.n_int (by decide +kernel) (pa_cons (pe_ix (ix_listK (K := K)) (pv 0) pe_int (fun _ _ => rfl)) pa_nil)) (pe_ix (ix_listK (K := K)) (pe_lst (pa_cons pe_int (pa_cons pe_int pa_nil))) (pe_op op_mod (pe_callTy call_int1 (by rfl) T.n_int (by decide +kernel) (pa_cons (pe_ix (ix_listK (K := K)) (pv 0) pe_int (fun _ _ => rfl)) pa_nil)) pe_int) (fun _ _ => rfl)))) rfl)
      (pss_cons (ps_dput (hu_of hr) (pv 3) pe_str (pe_op op_add pe_int (pe_op op_mod (pe_callTy call_int1 (by rfl) T.n_int (by decide +kernel) (pa_cons (pe_ix (ix_listK (K := K)) (pv 0) pe_int (fun _ _ => rfl)) pa_nil)) pe_int)) rfl)
      (pss_one (ps_ret (pv 3))))))))), ?_⟩
    unfold sp_law_parts at h
    obtain ⟨d, f, rfl, hf, hd, k⟩ := h
    have f0 := mod_bd (x := f 0) (show (0 : Int) < 6 by decide) (Int.le_refl 6)
    have f4 := mod_bd (x := f 4) (show (0 : Int) < 6 by decide) (Int.le_refl 6)
    walk_at "rd"
    intro D n1
    have ndD : d ≠ D := ne_of_none hd n1
    refine lc_range (lo := 0) (n := Int.toNat _) (fun i G => ∃ xs : List Int, xs.length = i ∧ (∀ x ∈ xs, 1 ≤ x ∧ x ≤ 1 + f 0 % 6) ∧ G D = some (.lst (xs.map V.int)) ∧ SX [D] H G) ⟨[], rfl, fun x hx => (nomatch hx), upd_same, SX.refl.mut n1⟩ ?_ ?_
    · rintro i G hi ⟨xs, hl, hb, hD, fx⟩
      refine ⟨rfl, ?_⟩
      have hdG := fx _ _ (by simp [ndD]) hd
      have hi3 : i < 6 := by omega
      walk_at "rd"
      refine ⟨_, _, _, _, rfl, rfl, SqL.of hdG, dg_at (j := 1 + i) (by omega) (by omega), ?_⟩
      walk_at "rd"
      have b := mod_bd (x := f (1 + i)) (show 0 < 1 + f 0 % 6 by omega) (Int.le_refl _)
      refine ⟨_, hD, szlt (by rw [List.length_map]; omega), xs ++ [1 + f (1 + i) % (1 + f 0 % 6)], by rw [List.length_append, hl]; rfl, fun x hx => ?_, by rw [upd_same, List.map_append]; rfl, fx.upd (by simp)⟩
      rcases List.mem_append.mp hx with h | h
      · exact hb x h
      · rw [List.mem_singleton.mp h]; omega
    · rintro G ⟨xs, hl, hb, hD, fx⟩
      have sHG : Same H G := fun b o ho => fx _ _ (by simp [ne_of_none ho n1]) ho
      have hdG := sHG _ _ hd
      walk_at "rd"
      intro P nP
      generalize e0 : upd G P _ = G0
      obtain ⟨s0, c0⟩ := gen_new nP e0
      clear e0
      have hd0 := s0 _ _ hdG
      have hD0 := s0 _ _ hD
      walk_at "rd"
      refine ⟨[(.inr "lengths", .ref D), (.inr "size", .int (1 + f 0 % 6)), (.inr "fanout", .int (2 + f 5 % 7))], rfl, Nat.le_of_ble_eq_true rfl, ?_⟩
      rw [pd_merge3]
      generalize e1 : upd G0 P _ = G3
      obtain ⟨s3', c3⟩ := gen_st e1
      clear e1
      have npd : d ≠ P := ne_of_none hdG nP
      have npD : D ≠ P := ne_of_none hD nP
      have s3 : Same G G3 := fun b o ho => s3' _ _ (ne_of_none ho nP) (s0 _ _ ho)
      have hd3 := s3 _ _ hdG
      have hD3 := s3 _ _ hD
      walk_at "rd"
      intro q4 n4
      generalize eG4 : upd _ q4 _ = G4
      obtain ⟨s4, c4⟩ := gen_new n4 eG4
      clear eG4
      obtain ⟨m6, hm6, at6⟩ := three_at (a := 4) (b := 4) (c := 16) (r := f 9 % 3) (Int.emod_nonneg _ (by decide)) (Int.emod_lt_of_pos _ (by decide))
      walk_at "rd"
      refine ⟨_, _, _, _, rfl, rfl, SqL.of c4, at6, ?_⟩
      walk_at "rd"
      refine ⟨_, _, rfl, put_k (s4 _ _ c3) (Nat.le_of_ble_eq_true rfl) pd_put2, ?_⟩
      generalize e5 : upd G4 P _ = G5
      obtain ⟨s5, c5⟩ := gen_st e5
      clear e5
      have hd5 := s5 _ _ npd (s4 _ _ hd3)
      walk_at "rd"
      intro q6 n6
      generalize eG6 : upd _ q6 _ = G6
      obtain ⟨s6, c6⟩ := gen_new n6 eG6
      clear eG6
      obtain ⟨m7, hm7, at7⟩ := two_at (a := 10) (b := 40) (r := f 10 % 2) (Int.emod_nonneg _ (by decide)) (Int.emod_lt_of_pos _ (by decide))
      walk_at "rd"
      refine ⟨_, _, _, _, rfl, rfl, SqL.of c6, at7, ?_⟩
      walk_at "rd"
      refine ⟨_, _, rfl, put_k (s6 _ _ c5) (Nat.le_of_ble_eq_true rfl) pd_put3, ?_⟩
      generalize e7 : upd G6 P _ = G7
      obtain ⟨s7, c7⟩ := gen_st e7
      clear e7
      have hd7 := s7 _ _ npd (s6 _ _ hd5)
      walk_at "rd"
      refine ⟨_, _, rfl, put_k c7 (Nat.le_of_ble_eq_true rfl) pd_put4, ?_⟩
      generalize e9 : upd G7 P _ = G9
      obtain ⟨s9, c9⟩ := gen_st e9
      clear e9
      walk_at "rd"
      have nPH : H P = none := sHG.free nP
      have hD9 := s9 _ _ npD ((s7 _ _ npD (s6 _ _ (s5 _ _ npD (s4 _ _ hD3)))))
      have b5 := mod_bd (x := f 5) (show (0 : Int) < 7 by decide) (Int.le_refl 7)
      have b6 := mod_bd (x := f 6) (show 0 < m6 by omega) (show m6 ≤ 16 by omega)
      have b7 := mod_bd (x := f 7) (show 0 < m7 by omega) (show m7 ≤ 40 by omega)
      have b8 := mod_bd (x := f 8) (show (0 : Int) < 100 by decide) (Int.le_refl 100)
      refine k P ⟨xs, 1 + f 0 % 6, 2 + f 5 % 7, 1 + f 6 % m6, 1 + f 7 % m7, 1 + f 8 % 100⟩ G9 nPH ?_ ⟨?_, ?_, hb, ?_, ?_, ⟨?_, ?_⟩, ⟨?_, ?_⟩, ⟨?_, ?_⟩, ⟨?_, ?_⟩⟩ ?_ ⟨D, c9, hD9⟩
      · intro b o ho
        have nb : b ≠ P := ne_of_none ho nPH
        exact s9 _ _ nb ((s7 _ _ nb (s6 _ _ (s5 _ _ nb (s4 _ _ (s3 _ _ (sHG _ _ ho)))))))
      all_goals simp only []
      all_goals omega

/-- the begin of an own error, at its class C, field f -/
@[irreducible] def sp_xi (C : Addr) (f : Str) : Sp := fun vs H Q _ => ∃ (a : Addr) (v : V), vs = [.ref a, v] ∧ H a = some (exo a C none) ∧ ∀ dx, H dx = none → dx ≠ a → Q .non (upd (upd H dx (exd dx [(f, v)])) a (exo a C (some dx)))
/-- an error is made -/
theorem mk_xi {C : Addr} {f : Str} {v : V} {H1 : Hp} {Q : XK} (h : ∀ d, H1 d = none → Q (.ref C) (some d) (upd H1 d (.xd [(f, v)]))) :
    [v].length ≤ 1000 ∧ ∀ a, H1 a = none → sp_xi C f (.ref a :: [v]) (upd H1 a (exo a C none)) (fun u H2 => u = .non ∧ ∃ (d : Addr) (fs : List (Str × V)), H2 a = some (exo a C (some d)) ∧ H2 d = some (exd d fs) ∧ H1 d = none ∧ Q (.ref C) (some d) (upd (del H2 a) d (.xd fs))) (fun _ _ _ => False) := by
  refine ⟨Nat.le_of_ble_eq_true rfl, fun a na => ?_⟩
  unfold sp_xi
  refine ⟨a, v, rfl, upd_same, fun dx nd ne => ⟨rfl, dx, [(f, v)], upd_same, ?_, ?_, ?_⟩⟩
  · rw [upd_ne ne, upd_same]
  · rwa [upd_ne ne] at nd
  · have nd1 : H1 dx = none := by rwa [upd_ne ne] at nd
    have e : upd (del (upd (upd (upd H1 a (exo a C none)) dx (exd dx [(f, v)])) a (exo a C (some dx))) a) dx (.xd [(f, v)]) = upd H1 dx (.xd [(f, v)]) := by
      funext b
      by_cases hb : b = dx
      · rw [hb, upd_same, upd_same]
      rw [upd_ne hb, upd_ne hb]
      by_cases ha : b = a
      · rw [ha, del_same, na]
      rw [del_ne ha, upd_ne ha, upd_ne hb, upd_ne ha]
    rw [e]
    exact h dx nd1
theorem mk_xi2 {C : Addr} {f : Str} {v : V} {H1 : Hp} {Q : XK} (h : ∀ d, H1 d = none → Q (.ref C) (some d) (upd H1 d (.xd [(f, v)]))) :
    ∀ a, H1 a = none → sp_xi C f (.ref a :: [v]) (upd H1 a (exo a C none)) (fun u H2 => u = .non ∧ ∃ (d : Addr) (fs : List (Str × V)), H2 a = some (exo a C (some d)) ∧ H2 d = some (exd d fs) ∧ H1 d = none ∧ Q (.ref C) (some d) (upd (del H2 a) d (.xd fs))) (fun _ _ _ => False) := (mk_xi h).2
/-- a value of some plain kind; objects keep F -/
inductive Ov (F : Addr → Prop) (H : Hp) : V → Prop
  | non : Ov F H .non
  | bl (b : Bool) : Ov F H (.bl b)
  | int (i : Int) : Ov F H (.int i)
  | str (s : Str) : Ov F H (.str s)
  | lst {a : Addr} {xs : List V} (f : F a) (h : H a = some (.lst xs)) : Ov F H (.ref a)
  | tup {a : Addr} {xs : List V} (f : F a) (h : H a = some (.tup xs)) : Ov F H (.ref a)
  | dct {a : Addr} {xs : List (Key × V)} (f : F a) (h : H a = some (.dK xs)) : Ov F H (.ref a)
theorem Ov.mono {F G : Addr → Prop} {H H' : Hp} {v : V} (h : Ov F H v) (k : ∀ a o, F a → H a = some o → H' a = some o) (g : ∀ a, F a → G a) : Ov G H' v := by
  cases h with
  | non => exact .non
  | bl b => exact .bl b
  | int i => exact .int i
  | str s => exact .str s
  | lst f h => exact .lst (g _ f) (k _ _ f h)
  | tup f h => exact .tup (g _ f) (k _ _ f h)
  | dct f h => exact .dct (g _ f) (k _ _ f h)
theorem Ov.isint {K : PySem.W.Frag} {F : Addr → Prop} {H : Hp} {v : V} {Q : VK} (h : Ov F H v) (q1 : ∀ i, v = .int i → Q (.bl true) H) (q2 : ∀ b, v = .bl b → Q (.bl true) H) (q3 : (∀ i, v ≠ .int i) → (∀ b, v ≠ .bl b) → Q (.bl false) H) : rIsiI K [v, .ty "int"] H Q := by
  unfold rIsiI
  cases h with
  | non => exact ⟨_, _, _, _, false, rfl, .ty _, .base .non, kit_ty (by decide +kernel), q3 (by intro _ z; cases z) (by intro _ z; cases z)⟩
  | bl b => exact ⟨_, _, _, _, true, rfl, .ty _, .base (.bl b), kit_ty (by decide +kernel), q2 b rfl⟩
  | int i => exact ⟨_, _, _, _, true, rfl, .ty _, .base (.int i), kit_ty (by decide +kernel), q1 i rfl⟩
  | str s => exact ⟨_, _, _, _, false, rfl, .ty _, .base (.str s), kit_ty (by decide +kernel), q3 (by intro _ z; cases z) (by intro _ z; cases z)⟩
  | lst f h => exact ⟨_, _, _, _, false, rfl, .ty _, .base (.lst h), kit_ty (by decide +kernel), q3 (by intro _ z; cases z) (by intro _ z; cases z)⟩
  | tup f h => exact ⟨_, _, _, _, false, rfl, .ty _, .base (.tup h), kit_ty (by decide +kernel), q3 (by intro _ z; cases z) (by intro _ z; cases z)⟩
  | dct f h => exact ⟨_, _, _, _, false, rfl, .ty _, .base (.dK h), kit_ty (by decide +kernel), q3 (by intro _ z; cases z) (by intro _ z; cases z)⟩
theorem isi_boolT {K : PySem.W.Frag} {H : Hp} {b : Bool} {Q : VK} (q : Q (.bl true) H) : rIsiI K [.bl b, .ty "bool"] H Q := by
  unfold rIsiI; exact ⟨_, _, _, _, true, rfl, .ty _, .base (.bl b), kit_ty (by decide +kernel), q⟩
theorem Ov.islist {K : PySem.W.Frag} {F : Addr → Prop} {H : Hp} {v : V} {Q : VK} (h : Ov F H v) (q1 : ∀ a xs, v = .ref a → H a = some (.lst xs) → Q (.bl true) H) (q2 : (∀ a xs, v = .ref a → H a ≠ some (.lst xs)) → Q (.bl false) H) : rIsiI K [v, .ty "list"] H Q := by
  unfold rIsiI
  cases h with
  | non => exact ⟨_, _, _, _, false, rfl, .ty _, .base .non, kit_ty (by decide +kernel), q2 (by intro _ _ z; cases z)⟩
  | bl b => exact ⟨_, _, _, _, false, rfl, .ty _, .base (.bl b), kit_ty (by decide +kernel), q2 (by intro _ _ z; cases z)⟩
  | int i => exact ⟨_, _, _, _, false, rfl, .ty _, .base (.int i), kit_ty (by decide +kernel), q2 (by intro _ _ z; cases z)⟩
  | str s => exact ⟨_, _, _, _, false, rfl, .ty _, .base (.str s), kit_ty (by decide +kernel), q2 (by intro _ _ z; cases z)⟩
  | lst f h => exact ⟨_, _, _, _, true, rfl, .ty _, .base (.lst h), kit_ty (by decide +kernel), q1 _ _ rfl h⟩
  | tup f h => exact ⟨_, _, _, _, false, rfl, .ty _, .base (.tup h), kit_ty (by decide +kernel), q2 (by intro _ _ z e; cases z; rw [h] at e; cases e)⟩
  | dct f h => exact ⟨_, _, _, _, false, rfl, .ty _, .base (.dK h), kit_ty (by decide +kernel), q2 (by intro _ _ z e; cases z; rw [h] at e; cases e)⟩
abbrev Any (_ : Addr) : Prop := True
/-- an integer from lo to hi -/
def BT (v : V) (lo hi : Int) : Prop := ∃ i : Int, v = .int i ∧ lo ≤ i ∧ i ≤ hi
@[irreducible] def sp_is_integer : Sp := fun vs H Q _ => ∃ v : V, vs = [v] ∧ Ov Any H v ∧ ∀ b, (b = true ↔ ∃ i, v = .int i) → Q (.bl b) H
theorem use_isint {v : V} {H : Hp} {Q : VK} {E : XK} (o : Ov Any H v) (q : ∀ b, (b = true ↔ ∃ i, v = .int i) → Q (.bl b) H) : sp_is_integer [v] H Q E := by unfold sp_is_integer; exact ⟨v, rfl, o, q⟩
theorem b_is_integer {K : PySem.W.Frag} {fd : FuncData} (F : F_is_integer K fd) : Binds K fd P_is_integer [] := FunD.bindsN F fun _ _ _ _ _ _ us hl => match us, hl with | [_], _ => rfl
theorem ok_is_integer (T : Txt K mg base D) : FnOk P w K mg base CX0 1 (He.fAd K ("is_integer", none)) (D D_is_integer) P_is_integer sp_is_integer := by
  refine T.d_is_integer.ok sc_is_integer (fun vs H Q E h => ?_) (fun cdv A outer s H vs Q E hr h => ?_)
  · unfold sp_is_integer at h
    first | (obtain ⟨rfl, _⟩ := h; rfl) | (obtain ⟨_, rfl, _⟩ := h; rfl) | (obtain ⟨_, _, rfl, _⟩ := h; rfl) | (obtain ⟨_, _, _, rfl, _⟩ := h; rfl) | (obtain ⟨_, _, _, _, rfl, _⟩ := h; rfl) | (obtain ⟨_, _, _, _, _, rfl, _⟩ := h; rfl) | (obtain ⟨_, _, _, _, _, _, rfl, _⟩ := h; rfl) | (obtain ⟨_, _, _, _, _, _, _, rfl, _⟩ := h; rfl) | (obtain ⟨_, _, _, _, _, _, _, _, rfl, _⟩ := h; rfl) | (obtain ⟨_, _, _, _, _, _, _, _, _, rfl, _⟩ := h; rfl) | (obtain ⟨_, _, _, _, _, _, _, _, _, _, rfl, _⟩ := h; rfl) | (obtain ⟨_, _, _, _, _, _, _, _, _, _, _, rfl, _⟩ := h; rfl)
  · refine ⟨_, PSs.nox (pss_one (ps_ret (pe_and (pe_callB (call_isiK2 (K := K)) (by rfl) T.n_isinstance (by decide +kernel) (pa_cons (pv 0) (pa_cons (pe_bltn (by rfl) T.n_int (by decide +kernel) (v := .ty "int") rfl) pa_nil))) (pe_one (pe_not (pe_callB (call_isiK2 (K := K)) (by rfl) T.n_isinstance (by decide +kernel) (pa_cons (pv 0) (pa_cons (pe_bltn (by rfl) T.n_bool (by decide +kernel) (v := .ty "bool") rfl) pa_nil)))))))), ?_⟩
    unfold sp_is_integer at h
    obtain ⟨v, rfl, o, q⟩ := h
    walk_at "rd"
    refine o.isint (fun i e => ?_) (fun b e => ?_) (fun n1 n2 => ?_)
    · subst e
      walk_at "rd"
      refine isi_bool ?_
      walk_at "rd"
      exact q true ⟨fun _ => ⟨_, rfl⟩, fun _ => rfl⟩
    · subst e
      walk_at "rd"
      refine isi_boolT ?_
      walk_at "rd"
      exact q false ⟨fun z => (by cases z), fun ⟨_, z⟩ => by cases z⟩
    · walk_at "rd"
      exact q false ⟨fun z => (by cases z), fun ⟨i, z⟩ => absurd z (n1 i)⟩

@[irreducible] def sp_is_between : Sp := fun vs H Q _ => ∃ (v : V) (lo hi : Int), vs = [v, .int lo, .int hi] ∧ Ov Any H v ∧ ∀ b, (b = true ↔ BT v lo hi) → Q (.bl b) H
theorem use_between {v : V} {lo hi : Int} {H : Hp} {Q : VK} {E : XK} (o : Ov Any H v) (q : ∀ b, (b = true ↔ BT v lo hi) → Q (.bl b) H) : sp_is_between [v, .int lo, .int hi] H Q E := by unfold sp_is_between; exact ⟨v, lo, hi, rfl, o, q⟩
theorem b_is_between {K : PySem.W.Frag} {fd : FuncData} (F : F_is_between K fd) : Binds K fd P_is_between [] := FunD.bindsN F fun _ _ _ _ _ _ us hl => match us, hl with | [_, _, _], _ => rfl
theorem ok_is_between (T : Txt K mg base D) : FnOk P w K mg base CX0 2 (He.fAd K ("is_between", none)) (D D_is_between) P_is_between sp_is_between := by
  refine T.d_is_between.ok sc_is_between (fun vs H Q E h => ?_) (fun cdv A outer s H vs Q E hr h => ?_)
  · unfold sp_is_between at h
    first | (obtain ⟨rfl, _⟩ := h; rfl) | (obtain ⟨_, rfl, _⟩ := h; rfl) | (obtain ⟨_, _, rfl, _⟩ := h; rfl) | (obtain ⟨_, _, _, rfl, _⟩ := h; rfl) | (obtain ⟨_, _, _, _, rfl, _⟩ := h; rfl) | (obtain ⟨_, _, _, _, _, rfl, _⟩ := h; rfl) | (obtain ⟨_, _, _, _, _, _, rfl, _⟩ := h; rfl) | (obtain ⟨_, _, _, _, _, _, _, rfl, _⟩ := h; rfl) | (obtain ⟨_, _, _, _, _, _, _, _, rfl, _⟩ := h; rfl) | (obtain ⟨_, _, _, _, _, _, _, _, _, rfl, _⟩ := h; rfl) | (obtain ⟨_, _, _, _, _, _, _, _, _, _, rfl, _⟩ := h; rfl) | (obtain ⟨_, _, _, _, _, _, _, _, _, _, _, rfl, _⟩ := h; rfl)
  · refine ⟨_, PSs.nox (pss_one (ps_ret (pe_and (pe_call (ok_is_integer T) (hr.mono (by decide)) rfl T.g_is_integer T.d_is_integer.kp (b_is_integer T.d_is_integer) .nil pass0 (pa_cons (pv 0) pa_nil)) (pe_one (pe_chain op_le op_le (pv 1) (pv 0) (pv 2)))))), ?_⟩
    unfold sp_is_between at h
    obtain ⟨v, lo, hi, rfl, o, q⟩ := h
    walk_at "rd"
    refine use_isint o fun b hb => ?_
    walk_at "rd"
    cases b with
    | false =>
      have n : ¬ ∃ i, v = .int i := fun z => by cases hb.2 z
      refine iteF_of rfl ?_
      exact q false ⟨fun z => (by cases z), fun ⟨i, e, _⟩ => absurd ⟨i, e⟩ n⟩
    | true =>
      obtain ⟨i, rfl⟩ := hb.1 rfl
      refine iteT_of rfl ?_
      walk_at "rd"
      refine iteB (fun c => ?_) (fun c => ?_)
      · have c := of_decide_eq_true c
        walk_at "rd"
        refine q _ ⟨fun z => ⟨i, rfl, c, of_decide_eq_true z⟩, fun ⟨j, e, h1, h2⟩ => ?_⟩
        cases e
        exact decide_eq_true h2
      · have c := of_decide_eq_false c
        refine q false ⟨fun z => (by cases z), fun ⟨j, e, h1, h2⟩ => ?_⟩
        cases e
        exact absurd h1 c

theorem use_betweenI {i lo hi : Int} {H : Hp} {Q : VK} {E : XK} (q : Q (.bl (decide (lo ≤ i ∧ i ≤ hi))) H) : sp_is_between [.int i, .int lo, .int hi] H Q E := use_between (.int i) fun b hb => by
  have e : b = decide (lo ≤ i ∧ i ≤ hi) := by
    rw [Bool.eq_iff_iff, hb, decide_eq_true_iff]
    exact ⟨fun ⟨j, z, h⟩ => by cases z; exact h, fun h => ⟨i, rfl, h⟩⟩
  rw [e]
  exact q
@[irreducible] def sp_check_part : Sp := fun vs H Q _ => ∃ (x : Str) (i lo hi : Int), vs = [.str x, .int i, .int lo, .int hi] ∧ (lo ≤ i ∧ i ≤ hi) ∧ Q .non H
theorem use_check_part {x : Str} {i lo hi : Int} {H : Hp} {Q : VK} {E : XK} (h : lo ≤ i ∧ i ≤ hi) (q : Q .non H) : sp_check_part [.str x, .int i, .int lo, .int hi] H Q E := by unfold sp_check_part; exact ⟨x, i, lo, hi, rfl, h, q⟩
theorem b_check_part {K : PySem.W.Frag} {fd : FuncData} (F : F_check_part K fd) : Binds K fd P_check_part [] := FunD.bindsN F fun _ _ _ _ _ _ us hl => match us, hl with | [_, _, _, _], _ => rfl
theorem ok_check_part (T : Txt K mg base D) : FnOk P w K mg base CX0 3 (He.fAd K ("check_part", none)) (D D_check_part) P_check_part sp_check_part := by
  refine T.d_check_part.ok sc_check_part (fun vs H Q E h => ?_) (fun cdv A outer s H vs Q E hr h => ?_)
  · unfold sp_check_part at h
    first | (obtain ⟨rfl, _⟩ := h; rfl) | (obtain ⟨_, rfl, _⟩ := h; rfl) | (obtain ⟨_, _, rfl, _⟩ := h; rfl) | (obtain ⟨_, _, _, rfl, _⟩ := h; rfl) | (obtain ⟨_, _, _, _, rfl, _⟩ := h; rfl) | (obtain ⟨_, _, _, _, _, rfl, _⟩ := h; rfl) | (obtain ⟨_, _, _, _, _, _, rfl, _⟩ := h; rfl) | (obtain ⟨_, _, _, _, _, _, _, rfl, _⟩ := h; rfl) | (obtain ⟨_, _, _, _, _, _, _, _, rfl, _⟩ := h; rfl) | (obtain ⟨_, _, _, _, _, _, _, _, _, rfl, _⟩ := h; rfl) | (obtain ⟨_, _, _, _, _, _, _, _, _, _, rfl, _⟩ := h; rfl) | (obtain ⟨_, _, _, _, _, _, _, _, _, _, _, rfl, _⟩ := h; rfl)
  · refine ⟨_, PSs.nox (pss_one (ps_if (pt_not (pt_val (pe_call (ok_is_between T) (hr.mono (by decide)) rfl T.g_is_between T.d_is_between.kp (b_is_between T.d_is_between) .nil pass0 (pa_cons (pv 1) (pa_cons (pv 2) (pa_cons (pv 3) pa_nil)))))) (pss_one ps_never) pss_nil)), ?_⟩
    unfold sp_check_part at h
    obtain ⟨x, i, lo, hi, rfl, h, q⟩ := h
    walk_at "rd"
    refine use_betweenI ?_
    rw [decide_eq_true h]
    walk_at "rd"
    exact q

/-- settings stand at a -/
def SetAt (K : PySem.W.Frag) (H : Hp) (a : Addr) (p : Prt) : Prop := ∃ dx t, H a = some (.ins (He.ga K "Settings") dx [("lengths", .ref t), ("size", .int p.size), ("fanout", .int p.fan), ("records", .int p.rec_), ("every", .int p.every), ("keep", .int p.keep)]) ∧ H t = some (.tup (p.lens.map V.int))
theorem SetAt.same {K : PySem.W.Frag} {H H' : Hp} {a : Addr} {p : Prt} (h : SetAt K H a p) (s : Same H H') : SetAt K H' a p := let ⟨dx, l, h1, h2⟩ := h; ⟨dx, l, s _ _ h1, s _ _ h2⟩
@[irreducible] def sp_Settings_init (K : PySem.W.Frag) : Sp := fun vs H Q _ => ∃ (a dx l : Addr) (p : Prt), vs = [.ref a, .ref l, .int p.size, .int p.fan, .int p.rec_, .int p.every, .int p.keep] ∧
  H a = some (.ins (He.ga K "Settings") dx []) ∧ H l = some (.lst (p.lens.map V.int)) ∧ p.Ok ∧ ∀ H', SB a H H' → SetAt K H' a p → Q .non H'
theorem use_set_init {K : PySem.W.Frag} {a dx l : Addr} {p : Prt} {H : Hp} {Q : VK} {E : XK} (ha : H a = some (.ins (He.ga K "Settings") dx [])) (hl : H l = some (.lst (p.lens.map V.int))) (ok : p.Ok) (k : ∀ H', SB a H H' → SetAt K H' a p → Q .non H') :
  sp_Settings_init K [.ref a, .ref l, .int p.size, .int p.fan, .int p.rec_, .int p.every, .int p.keep] H Q E := by unfold sp_Settings_init; exact ⟨a, dx, l, p, rfl, ha, hl, ok, k⟩
theorem b_Settings___init__ {K : PySem.W.Frag} {fd : FuncData} (F : F_Settings___init__ K fd) : KBn K fd P_Settings___init__ 3 ["fanout", "records", "every", "keep"] (fun us ws => us ++ ws) (fun vs zs => vs ++ zs) := kb_app F 3 ["fanout", "records", "every", "keep"] fun _ _ _ _ _ _ us ws h1 h2 => match us, ws, h1, h2 with | [_, _, _], [_, _, _, _], _, _ => rfl
theorem ok_Settings___init__ (T : Txt K mg base D) : FnOk P w K mg base CX0 4 (He.fAd K ("Settings", some "__init__")) (D D_Settings___init__) P_Settings___init__ (sp_Settings_init K) := by
  refine T.d_Settings___init__.ok sc_Settings___init__ (fun vs H Q E h => ?_) (fun cdv A outer s H vs Q E hr h => ?_)
  · unfold sp_Settings_init at h
    first | (obtain ⟨rfl, _⟩ := h; rfl) | (obtain ⟨_, rfl, _⟩ := h; rfl) | (obtain ⟨_, _, rfl, _⟩ := h; rfl) | (obtain ⟨_, _, _, rfl, _⟩ := h; rfl) | (obtain ⟨_, _, _, _, rfl, _⟩ := h; rfl) | (obtain ⟨_, _, _, _, _, rfl, _⟩ := h; rfl) | (obtain ⟨_, _, _, _, _, _, rfl, _⟩ := h; rfl) | (obtain ⟨_, _, _, _, _, _, _, rfl, _⟩ := h; rfl) | (obtain ⟨_, _, _, _, _, _, _, _, rfl, _⟩ := h; rfl) | (obtain ⟨_, _, _, _, _, _, _, _, _, rfl, _⟩ := h; rfl) | (obtain ⟨_, _, _, _, _, _, _, _, _, _, rfl, _⟩ := h; rfl) | (obtain ⟨_, _, _, _, _, _, _, _, _, _, _, rfl, _⟩ := h; rfl)
  · refine ⟨_, PSs.nox (pss_cons (ps_if (PW.pt (pw_or (pt_not (pt_val (pe_callB (call_isiK2 (K := K)) (by rfl) T.n_isinstance (by decide +kernel) (pa_cons (pv 1) (pa_cons (pe_bltn (by rfl) T.n_list (by decide +kernel) (v := .ty "list") rfl) pa_nil))))) (pw_or1 (pt_not (pt_chain op_le op_le pe_int (pe_callB (call_lenK (K := K)) (by rfl) T.n_len (by decide +kernel) (pa_cons (pv 1) pa_nil)) (pe_globi T.i_MOST_LENGTHS)))))) (pss_one ps_never) pss_nil)
      (pss_cons (ps_for PassesOwn.never rfl (pi_list (pv 1)) (pg_name (i := 7) sc_Settings___init__.nd rfl (Or.inl rfl)) (pss_one (ps_expr (pe_call (ok_check_part T) (hr.mono (by decide)) rfl T.g_check_part T.d_check_part.kp (b_check_part T.d_check_part) .nil pass0 (pa_cons pe_str (pa_cons (pv 7) (pa_cons pe_int (pa_cons (pe_globi T.i_MOST_SIZE) pa_nil))))))))
      (pss_cons (ps_expr (pe_call (ok_check_part T) (hr.mono (by decide)) rfl T.g_check_part T.d_check_part.kp (b_check_part T.d_check_part) .nil pass0 (pa_cons pe_str (pa_cons (pv 2) (pa_cons (pe_callB (cr_maxK (K := K) rfl) (by rfl) T.n_max (by decide +kernel) (pa_cons (pv 1) pa_nil)) (pa_cons (pe_globi T.i_MOST_SIZE) pa_nil))))))
      (pss_cons (ps_expr (pe_call (ok_check_part T) (hr.mono (by decide)) rfl T.g_check_part T.d_check_part.kp (b_check_part T.d_check_part) .nil pass0 (pa_cons pe_str (pa_cons (pv 3) (pa_cons pe_int (pa_cons (pe_globi T.i_MOST_FANOUT) pa_nil))))))
      (pss_cons (ps_expr (pe_call (ok_check_part T) (hr.mono (by decide)) rfl T.g_check_part T.d_check_part.kp (b_check_part T.d_check_part) .nil pass0 (pa_cons pe_str (pa_cons (pv 4) (pa_cons pe_int (pa_cons (pe_globi T.i_MOST_RECORDS) pa_nil))))))
      (pss_cons (ps_expr (pe_call (ok_check_part T) (hr.mono (by decide)) rfl T.g_check_part T.d_check_part.kp (b_check_part T.d_check_part) .nil pass0 (pa_cons pe_str (pa_cons (pv 5) (pa_cons pe_int (pa_cons (pe_globi T.i_MOST_EVERY) pa_nil))))))
      (pss_cons (ps_expr (pe_call (ok_check_part T) (hr.mono (by decide)) rfl T.g_check_part T.d_check_part.kp (b_check_part T.d_check_part) .nil pass0 (pa_cons pe_str (pa_cons (pv 6) (pa_cons pe_int (pa_cons (pe_globi T.i_MOST_KEEP) pa_nil))))))
      (pss_cons (ps_fld (pv 0) (pe_callTy (call_tupK (K := K)) (by rfl) T.n_tuple (by decide +kernel) (pa_cons (pv 1) pa_nil)) rfl)
      (pss_cons (ps_fld (pv 0) (pv 2) rfl)
      (pss_cons (ps_fld (pv 0) (pv 3) rfl)
      (pss_cons (ps_fld (pv 0) (pv 4) rfl)
      (pss_cons (ps_fld (pv 0) (pv 5) rfl)
      (pss_one (ps_fld (pv 0) (pv 6) rfl)))))))))))))), ?_⟩
    unfold sp_Settings_init at h
    obtain ⟨a, dx, l, p, rfl, ha, hl, ok, k⟩ := h
    walk_at "rd"
    refine isi_list hl ?_
    walk_at "rd"
    have l0 := ok.l0
    have l1 := ok.l1
    refine iteT_of (decide_eq_true (by rw [List.length_map]; omega)) ?_
    walk_at "rd"
    refine iteF_of (by rw [decide_eq_true (by rw [List.length_map]; omega)]; rfl) ?_
    walk_at "rd"
    refine for_list (xs := p.lens.map V.int) (fun i σ H' => H' = H ∧ ∃ v : Option V, σ = [some (.ref a), some (.ref l), some (.int p.size), some (.int p.fan), some (.int p.rec_), some (.int p.every), some (.int p.keep), v]) ⟨rfl, _, rfl⟩ ?_ ?_ ?_
    · rintro i σ H' _ ⟨rfl, _⟩
      exact SqL.of hl
    · rintro i x σ H' hx ⟨rfl, v, rfl⟩
      obtain ⟨z, hz, rfl⟩ := map_some hx
      have hb := ok.le z (List.mem_of_getElem? hz)
      have s1 := ok.s1
      walk_at "rd"
      refine use_check_part (by omega) ?_
      walk_at "rd"
      exact ⟨_, rfl⟩
    · rintro σ H' ⟨rfl, v, rfl⟩
      walk_at "rd"
      refine ⟨_, _, rfl, SqL.of hl, ok.l0, fun m hm _ => ?_⟩
      have hb := ok.le m hm
      have s1 := ok.s1
      walk_at "rd"
      refine use_check_part (by omega) ?_
      walk_at "rd"
      refine use_check_part ok.f ?_
      walk_at "rd"
      refine use_check_part ok.r ?_
      walk_at "rd"
      refine use_check_part ok.e ?_
      walk_at "rd"
      refine use_check_part ok.k ?_
      walk_at "rd"
      refine ⟨_, _, rfl, .inl ⟨SqL.of hl, ?_⟩⟩
      intro t n0
      generalize eG0 : upd _ t _ = G0
      obtain ⟨g0, ht⟩ := gen_new n0 eG0
      clear eG0
      have ha0 := g0 _ _ ha
      have nta : t ≠ a := (ne_of_none ha n0).symm
      walk_at "rd"
      generalize eG1 : upd _ _ _ = G1
      obtain ⟨g1, h1⟩ := gen_st eG1
      clear eG1
      try simp only [pf_Settings_0, pf_Settings_1, pf_Settings_2, pf_Settings_3, pf_Settings_4, pf_Settings_5] at h1
      walk_at "rd"
      generalize eG2 : upd _ _ _ = G2
      obtain ⟨g2, h2⟩ := gen_st eG2
      clear eG2
      try simp only [pf_Settings_0, pf_Settings_1, pf_Settings_2, pf_Settings_3, pf_Settings_4, pf_Settings_5] at h2
      walk_at "rd"
      generalize eG3 : upd _ _ _ = G3
      obtain ⟨g3, h3⟩ := gen_st eG3
      clear eG3
      try simp only [pf_Settings_0, pf_Settings_1, pf_Settings_2, pf_Settings_3, pf_Settings_4, pf_Settings_5] at h3
      walk_at "rd"
      generalize eG4 : upd _ _ _ = G4
      obtain ⟨g4, h4⟩ := gen_st eG4
      clear eG4
      try simp only [pf_Settings_0, pf_Settings_1, pf_Settings_2, pf_Settings_3, pf_Settings_4, pf_Settings_5] at h4
      walk_at "rd"
      generalize eG5 : upd _ _ _ = G5
      obtain ⟨g5, h5⟩ := gen_st eG5
      clear eG5
      try simp only [pf_Settings_0, pf_Settings_1, pf_Settings_2, pf_Settings_3, pf_Settings_4, pf_Settings_5] at h5
      walk_at "rd"
      generalize eG6 : upd _ _ _ = G6
      obtain ⟨g6, h6⟩ := gen_st eG6
      clear eG6
      try simp only [pf_Settings_0, pf_Settings_1, pf_Settings_2, pf_Settings_3, pf_Settings_4, pf_Settings_5] at h6
      refine k G6 ((((((g0.sb.trans g1).trans g2).trans g3).trans g4).trans g5).trans g6) ⟨dx, t, ?_, (((((g1.trans g2).trans g3).trans g4).trans g5).trans g6) _ _ nta ht⟩
      exact h6

@[irreducible] def sp_law_settings (K : PySem.W.Frag) : Sp := fun vs H Q _ => ∃ (a : Addr) (p : Prt), vs = [.ref a] ∧ PdAt H a p ∧ p.Ok ∧ ∀ b H', H b = none → Same H H' → SetAt K H' b p → Q (.ref b) H'
theorem use_settings {K : PySem.W.Frag} {a : Addr} {p : Prt} {H : Hp} {Q : VK} {E : XK} (h : PdAt H a p) (ok : p.Ok) (k : ∀ b H', H b = none → Same H H' → SetAt K H' b p → Q (.ref b) H') : sp_law_settings K [.ref a] H Q E := by
  unfold sp_law_settings; exact ⟨a, p, rfl, h, ok, k⟩
theorem b_law_settings {K : PySem.W.Frag} {fd : FuncData} (F : F_law_settings K fd) : Binds K fd P_law_settings [] := FunD.bindsN F fun _ _ _ _ _ _ us hl => match us, hl with | [_], _ => rfl
theorem ok_law_settings (T : Txt K mg base D) : FnOk P w K mg base CX0 6 (He.fAd K ("_law_settings", none)) (D D_law_settings) P_law_settings (sp_law_settings K) := by
  refine T.d_law_settings.ok sc_law_settings (fun vs H Q E h => ?_) (fun cdv A outer s H vs Q E hr h => ?_)
  · unfold sp_law_settings at h
    first | (obtain ⟨rfl, _⟩ := h; rfl) | (obtain ⟨_, rfl, _⟩ := h; rfl) | (obtain ⟨_, _, rfl, _⟩ := h; rfl) | (obtain ⟨_, _, _, rfl, _⟩ := h; rfl) | (obtain ⟨_, _, _, _, rfl, _⟩ := h; rfl) | (obtain ⟨_, _, _, _, _, rfl, _⟩ := h; rfl) | (obtain ⟨_, _, _, _, _, _, rfl, _⟩ := h; rfl) | (obtain ⟨_, _, _, _, _, _, _, rfl, _⟩ := h; rfl) | (obtain ⟨_, _, _, _, _, _, _, _, rfl, _⟩ := h; rfl) | (obtain ⟨_, _, _, _, _, _, _, _, _, rfl, _⟩ := h; rfl) | (obtain ⟨_, _, _, _, _, _, _, _, _, _, rfl, _⟩ := h; rfl) | (obtain ⟨_, _, _, _, _, _, _, _, _, _, _, rfl, _⟩ := h; rfl)
  · refine ⟨_, PSs.nox (pss_cons (ps_asg (pe_lc (own := [("word", 5)]) rfl sc_law_settings.nd (pi_list (pe_lst (pa_cons pe_str (pa_cons pe_str (pa_cons pe_str (pa_cons pe_str pa_nil)))))) (blkOk_by (N := N_law_settings) (sc := defScope s_law_settings) (by decide +kernel)) (fun _ _ _ _ _ => (pg_name (i := 5) sc_law_settings.nd rfl (Or.inl rfl))) (fun _ _ _ _ _ => pts_nil) (fun _ _ _ _ _ => (pe_dget (hu_of hr) (pv 0) (pv 5) (fun _ _ => rfl)))) (pg_unl rfl (pgs_cons (pg_name (i := 1) sc_law_settings.nd rfl (Or.inl rfl)) (pgs_cons (pg_name (i := 2) sc_law_settings.nd rfl (Or.inl rfl)) (pgs_cons (pg_name (i := 3) sc_law_settings.nd rfl (Or.inl rfl)) (pgs_cons (pg_name (i := 4) sc_law_settings.nd rfl (Or.inl rfl)) pgs_nil))))))
      (pss_one (ps_ret (pe_makeK T.mk_Settings (ok_Settings___init__ T) (hr.mono (by decide)) rfl T.g_Settings (b_Settings___init__ T.d_Settings___init__) pass0 (pa_cons (pe_dget (hu_of hr) (pv 0) pe_str (fun _ _ => rfl)) (pa_cons (pe_dget (hu_of hr) (pv 0) pe_str (fun _ _ => rfl)) pa_nil)) (pk_cons (pv 1) (pk_cons (pv 2) (pk_cons (pv 3) (pk_cons (pv 4) pk_nil)))))))), ?_⟩
    unfold sp_law_settings at h
    obtain ⟨a, p, rfl, ⟨l, ha, hl⟩, ok, k⟩ := h
    walk_at "rd"
    intro q n1
    generalize eH1 : upd _ q _ = H1
    obtain ⟨s1, c1⟩ := gen_new n1 eH1
    clear eH1
    walk_at "rd"
    have ha1 := s1 _ _ ha
    intro D n2
    have naD : a ≠ D := ne_of_none ha1 n2
    refine lc_list (K := K) (a := q) (xs := [.str "fanout", .str "records", .str "every", .str "keep"]) (fun i G => SX [D] H1 G ∧ G D = some (.lst (([.int p.fan, .int p.rec_, .int p.every, .int p.keep] : List V).take i))) ⟨SX.refl.mut n2, upd_same⟩ ?_ ?_ ?_
    · rintro i G _ ⟨f, _⟩
      exact SqL.of (f _ _ (by simp [ne_of_none c1 n2]) c1)
    · rintro i x G hx ⟨f, hD⟩
      have haG := f _ _ (by simp [naD]) ha1
      refine ⟨rfl, ?_⟩
      match i, hx with
      | 0, hx =>
        cases hx
        walk_at "rd"
        exact ⟨_, hD, szlt (Nat.le_of_ble_eq_true rfl), f.upd (by simp), upd_same⟩
      | 1, hx =>
        cases hx
        walk_at "rd"
        exact ⟨_, hD, szlt (Nat.le_of_ble_eq_true rfl), f.upd (by simp), upd_same⟩
      | 2, hx =>
        cases hx
        walk_at "rd"
        exact ⟨_, hD, szlt (Nat.le_of_ble_eq_true rfl), f.upd (by simp), upd_same⟩
      | 3, hx =>
        cases hx
        walk_at "rd"
        exact ⟨_, hD, szlt (Nat.le_of_ble_eq_true rfl), f.upd (by simp), upd_same⟩
      | i + 4, hx => simp at hx
    rintro G ⟨f, hD⟩
    have sG : Same H G := fun b o ho => f _ _ (by simp [ne_of_none (s1 _ _ ho) n2]) (s1 _ _ ho)
    have hDG : G D = some (.lst [.int p.fan, .int p.rec_, .int p.every, .int p.keep]) := hD
    have haG := sG _ _ ha
    have hlG := sG _ _ hl
    refine ⟨_, _, rfl, SqL.of hDG, rfl, ?_⟩
    walk_at "rd"
    intro b dx n ndb neb
    generalize eG2 : upd (upd _ dx _) b _ = G2
    obtain ⟨s, c⟩ := gen_mk n ndb eG2
    clear eG2
    refine use_set_init c (s _ _ hlG) ok fun H2 s2 st => ?_
    walk_at "rd"
    exact k b H2 (sG.free n) (sG.trans (same_sb_new s s2 n)) st

@[irreducible] def sp_check_settings (K : PySem.W.Frag) : Sp := fun vs H Q _ => ∃ (a dx : Addr) (fs : List (Str × V)), vs = [.ref a] ∧ H a = some (.ins (He.ga K "Settings") dx fs) ∧ Q .non H
theorem use_check_settings {K : PySem.W.Frag} {a dx : Addr} {fs : List (Str × V)} {H : Hp} {Q : VK} {E : XK} (h : H a = some (.ins (He.ga K "Settings") dx fs)) (q : Q .non H) : sp_check_settings K [.ref a] H Q E := by
  unfold sp_check_settings; exact ⟨a, dx, fs, rfl, h, q⟩
theorem b_check_settings {K : PySem.W.Frag} {fd : FuncData} (F : F_check_settings K fd) : Binds K fd P_check_settings [] := FunD.bindsN F fun _ _ _ _ _ _ us hl => match us, hl with | [_], _ => rfl
theorem ok_check_settings (T : Txt K mg base D) : FnOk P w K mg base CX0 1 (He.fAd K ("check_settings", none)) (D D_check_settings) P_check_settings (sp_check_settings K) := by
  refine T.d_check_settings.ok sc_check_settings (fun vs H Q E h => ?_) (fun cdv A outer s H vs Q E hr h => ?_)
  · unfold sp_check_settings at h
    first | (obtain ⟨rfl, _⟩ := h; rfl) | (obtain ⟨_, rfl, _⟩ := h; rfl) | (obtain ⟨_, _, rfl, _⟩ := h; rfl) | (obtain ⟨_, _, _, rfl, _⟩ := h; rfl) | (obtain ⟨_, _, _, _, rfl, _⟩ := h; rfl) | (obtain ⟨_, _, _, _, _, rfl, _⟩ := h; rfl) | (obtain ⟨_, _, _, _, _, _, rfl, _⟩ := h; rfl) | (obtain ⟨_, _, _, _, _, _, _, rfl, _⟩ := h; rfl) | (obtain ⟨_, _, _, _, _, _, _, _, rfl, _⟩ := h; rfl) | (obtain ⟨_, _, _, _, _, _, _, _, _, rfl, _⟩ := h; rfl) | (obtain ⟨_, _, _, _, _, _, _, _, _, _, rfl, _⟩ := h; rfl) | (obtain ⟨_, _, _, _, _, _, _, _, _, _, _, rfl, _⟩ := h; rfl)
  · refine ⟨_, PSs.nox (pss_one (ps_if (pt_not (pt_val (pe_callB (call_isiK2 (K := K)) (by rfl) T.n_isinstance (by decide +kernel) (pa_cons (pv 0) (pa_cons (pe_glob (v := .ref (He.ga K "Settings")) rfl T.g_Settings rfl) pa_nil))))) (pss_one ps_never) pss_nil)), ?_⟩
    unfold sp_check_settings at h
    obtain ⟨a, dx, fs, rfl, ha, q⟩ := h
    walk_at "rd"
    refine isi_own ha T.c_Settings T.ic_Settings T.kk_Settings_Settings ?_
    walk_at "rd"
    exact q

@[irreducible] def sp_check_moment : Sp := fun vs H Q _ => ∃ i : Int, vs = [.int i] ∧ (0 ≤ i ∧ i ≤ 1000000000000000000000000000000) ∧ Q .non H
theorem use_check_moment {i : Int} {H : Hp} {Q : VK} {E : XK} (h : 0 ≤ i ∧ i ≤ 1000000000000000000000000000000) (q : Q .non H) : sp_check_moment [.int i] H Q E := by unfold sp_check_moment; exact ⟨i, rfl, h, q⟩
theorem b_check_moment {K : PySem.W.Frag} {fd : FuncData} (F : F_check_moment K fd) : Binds K fd P_check_moment [] := FunD.bindsN F fun _ _ _ _ _ _ us hl => match us, hl with | [_], _ => rfl
theorem ok_check_moment (T : Txt K mg base D) : FnOk P w K mg base CX0 3 (He.fAd K ("check_moment", none)) (D D_check_moment) P_check_moment sp_check_moment := by
  refine T.d_check_moment.ok sc_check_moment (fun vs H Q E h => ?_) (fun cdv A outer s H vs Q E hr h => ?_)
  · unfold sp_check_moment at h
    first | (obtain ⟨rfl, _⟩ := h; rfl) | (obtain ⟨_, rfl, _⟩ := h; rfl) | (obtain ⟨_, _, rfl, _⟩ := h; rfl) | (obtain ⟨_, _, _, rfl, _⟩ := h; rfl) | (obtain ⟨_, _, _, _, rfl, _⟩ := h; rfl) | (obtain ⟨_, _, _, _, _, rfl, _⟩ := h; rfl) | (obtain ⟨_, _, _, _, _, _, rfl, _⟩ := h; rfl) | (obtain ⟨_, _, _, _, _, _, _, rfl, _⟩ := h; rfl) | (obtain ⟨_, _, _, _, _, _, _, _, rfl, _⟩ := h; rfl) | (obtain ⟨_, _, _, _, _, _, _, _, _, rfl, _⟩ := h; rfl) | (obtain ⟨_, _, _, _, _, _, _, _, _, _, rfl, _⟩ := h; rfl) | (obtain ⟨_, _, _, _, _, _, _, _, _, _, _, rfl, _⟩ := h; rfl)
  · refine ⟨_, PSs.nox (pss_one (ps_if (pt_not (pt_val (pe_call (ok_is_between T) (hr.mono (by decide)) rfl T.g_is_between T.d_is_between.kp (b_is_between T.d_is_between) .nil pass0 (pa_cons (pv 0) (pa_cons pe_int (pa_cons (pe_globi T.i_MOST_ROW) pa_nil)))))) (pss_one ps_never) pss_nil)), ?_⟩
    unfold sp_check_moment at h
    obtain ⟨i, rfl, h, q⟩ := h
    walk_at "rd"
    refine use_betweenI ?_
    rw [decide_eq_true h]
    walk_at "rd"
    exact q

@[irreducible] def sp_check_row : Sp := fun vs H Q _ => ∃ i m : Int, vs = [.int i, .int m] ∧ (0 ≤ i ∧ i ≤ m - 1) ∧ Q .non H
theorem use_check_row {i m : Int} {H : Hp} {Q : VK} {E : XK} (h : 0 ≤ i ∧ i ≤ m - 1) (q : Q .non H) : sp_check_row [.int i, .int m] H Q E := by unfold sp_check_row; exact ⟨i, m, rfl, h, q⟩
theorem b_check_row_1 {K : PySem.W.Frag} {fd : FuncData} (F : F_check_row K fd) : ∃ ds, Vals [.int (1000000000000000000000000000000)] ds ∧ Binds K fd P_check_row ds := FunD.binds1 F 1 0 (by intro z; cases z) rfl fun _ _ _ _ _ _ _ us its h1 h2 => match us, its, h1, h2 with | [_], [_], _, _ => ⟨_, rfl, rfl⟩
theorem b_check_row_2 {K : PySem.W.Frag} {fd : FuncData} (F : F_check_row K fd) : ∃ ds, Vals [] ds ∧ Binds K fd P_check_row ds := FunD.binds1 F 2 1 (by intro z; cases z) rfl fun _ _ _ _ _ _ _ us its h1 h2 => match us, its, h1, h2 with | [_, _], [_], _, _ => ⟨_, rfl, rfl⟩
theorem ok_check_row (T : Txt K mg base D) : FnOk P w K mg base CX0 3 (He.fAd K ("check_row", none)) (D D_check_row) P_check_row sp_check_row := by
  refine T.d_check_row.ok sc_check_row (fun vs H Q E h => ?_) (fun cdv A outer s H vs Q E hr h => ?_)
  · unfold sp_check_row at h
    first | (obtain ⟨rfl, _⟩ := h; rfl) | (obtain ⟨_, rfl, _⟩ := h; rfl) | (obtain ⟨_, _, rfl, _⟩ := h; rfl) | (obtain ⟨_, _, _, rfl, _⟩ := h; rfl) | (obtain ⟨_, _, _, _, rfl, _⟩ := h; rfl) | (obtain ⟨_, _, _, _, _, rfl, _⟩ := h; rfl) | (obtain ⟨_, _, _, _, _, _, rfl, _⟩ := h; rfl) | (obtain ⟨_, _, _, _, _, _, _, rfl, _⟩ := h; rfl) | (obtain ⟨_, _, _, _, _, _, _, _, rfl, _⟩ := h; rfl) | (obtain ⟨_, _, _, _, _, _, _, _, _, rfl, _⟩ := h; rfl) | (obtain ⟨_, _, _, _, _, _, _, _, _, _, rfl, _⟩ := h; rfl) | (obtain ⟨_, _, _, _, _, _, _, _, _, _, _, rfl, _⟩ := h; rfl)
  · refine ⟨_, PSs.nox (pss_one (ps_if (pt_not (pt_val (pe_call (ok_is_between T) (hr.mono (by decide)) rfl T.g_is_between T.d_is_between.kp (b_is_between T.d_is_between) .nil pass0 (pa_cons (pv 0) (pa_cons pe_int (pa_cons (pe_op op_sub (pv 1) pe_int) pa_nil)))))) (pss_one ps_never) pss_nil)), ?_⟩
    unfold sp_check_row at h
    obtain ⟨i, m, rfl, h, q⟩ := h
    walk_at "rd"
    refine use_betweenI ?_
    rw [decide_eq_true h]
    walk_at "rd"
    exact q

theorem b_InvalidNumber___init__ {K : PySem.W.Frag} {fd : FuncData} (F : F_InvalidNumber___init__ K fd) : Binds K fd P_InvalidNumber___init__ [] := FunD.bindsN F fun _ _ _ _ _ _ us hl => match us, hl with | [_, _], _ => rfl
theorem ok_InvalidNumber___init__ (T : Txt K mg base D) : FnOk P w K mg base CX0 1 (He.fAd K ("InvalidNumber", some "__init__")) (D D_InvalidNumber___init__) P_InvalidNumber___init__ (sp_xi (He.ga K "InvalidNumber") "number") := by
  refine T.d_InvalidNumber___init__.ok sc_InvalidNumber___init__ (fun vs H Q E h => ?_) (fun cdv A outer s H vs Q E hr h => ?_)
  · unfold sp_xi at h
    first | (obtain ⟨rfl, _⟩ := h; rfl) | (obtain ⟨_, rfl, _⟩ := h; rfl) | (obtain ⟨_, _, rfl, _⟩ := h; rfl) | (obtain ⟨_, _, _, rfl, _⟩ := h; rfl) | (obtain ⟨_, _, _, _, rfl, _⟩ := h; rfl) | (obtain ⟨_, _, _, _, _, rfl, _⟩ := h; rfl) | (obtain ⟨_, _, _, _, _, _, rfl, _⟩ := h; rfl) | (obtain ⟨_, _, _, _, _, _, _, rfl, _⟩ := h; rfl) | (obtain ⟨_, _, _, _, _, _, _, _, rfl, _⟩ := h; rfl) | (obtain ⟨_, _, _, _, _, _, _, _, _, rfl, _⟩ := h; rfl) | (obtain ⟨_, _, _, _, _, _, _, _, _, _, rfl, _⟩ := h; rfl) | (obtain ⟨_, _, _, _, _, _, _, _, _, _, _, rfl, _⟩ := h; rfl)
  · refine ⟨_, PSs.nox (pss_cons (ps_expr (pe_leI T.lb_StoreError rfl T.g_StoreError (pa_cons (pv 0) (pa_cons pe_str pa_nil))))
      (pss_one (ps_leS (pv 0) (pv 1)))), ?_⟩
    unfold sp_xi at h
    obtain ⟨a, v, rfl, ha, k⟩ := h
    walk_at "rd"
    refine ⟨a, _, [.str "invalid number"], rfl, Nat.le_of_ble_eq_true rfl, T.le_InvalidNumber, ha, ?_⟩
    walk_at "rd"
    exact ⟨a, _, rfl, T.le_InvalidNumber, T.ln_InvalidNumber_number, ha, fun dx nd ne => k dx nd ne⟩

/-- what is let out with a number that is none -/
def ENum (K : PySem.W.Frag) (v : V) (H : Hp) (E : XK) : Prop := ∀ d H', H d = none → Same H H' → H' d = some (.xd [("number", v)]) → E (.ref (He.ga K "InvalidNumber")) (some d) H'
@[irreducible] def sp_check_count (K : PySem.W.Frag) : Sp := fun vs H Q E => ∃ v : V, vs = [v] ∧ Ov Any H v ∧ (∀ i, v = .int i → 0 ≤ i → Q .non H) ∧ ((∀ i, v = .int i → ¬ 0 ≤ i) → ENum K v H E)
theorem use_check_count {K : PySem.W.Frag} {v : V} {H : Hp} {Q : VK} {E : XK} (o : Ov Any H v) (q : ∀ i, v = .int i → 0 ≤ i → Q .non H) (e : (∀ i, v = .int i → ¬ 0 ≤ i) → ENum K v H E) : sp_check_count K [v] H Q E := by unfold sp_check_count; exact ⟨v, rfl, o, q, e⟩
theorem b_check_count {K : PySem.W.Frag} {fd : FuncData} (F : F_check_count K fd) : Binds K fd P_check_count [] := FunD.bindsN F fun _ _ _ _ _ _ us hl => match us, hl with | [_], _ => rfl
theorem ok_check_count (T : Txt K mg base D) : FnOk P w K mg base (L2.CX P w) 3 (He.fAd K ("check_count", none)) (D D_check_count) P_check_count (sp_check_count K) := by
  refine T.d_check_count.ok sc_check_count (fun vs H Q E h => ?_) (fun cdv A outer s H vs Q E hr h => ?_)
  · unfold sp_check_count at h
    first | (obtain ⟨rfl, _⟩ := h; rfl) | (obtain ⟨_, rfl, _⟩ := h; rfl) | (obtain ⟨_, _, rfl, _⟩ := h; rfl) | (obtain ⟨_, _, _, rfl, _⟩ := h; rfl) | (obtain ⟨_, _, _, _, rfl, _⟩ := h; rfl) | (obtain ⟨_, _, _, _, _, rfl, _⟩ := h; rfl) | (obtain ⟨_, _, _, _, _, _, rfl, _⟩ := h; rfl) | (obtain ⟨_, _, _, _, _, _, _, rfl, _⟩ := h; rfl) | (obtain ⟨_, _, _, _, _, _, _, _, rfl, _⟩ := h; rfl) | (obtain ⟨_, _, _, _, _, _, _, _, _, rfl, _⟩ := h; rfl) | (obtain ⟨_, _, _, _, _, _, _, _, _, _, rfl, _⟩ := h; rfl) | (obtain ⟨_, _, _, _, _, _, _, _, _, _, _, rfl, _⟩ := h; rfl)
  · refine ⟨_, (pss_one (ps_if (PW.pt (pw_or (pt_not (pt_val (pe_call (ok_is_integer T) (hr.mono (by decide)) rfl T.g_is_integer T.d_is_integer.kp (b_is_integer T.d_is_integer) .nil pass0 (pa_cons (pv 0) pa_nil)))) (pw_or1 (pt_cmpR op_lt (pv 0) pe_int (nomark _))))) (pss_one (ps_raise rfl (takes_of rfl rfl rfl rfl) (pmk_le T.le_InvalidNumber T.li_InvalidNumber T.lt_InvalidNumber (ok_InvalidNumber___init__ T) (hr.mono (by decide)) rfl T.g_InvalidNumber (b_InvalidNumber___init__ T.d_InvalidNumber___init__) pass0 (pa_cons (pv 0) pa_nil)))) pss_nil)), ?_⟩
    unfold sp_check_count at h
    obtain ⟨v, rfl, o, q, e⟩ := h
    walk_at "rd"
    refine use_isint o fun b hb => ?_
    cases b with
    | false =>
      have n : ¬ ∃ i, v = .int i := fun z => by cases hb.2 z
      walk_at "rd"
      exact mk_xi fun d nd => e (fun i z => absurd ⟨i, z⟩ n) d _ nd (same_new nd) upd_same
    | true =>
      obtain ⟨i, rfl⟩ := hb.1 rfl
      walk_at "rd"
      refine iteB (fun c => ?_) (fun c => ?_)
      · have c := of_decide_eq_true c
        walk_at "rd"
        exact mk_xi fun d nd => e (fun j z => by cases z; omega) d _ nd (same_new nd) upd_same
      · have c := of_decide_eq_false c
        walk_at "rd"
        exact q i rfl (by omega)

theorem ne_same {v : V} {H : Hp} {Q : VK} (h : scal v v = true) (q : Q (.bl false) H) : rNe v v H Q := by
  refine ⟨h, ?_⟩
  rw [decide_eq_true rfl]
  exact q
theorem iteNeS {v : V} {A B : Prop} (b : B) : if (!decide (v = v)) = true then A else B := by
  rw [decide_eq_true rfl]
  exact b
theorem neN_same {K : PySem.W.Frag} {H : Hp} {a b : Addr} {xs : List Int} {Q : VK} (h1 : H a = some (.tup (xs.map V.int))) (h2 : H b = some (.tup (xs.map V.int))) (q : Q (.bl false) H) : rNeN K (.ref a) (.ref b) H Q :=
  use_neN (.tup (SqT.of h1) (dp_pyi xs)) (.tup (SqT.of h2) (dp_pyi xs)) (nb_tup _) (nb_tup _) fun c hc => by
    cases c with
    | false => exact q
    | true => exact absurd rfl (hc.1 rfl)
theorem eqN_same {K : PySem.W.Frag} {H : Hp} {a b : Addr} {xs : List Int} {Q : VK} (h1 : H a = some (.tup (xs.map V.int))) (h2 : H b = some (.tup (xs.map V.int))) (q : Q (.bl true) H) : rEqN K (.ref a) (.ref b) H Q :=
  use_eqN (.tup (SqT.of h1) (dp_pyi xs)) (.tup (SqT.of h2) (dp_pyi xs)) (nb_tup _) (nb_tup _) fun c hc => by
    cases c with
    | true => exact q
    | false => exact absurd (hc.2 rfl) (by intro z; cases z)
theorem dvi {i j : Int} (h : decide (V.int i = V.int j) = true) : i = j := by have := of_decide_eq_true h; injection this
theorem iteNe {v u : V} {A B : Prop} (h : v = u) (b : B) : if (!decide (v = u)) = true then A else B := by
  subst h
  exact iteNeS b
/-- how many pages hold so many records -/
def pf (p : Prt) (n : Int) : Int := (n + p.rec_ - 1) / p.rec_
def wh (p : Prt) : Int := pf p p.every
@[irreducible] def sp_pages_for (K : PySem.W.Frag) : Sp := fun vs H Q _ => ∃ (b : Addr) (p : Prt) (n : Int), vs = [.ref b, .int n] ∧ SetAt K H b p ∧ p.Ok ∧ Q (.int (pf p n)) H
theorem use_pf {K : PySem.W.Frag} {b : Addr} {p : Prt} {n : Int} {H : Hp} {Q : VK} {E : XK} (hs : SetAt K H b p) (ok : p.Ok) (q : Q (.int (pf p n)) H) : sp_pages_for K [.ref b, .int n] H Q E := by
  unfold sp_pages_for; exact ⟨b, p, n, rfl, hs, ok, q⟩
theorem b_pages_for {K : PySem.W.Frag} {fd : FuncData} (F : F_pages_for K fd) : Binds K fd P_pages_for [] := FunD.bindsN F fun _ _ _ _ _ _ us hl => match us, hl with | [_, _], _ => rfl
theorem ok_pages_for (T : Txt K mg base D) : FnOk P w K mg base CX0 1 (He.fAd K ("pages_for", none)) (D D_pages_for) P_pages_for (sp_pages_for K) := by
  refine T.d_pages_for.ok sc_pages_for (fun vs H Q E h => ?_) (fun cdv A outer s H vs Q E hr h => ?_)
  · unfold sp_pages_for at h
    first | (obtain ⟨rfl, _⟩ := h; rfl) | (obtain ⟨_, rfl, _⟩ := h; rfl) | (obtain ⟨_, _, rfl, _⟩ := h; rfl) | (obtain ⟨_, _, _, rfl, _⟩ := h; rfl) | (obtain ⟨_, _, _, _, rfl, _⟩ := h; rfl) | (obtain ⟨_, _, _, _, _, rfl, _⟩ := h; rfl) | (obtain ⟨_, _, _, _, _, _, rfl, _⟩ := h; rfl) | (obtain ⟨_, _, _, _, _, _, _, rfl, _⟩ := h; rfl) | (obtain ⟨_, _, _, _, _, _, _, _, rfl, _⟩ := h; rfl) | (obtain ⟨_, _, _, _, _, _, _, _, _, rfl, _⟩ := h; rfl) | (obtain ⟨_, _, _, _, _, _, _, _, _, _, rfl, _⟩ := h; rfl) | (obtain ⟨_, _, _, _, _, _, _, _, _, _, _, rfl, _⟩ := h; rfl)
  · refine ⟨_, PSs.nox (pss_one (ps_ret (pe_op op_fdivW (pe_op op_sub (pe_op op_add (pv 1) (pe_fldK (K := K) (pv 0) rfl)) pe_int) (pe_fldK (K := K) (pv 0) rfl)))), ?_⟩
    unfold sp_pages_for at h
    obtain ⟨b, p, n, rfl, ⟨dx, t, hb, ht⟩, ok, q⟩ := h
    have hr' := ok.r
    walk_at "rd"
    exact q

@[irreducible] def sp_record_place (K : PySem.W.Frag) : Sp := fun vs H Q _ => ∃ (b : Addr) (p : Prt) (m : Int), vs = [.ref b, .int m] ∧ SetAt K H b p ∧ p.Ok ∧ (0 ≤ m ∧ m < 1000000000000000000000000000000) ∧ ∀ t H', H t = none → Same H H' → H' t = some (.tup [.int (m % p.every / p.rec_), .int (m % p.every % p.rec_)]) → Q (.ref t) H'
theorem use_rplace {K : PySem.W.Frag} {b : Addr} {p : Prt} {m : Int} {H : Hp} {Q : VK} {E : XK} (hs : SetAt K H b p) (ok : p.Ok) (hm : 0 ≤ m ∧ m < 1000000000000000000000000000000) (q : ∀ t H', H t = none → Same H H' → H' t = some (.tup [.int (m % p.every / p.rec_), .int (m % p.every % p.rec_)]) → Q (.ref t) H') : sp_record_place K [.ref b, .int m] H Q E := by
  unfold sp_record_place; exact ⟨b, p, m, rfl, hs, ok, hm, q⟩
theorem b_record_place {K : PySem.W.Frag} {fd : FuncData} (F : F_record_place K fd) : Binds K fd P_record_place [] := FunD.bindsN F fun _ _ _ _ _ _ us hl => match us, hl with | [_, _], _ => rfl
theorem ok_record_place (T : Txt K mg base D) : FnOk P w K mg base CX0 4 (He.fAd K ("record_place", none)) (D D_record_place) P_record_place (sp_record_place K) := by
  refine T.d_record_place.ok sc_record_place (fun vs H Q E h => ?_) (fun cdv A outer s H vs Q E hr h => ?_)
  · unfold sp_record_place at h
    first | (obtain ⟨rfl, _⟩ := h; rfl) | (obtain ⟨_, rfl, _⟩ := h; rfl) | (obtain ⟨_, _, rfl, _⟩ := h; rfl) | (obtain ⟨_, _, _, rfl, _⟩ := h; rfl) | (obtain ⟨_, _, _, _, rfl, _⟩ := h; rfl) | (obtain ⟨_, _, _, _, _, rfl, _⟩ := h; rfl) | (obtain ⟨_, _, _, _, _, _, rfl, _⟩ := h; rfl) | (obtain ⟨_, _, _, _, _, _, _, rfl, _⟩ := h; rfl) | (obtain ⟨_, _, _, _, _, _, _, _, rfl, _⟩ := h; rfl) | (obtain ⟨_, _, _, _, _, _, _, _, _, rfl, _⟩ := h; rfl) | (obtain ⟨_, _, _, _, _, _, _, _, _, _, rfl, _⟩ := h; rfl) | (obtain ⟨_, _, _, _, _, _, _, _, _, _, _, rfl, _⟩ := h; rfl)
  · refine ⟨_, PSs.nox (pss_cons (ps_expr (pe_call (ok_check_settings T) (hr.mono (by decide)) rfl T.g_check_settings T.d_check_settings.kp (b_check_settings T.d_check_settings) .nil pass0 (pa_cons (pv 0) pa_nil)))
      (pss_cons (ps_expr (pe_call (ok_check_row T) (hr.mono (by decide)) rfl T.g_check_row T.d_check_row.kp (b_check_row_1 T.d_check_row).choose_spec.2 (b_check_row_1 T.d_check_row).choose_spec.1 pass0 (pa_cons (pv 1) pa_nil)))
      (pss_cons (ps_set (i := 2) sc_record_place.nd rfl (Or.inl rfl) (pe_op op_mod (pv 1) (pe_fldK (K := K) (pv 0) rfl)))
      (pss_one (ps_ret (pe_tup (pa_cons (pe_op op_fdivW (pv 2) (pe_fldK (K := K) (pv 0) rfl)) (pa_cons (pe_op op_mod (pv 2) (pe_fldK (K := K) (pv 0) rfl)) pa_nil)))))))), ?_⟩
    unfold sp_record_place at h
    obtain ⟨b, p, m, rfl, ⟨dx, t, hb, ht⟩, ok, hm, q⟩ := h
    have he := ok.e
    have hr' := ok.r
    walk_at "rd"
    refine use_check_settings hb ?_
    walk_at "rd"
    refine use_check_row ⟨by omega, by omega⟩ ?_
    walk_at "rd"
    intro r n
    generalize eG : upd _ r _ = G
    obtain ⟨s, c⟩ := gen_new n eG
    clear eG
    exact q r G n s c

@[irreducible] def sp_log_total (K : PySem.W.Frag) : Sp := fun vs H Q _ => ∃ (b : Addr) (p : Prt) (m : Int), vs = [.ref b, .int m] ∧ SetAt K H b p ∧ p.Ok ∧ (0 ≤ m ∧ m ≤ 1000000000000000000000000000000) ∧ Q (.int (pf p (m % p.every))) H
theorem use_ltotal {K : PySem.W.Frag} {b : Addr} {p : Prt} {m : Int} {H : Hp} {Q : VK} {E : XK} (hs : SetAt K H b p) (ok : p.Ok) (hm : 0 ≤ m ∧ m ≤ 1000000000000000000000000000000) (q : Q (.int (pf p (m % p.every))) H) : sp_log_total K [.ref b, .int m] H Q E := by
  unfold sp_log_total; exact ⟨b, p, m, rfl, hs, ok, hm, q⟩
theorem b_log_total {K : PySem.W.Frag} {fd : FuncData} (F : F_log_total K fd) : Binds K fd P_log_total [] := FunD.bindsN F fun _ _ _ _ _ _ us hl => match us, hl with | [_, _], _ => rfl
theorem ok_log_total (T : Txt K mg base D) : FnOk P w K mg base CX0 4 (He.fAd K ("log_total", none)) (D D_log_total) P_log_total (sp_log_total K) := by
  refine T.d_log_total.ok sc_log_total (fun vs H Q E h => ?_) (fun cdv A outer s H vs Q E hr h => ?_)
  · unfold sp_log_total at h
    first | (obtain ⟨rfl, _⟩ := h; rfl) | (obtain ⟨_, rfl, _⟩ := h; rfl) | (obtain ⟨_, _, rfl, _⟩ := h; rfl) | (obtain ⟨_, _, _, rfl, _⟩ := h; rfl) | (obtain ⟨_, _, _, _, rfl, _⟩ := h; rfl) | (obtain ⟨_, _, _, _, _, rfl, _⟩ := h; rfl) | (obtain ⟨_, _, _, _, _, _, rfl, _⟩ := h; rfl) | (obtain ⟨_, _, _, _, _, _, _, rfl, _⟩ := h; rfl) | (obtain ⟨_, _, _, _, _, _, _, _, rfl, _⟩ := h; rfl) | (obtain ⟨_, _, _, _, _, _, _, _, _, rfl, _⟩ := h; rfl) | (obtain ⟨_, _, _, _, _, _, _, _, _, _, rfl, _⟩ := h; rfl) | (obtain ⟨_, _, _, _, _, _, _, _, _, _, _, rfl, _⟩ := h; rfl)
  · refine ⟨_, PSs.nox (pss_cons (ps_expr (pe_call (ok_check_settings T) (hr.mono (by decide)) rfl T.g_check_settings T.d_check_settings.kp (b_check_settings T.d_check_settings) .nil pass0 (pa_cons (pv 0) pa_nil)))
      (pss_cons (ps_expr (pe_call (ok_check_moment T) (hr.mono (by decide)) rfl T.g_check_moment T.d_check_moment.kp (b_check_moment T.d_check_moment) .nil pass0 (pa_cons (pv 1) pa_nil)))
      (pss_one (ps_ret (pe_call (ok_pages_for T) (hr.mono (by decide)) rfl T.g_pages_for T.d_pages_for.kp (b_pages_for T.d_pages_for) .nil pass0 (pa_cons (pv 0) (pa_cons (pe_op op_mod (pv 1) (pe_fldK (K := K) (pv 0) rfl)) pa_nil))))))), ?_⟩
    unfold sp_log_total at h
    obtain ⟨b, p, m, rfl, hs, ok, hm, q⟩ := h
    obtain ⟨dx, t, hb, ht⟩ := id hs
    have he := ok.e
    walk_at "rd"
    refine use_check_settings hb ?_
    walk_at "rd"
    refine use_check_moment hm ?_
    walk_at "rd"
    refine use_pf hs ok ?_
    exact q

theorem pf_nn {p : Prt} (ok : p.Ok) {n : Int} (h : 0 ≤ n) : 0 ≤ pf p n := Int.ediv_nonneg (by have := ok.r; omega) (by have := ok.r; omega)
theorem pf_hi {p : Prt} (ok : p.Ok) {n : Int} (h : 0 ≤ n) : pf p n ≤ n := by
  have hr := ok.r
  by_cases h0 : n = 0
  · subst h0
    unfold pf
    rw [Int.ediv_eq_zero_of_lt (by omega) (by omega)]
    omega
  · refine Int.ediv_le_of_le_mul (by omega) ?_
    have h1 : (n - 1) * 1 ≤ (n - 1) * p.rec_ := Int.mul_le_mul_of_nonneg_left (by omega) (by omega)
    have h2 : n * p.rec_ = (n - 1) * p.rec_ + p.rec_ := by rw [Int.sub_mul, Int.one_mul]; omega
    omega
theorem wh_lo {p : Prt} (ok : p.Ok) : 1 ≤ wh p ∧ wh p ≤ 40 := by
  have hr := ok.r
  have he := ok.e
  exact ⟨Int.le_ediv_of_mul_le (by omega) (by omega), Int.le_trans (pf_hi ok (by omega)) (by omega)⟩
@[irreducible] def sp_log_takes (K : PySem.W.Frag) : Sp := fun vs H Q _ => ∃ (b : Addr) (p : Prt) (m : Int), vs = [.ref b, .int m] ∧ SetAt K H b p ∧ p.Ok ∧ (0 ≤ m ∧ m ≤ 1000000000000000000000000000000) ∧ Q (.int (m / p.every * wh p + pf p (m % p.every))) H
theorem use_ltakes {K : PySem.W.Frag} {b : Addr} {p : Prt} {m : Int} {H : Hp} {Q : VK} {E : XK} (hs : SetAt K H b p) (ok : p.Ok) (hm : 0 ≤ m ∧ m ≤ 1000000000000000000000000000000) (q : Q (.int (m / p.every * wh p + pf p (m % p.every))) H) : sp_log_takes K [.ref b, .int m] H Q E := by
  unfold sp_log_takes; exact ⟨b, p, m, rfl, hs, ok, hm, q⟩
theorem b_log_takes {K : PySem.W.Frag} {fd : FuncData} (F : F_log_takes K fd) : Binds K fd P_log_takes [] := FunD.bindsN F fun _ _ _ _ _ _ us hl => match us, hl with | [_, _], _ => rfl
theorem ok_log_takes (T : Txt K mg base D) : FnOk P w K mg base CX0 4 (He.fAd K ("log_takes", none)) (D D_log_takes) P_log_takes (sp_log_takes K) := by
  refine T.d_log_takes.ok sc_log_takes (fun vs H Q E h => ?_) (fun cdv A outer s H vs Q E hr h => ?_)
  · unfold sp_log_takes at h
    first | (obtain ⟨rfl, _⟩ := h; rfl) | (obtain ⟨_, rfl, _⟩ := h; rfl) | (obtain ⟨_, _, rfl, _⟩ := h; rfl) | (obtain ⟨_, _, _, rfl, _⟩ := h; rfl) | (obtain ⟨_, _, _, _, rfl, _⟩ := h; rfl) | (obtain ⟨_, _, _, _, _, rfl, _⟩ := h; rfl) | (obtain ⟨_, _, _, _, _, _, rfl, _⟩ := h; rfl) | (obtain ⟨_, _, _, _, _, _, _, rfl, _⟩ := h; rfl) | (obtain ⟨_, _, _, _, _, _, _, _, rfl, _⟩ := h; rfl) | (obtain ⟨_, _, _, _, _, _, _, _, _, rfl, _⟩ := h; rfl) | (obtain ⟨_, _, _, _, _, _, _, _, _, _, rfl, _⟩ := h; rfl) | (obtain ⟨_, _, _, _, _, _, _, _, _, _, _, rfl, _⟩ := h; rfl)
  · refine ⟨_, PSs.nox (pss_cons (ps_expr (pe_call (ok_check_settings T) (hr.mono (by decide)) rfl T.g_check_settings T.d_check_settings.kp (b_check_settings T.d_check_settings) .nil pass0 (pa_cons (pv 0) pa_nil)))
      (pss_cons (ps_expr (pe_call (ok_check_moment T) (hr.mono (by decide)) rfl T.g_check_moment T.d_check_moment.kp (b_check_moment T.d_check_moment) .nil pass0 (pa_cons (pv 1) pa_nil)))
      (pss_cons (ps_set (i := 2) sc_log_takes.nd rfl (Or.inl rfl) (pe_call (ok_pages_for T) (hr.mono (by decide)) rfl T.g_pages_for T.d_pages_for.kp (b_pages_for T.d_pages_for) .nil pass0 (pa_cons (pv 0) (pa_cons (pe_fldK (K := K) (pv 0) rfl) pa_nil))))
      (pss_one (ps_ret (pe_op op_add (pe_op op_mul (pe_op op_fdivW (pv 1) (pe_fldK (K := K) (pv 0) rfl)) (pv 2)) (pe_call (ok_pages_for T) (hr.mono (by decide)) rfl T.g_pages_for T.d_pages_for.kp (b_pages_for T.d_pages_for) .nil pass0 (pa_cons (pv 0) (pa_cons (pe_op op_mod (pv 1) (pe_fldK (K := K) (pv 0) rfl)) pa_nil))))))))), ?_⟩
    unfold sp_log_takes at h
    obtain ⟨b, p, m, rfl, hs, ok, hm, q⟩ := h
    obtain ⟨dx, t, hb, ht⟩ := id hs
    have he := ok.e
    have hw := wh_lo ok
    walk_at "rd"
    refine use_check_settings hb ?_
    walk_at "rd"
    refine use_check_moment hm ?_
    walk_at "rd"
    refine use_pf hs ok ?_
    change _ at q
    rw [show pf p p.every = wh p from rfl]
    walk_at "rd"
    refine use_pf hs ok ?_
    walk_at "rd"
    exact q

/-- the row of a taking -/
def tkr (p : Prt) (k : Int) : Int := k / wh p * p.every + k % wh p * p.rec_
@[irreducible] def sp_take_row (K : PySem.W.Frag) : Sp := fun vs H Q E => ∃ (b : Addr) (p : Prt) (v : V), vs = [.ref b, v] ∧ SetAt K H b p ∧ p.Ok ∧ Ov Any H v ∧
  (∀ k, v = .int k → 0 ≤ k → tkr p k < 1000000000000000000000000000000 → Q (.int (tkr p k)) H) ∧ ((∀ k, v = .int k → ¬ (0 ≤ k ∧ tkr p k < 1000000000000000000000000000000)) → ENum K v H E)
theorem use_tkr {K : PySem.W.Frag} {b : Addr} {p : Prt} {v : V} {H : Hp} {Q : VK} {E : XK} (hs : SetAt K H b p) (ok : p.Ok) (o : Ov Any H v) (q : ∀ k, v = .int k → 0 ≤ k → tkr p k < 1000000000000000000000000000000 → Q (.int (tkr p k)) H)
  (e : (∀ k, v = .int k → ¬ (0 ≤ k ∧ tkr p k < 1000000000000000000000000000000)) → ENum K v H E) : sp_take_row K [.ref b, v] H Q E := by unfold sp_take_row; exact ⟨b, p, v, rfl, hs, ok, o, q, e⟩
theorem b_take_row {K : PySem.W.Frag} {fd : FuncData} (F : F_take_row K fd) : Binds K fd P_take_row [] := FunD.bindsN F fun _ _ _ _ _ _ us hl => match us, hl with | [_, _], _ => rfl
theorem ok_take_row (T : Txt K mg base D) : FnOk P w K mg base (L2.CX P w) 4 (He.fAd K ("take_row", none)) (D D_take_row) P_take_row (sp_take_row K) := by
  refine T.d_take_row.ok sc_take_row (fun vs H Q E h => ?_) (fun cdv A outer s H vs Q E hr h => ?_)
  · unfold sp_take_row at h
    first | (obtain ⟨rfl, _⟩ := h; rfl) | (obtain ⟨_, rfl, _⟩ := h; rfl) | (obtain ⟨_, _, rfl, _⟩ := h; rfl) | (obtain ⟨_, _, _, rfl, _⟩ := h; rfl) | (obtain ⟨_, _, _, _, rfl, _⟩ := h; rfl) | (obtain ⟨_, _, _, _, _, rfl, _⟩ := h; rfl) | (obtain ⟨_, _, _, _, _, _, rfl, _⟩ := h; rfl) | (obtain ⟨_, _, _, _, _, _, _, rfl, _⟩ := h; rfl) | (obtain ⟨_, _, _, _, _, _, _, _, rfl, _⟩ := h; rfl) | (obtain ⟨_, _, _, _, _, _, _, _, _, rfl, _⟩ := h; rfl) | (obtain ⟨_, _, _, _, _, _, _, _, _, _, rfl, _⟩ := h; rfl) | (obtain ⟨_, _, _, _, _, _, _, _, _, _, _, rfl, _⟩ := h; rfl)
  · refine ⟨_, (pss_cons (ps_expr (pe_call (ok_check_settings T) (hr.mono (by decide)) rfl T.g_check_settings T.d_check_settings.kp (b_check_settings T.d_check_settings) .nil pass0 (pa_cons (pv 0) pa_nil)))
      (pss_cons (ps_expr (pe_callS (ok_check_count T) (hr.mono (by decide)) rfl T.g_check_count T.d_check_count.kp (b_check_count T.d_check_count) (fun σ => passAt (takes_of rfl rfl rfl rfl) σ) (pa_cons (pv 1) pa_nil)))
      (pss_cons (ps_set (i := 2) sc_take_row.nd rfl (Or.inl rfl) (pe_call (ok_pages_for T) (hr.mono (by decide)) rfl T.g_pages_for T.d_pages_for.kp (b_pages_for T.d_pages_for) .nil pass0 (pa_cons (pv 0) (pa_cons (pe_fldK (K := K) (pv 0) rfl) pa_nil))))
      (pss_cons (ps_set (i := 3) sc_take_row.nd rfl (Or.inl rfl) (pe_op op_add (pe_op op_mul (pe_op op_fdivW (pv 1) (pv 2)) (pe_fldK (K := K) (pv 0) rfl)) (pe_op op_mul (pe_op op_mod (pv 1) (pv 2)) (pe_fldK (K := K) (pv 0) rfl))))
      (pss_cons (ps_if (pt_cmpR op_ge (pv 3) (pe_globi T.i_MOST_ROW) (nomark _)) (pss_one (ps_raise rfl (takes_of rfl rfl rfl rfl) (pmk_le T.le_InvalidNumber T.li_InvalidNumber T.lt_InvalidNumber (ok_InvalidNumber___init__ T) (hr.mono (by decide)) rfl T.g_InvalidNumber (b_InvalidNumber___init__ T.d_InvalidNumber___init__) pass0 (pa_cons (pv 1) pa_nil)))) pss_nil)
      (pss_one (ps_ret (pv 3)))))))), ?_⟩
    unfold sp_take_row at h
    obtain ⟨b, p, v, rfl, hs, ok, o, q, e⟩ := h
    obtain ⟨dx, t, hb, ht⟩ := id hs
    have he := ok.e
    have hr' := ok.r
    have hw := wh_lo ok
    walk_at "rd"
    refine use_check_settings hb ?_
    walk_at "rd"
    refine use_check_count o (fun k ev h0 => ?_) (fun n => e fun i z h => n i z h.1)
    subst ev
    walk_at "rd"
    refine use_pf hs ok ?_
    rw [show pf p p.every = wh p from rfl]
    walk_at "rd"
    refine iteB (fun c => ?_) (fun c => ?_)
    · have c := of_decide_eq_true c
      walk_at "rd"
      exact mk_xi fun d nd => e (fun j z => by cases z; exact fun z => by have := z.2; unfold tkr at this; omega) d _ nd (same_new nd) upd_same
    · have c := of_decide_eq_false c
      walk_at "rd"
      exact q k rfl h0 (by unfold tkr; omega)

def TT_law_number (K : PySem.W.Frag) : (XK → Hp → VK → Prop) → Hp → VK → Prop := fun tl H Q => ∀ Q2 : VK, (∀ v H', (∀ p H'', H' p = none → Same H' H'' → H'' p = some (.lst []) → Q (.ref p) H'') → Q2 v H') →
  tl (fun cls d H' => cls = .ref (He.ga K "InvalidNumber") ∧ ∃ dd v, d = some dd ∧ H' dd = some (.xd [("number", v)]) ∧ ∀ p H'', H' p = none → Same H' H'' → H'' p = some (.lst [v]) → Q (.ref p) H'') H Q2
theorem b_law_number {K : PySem.W.Frag} {fd : FuncData} (F : F_law_number K fd) : Binds K fd P_law_number [] := FunD.bindsN F fun _ _ _ _ _ _ us hl => match us, hl with | [_], _ => rfl
theorem gv_law_number {X : Cx} (T : Txt X.K X.mg X.base D) (hgd0 : X.A.guards = some []) (hr0 : Room 1 X.A) {q : Str} {cdv : Value} : GivesTo X N_law_number "_law_number" (defScope s_law_number) (He.fAd X.K ("_law_number", none)) cdv (defBody s_law_number) "ask" q (TT_law_number X.K) := by
  intro f c' s H Q tl act hc h
  have hr : Room 0 (X.A.deeper (envOfC "_law_number" (defScope s_law_number) s.heap.objs.size (He.fAd X.K ("_law_number", none)) cdv)) := hr0.deeper _
  have hgd : (X.A.deeper (envOfC "_law_number" (defScope s_law_number) s.heap.objs.size (He.fAd X.K ("_law_number", none)) cdv)).guards = some [] := hgd0
  refine ⟨_, (pss_cons (ps_tryN rfl rfl L2.takes0 (fun W pn xe tk po => (pss_one (ps_expr (pe_ask rfl (fun Ech W2 tk2 hW => act W2 pn xe Ech _ _ tk2 hW) tk)))) (HdsN.named (i := 1) sc_law_number.nd rfl rfl ⟨rfl, by decide, Or.inl T.g_InvalidNumber⟩ (fun ex oe cl dd pn hz hf => (pss_one (ps_ret (pe_lst (pa_cons (pe_xf T.le_InvalidNumber.xf T.ln_InvalidNumber_number hz hf (pv 1)) pa_nil))))) HdsN.nil))
      (pss_one (ps_ret (pe_lst pa_nil)))), ?_⟩
  unfold TT_law_number at h
  refine ⟨_, ?_, rfl, hc, h _ ?_⟩
  · rintro cls d σ' H' hl ⟨rfl, dd, v, rfl, hd, q⟩
    obtain ⟨x1, x2, rfl⟩ : ∃ x1 x2, σ' = [x1, x2] := by
      match σ', hl with
      | [x1, x2], _ => exact ⟨x1, x2, rfl⟩
    refine ⟨true, T.xm_InvalidNumber_InvalidNumber, fun _ ex nex => ?_, fun z => by cases z⟩
    walk_at "s1"
    refine ⟨rfl, rfl, dd, _, _, rfl, hd, rfl, ?_⟩
    walk_at "rd"
    intro r n
    generalize eG : upd _ r _ = G
    obtain ⟨s, c⟩ := gen_new n eG
    clear eG
    exact q r G n s c
  · intro v H' q
    walk_at "rd"
    intro r n
    generalize eG : upd _ r _ = G
    obtain ⟨s, c⟩ := gen_new n eG
    clear eG
    exact q r G n s c

/-- pairs, as written tuples -/
def PrsL (H : Hp) : List V → List (Int × Int) → Prop
  | [], [] => True
  | x :: xs, p :: ps => (∃ a, x = .ref a ∧ H a = some (.tup [.int p.1, .int p.2])) ∧ PrsL H xs ps
  | _, _ => False
def KT (H H' : Hp) : Prop := ∀ a ys, H a = some (.tup ys) → H' a = some (.tup ys)
theorem PrsL.mono {H H' : Hp} (k : KT H H') : ∀ {xs : List V} {ps : List (Int × Int)}, PrsL H xs ps → PrsL H' xs ps
  | [], [], _ => True.intro
  | x :: xs, p :: ps, ⟨⟨a, e, h⟩, r⟩ => ⟨⟨a, e, k _ _ h⟩, PrsL.mono k r⟩
  | [], _ :: _, h => h.elim
  | _ :: _, [], h => h.elim
theorem PrsL.push {H : Hp} {a : Addr} {p : Int × Int} (ha : H a = some (.tup [.int p.1, .int p.2])) : ∀ {xs : List V} {ps : List (Int × Int)}, PrsL H xs ps → PrsL H (xs ++ [.ref a]) (ps ++ [p])
  | [], [], _ => ⟨⟨a, rfl, ha⟩, True.intro⟩
  | x :: xs, q :: ps, ⟨h, r⟩ => ⟨h, PrsL.push ha r⟩
  | [], _ :: _, h => h.elim
  | _ :: _, [], h => h.elim
theorem PrsL.len {H : Hp} : ∀ {xs : List V} {ps : List (Int × Int)}, PrsL H xs ps → xs.length = ps.length
  | [], [], _ => rfl
  | x :: xs, q :: ps, ⟨_, r⟩ => congrArg (· + 1) (PrsL.len r)
  | [], _ :: _, h => h.elim
  | _ :: _, [], h => h.elim
def prD (p : Int × Int) : PyData := .tuple [.int p.1, .int p.2]
theorem PrsL.dp {K : PySem.W.Frag} {H : Hp} : ∀ {xs : List V} {ps : List (Int × Int)}, PrsL H xs ps → DpAll K H xs (ps.map prD)
  | [], [], _ => .nil
  | x :: xs, q :: ps, ⟨⟨a, e, h⟩, r⟩ => by
    subst e
    exact .cons (.tup (SqT.of h) (.cons (.int _) (.cons (.int _) .nil))) (PrsL.dp r)
  | [], _ :: _, h => h.elim
  | _ :: _, [], h => h.elim
theorem nb_prs : ∀ ps : List (Int × Int), nbA (ps.map prD) = true ∧ PyData.depthAll (ps.map prD) ≤ 1
  | [] => ⟨rfl, by decide⟩
  | p :: ps => by
    obtain ⟨h1, h2⟩ := nb_prs ps
    constructor
    · show (nbD (prD p) && nbA (ps.map prD)) = true
      rw [h1]
      rfl
    · show max (PyData.depth (prD p)) (PyData.depthAll (ps.map prD)) ≤ 1
      have : PyData.depth (prD p) = 1 := rfl
      omega
theorem nb_prl (ps : List (Int × Int)) : NB (.list (ps.map prD)) := ⟨(nb_prs ps).1, by show PyData.depthAll (ps.map prD) + 1 ≤ 64; have := (nb_prs ps).2; omega⟩
theorem kt_same {H H' : Hp} (s : Same H H') : KT H H' := fun a ys h => s _ _ h
theorem kt_upd {H : Hp} {q : Addr} {xs : List V} {o : HO} (h : H q = some (.lst xs)) : KT H (upd H q o) := fun a ys e => by rw [upd_ne (ne_of e h (fun z => nomatch z))]; exact e
theorem KT.trans {H H1 H2 : Hp} (a : KT H H1) (b : KT H1 H2) : KT H H2 := fun c ys h => b _ _ (a _ _ h)
theorem neL_prs {K : PySem.W.Frag} {H : Hp} {a b : Addr} {xs ys : List V} {ps : List (Int × Int)} {Q : VK} (h1 : H a = some (.lst xs)) (h2 : H b = some (.lst ys)) (p1 : PrsL H xs ps) (p2 : PrsL H ys ps) (q : Q (.bl false) H) : rNeN K (.ref a) (.ref b) H Q :=
  use_neN (.lst (SqL.of h1) p1.dp) (.lst (SqL.of h2) p2.dp) (nb_prl _) (nb_prl _) fun c hc => by
    cases c with
    | false => exact q
    | true => exact absurd rfl (hc.1 rfl)
theorem neL_ints {K : PySem.W.Frag} {H : Hp} {a b : Addr} {xs : List Int} {Q : VK} (h1 : H a = some (.lst (xs.map V.int))) (h2 : H b = some (.lst (xs.map V.int))) (q : Q (.bl false) H) : rNeN K (.ref a) (.ref b) H Q :=
  use_neN (.lst (SqL.of h1) (dp_pyi xs)) (.lst (SqL.of h2) (dp_pyi xs)) (nb_list _) (nb_list _) fun c hc => by
    cases c with
    | false => exact q
    | true => exact absurd rfl (hc.1 rfl)
theorem pf_of {p : Prt} (ok : p.Ok) (q : Int) : (q % p.rec_ = 0 → pf p q = q / p.rec_) ∧ (q % p.rec_ ≠ 0 → pf p q = q / p.rec_ + 1) ∧ pf p (q + 1) = q / p.rec_ + 1 := by
  have hr := ok.r
  have h1 := Int.emod_add_mul_ediv q p.rec_
  have h2 := Int.emod_nonneg q (show p.rec_ ≠ 0 by omega)
  have h3 := Int.emod_lt_of_pos q (show 0 < p.rec_ by omega)
  have c : p.rec_ * (q / p.rec_) = (q / p.rec_) * p.rec_ := Int.mul_comm _ _
  unfold pf
  refine ⟨fun z => ?_, fun z => ?_, ?_⟩
  · rw [show q + p.rec_ - 1 = (p.rec_ - 1) + (q / p.rec_) * p.rec_ by omega, Int.add_mul_ediv_right _ _ (by omega), Int.ediv_eq_zero_of_lt (by omega) (by omega)]
    omega
  · rw [show q + p.rec_ - 1 = (q % p.rec_ - 1) + (q / p.rec_ + 1) * p.rec_ by rw [Int.add_mul, Int.one_mul]; omega, Int.add_mul_ediv_right _ _ (by omega), Int.ediv_eq_zero_of_lt (by omega) (by omega)]
    omega
  · rw [show q + 1 + p.rec_ - 1 = q % p.rec_ + (q / p.rec_ + 1) * p.rec_ by rw [Int.add_mul, Int.one_mul]; omega, Int.add_mul_ediv_right _ _ (by omega), Int.ediv_eq_zero_of_lt (by omega) (by omega)]
    omega
/-- the place of row i -/
def plP (p : Prt) (i : Int) : Int × Int := (i % p.every / p.rec_, i % p.every % p.rec_)
def plL (p : Prt) (n : Nat) : List (Int × Int) := (List.range n).map fun (j : Nat) => plP p (0 + (j : Int))
theorem plL_succ (p : Prt) (n : Nat) : plL p (n + 1) = plL p n ++ [plP p (0 + (n : Int))] := by unfold plL; rw [List.range_succ, List.map_append]; rfl
def toL (p : Prt) (n : Nat) : List Int := (List.range n).map fun (j : Nat) => pf p ((0 + (j : Int)) % p.every)
theorem toL_succ (p : Prt) (n : Nat) : toL p (n + 1) = toL p n ++ [pf p ((0 + (n : Int)) % p.every)] := by unfold toL; rw [List.range_succ, List.map_append]; rfl
/-- row i takes a page -/
def Tk (p : Prt) (i : Nat) : Bool := decide ((0 + (i : Int)) % p.every % p.rec_ = 0)
def tkL (p : Prt) (n : Nat) : List Nat := (List.range n).filter (Tk p)
theorem tkL_succ (p : Prt) (n : Nat) : tkL p (n + 1) = tkL p n ++ (if Tk p n then [n] else []) := by
  unfold tkL
  rw [List.range_succ, List.filter_append]
  congr 1
  cases h : Tk p n <;> simp [h]
def tkI (p : Prt) (n : Nat) : List Int := (tkL p n).map fun (j : Nat) => 0 + (j : Int)
theorem tkI_succ (p : Prt) (n : Nat) : tkI p (n + 1) = tkI p n ++ (if Tk p n then [0 + (n : Int)] else []) := by
  unfold tkI
  rw [tkL_succ, List.map_append]
  congr 1
  cases h : Tk p n <;> simp
theorem tkI_len (p : Prt) (n : Nat) : (tkI p n).length ≤ n := by
  unfold tkI tkL
  rw [List.length_map]
  exact Nat.le_trans (List.length_filter_le _ _) (by simp)
/-- how many takings there are ahead -/
def tkC (p : Prt) (n : Int) : Int := n / p.every * wh p + pf p (n % p.every)
theorem step_div {m e : Int} (he : 1 ≤ e) (hm : 0 ≤ m) : (m % e + 1 = e → (m + 1) / e = m / e + 1 ∧ (m + 1) % e = 0) ∧ (m % e + 1 ≠ e → (m + 1) / e = m / e ∧ (m + 1) % e = m % e + 1) := by
  have h1 := Int.emod_add_mul_ediv m e
  have h2 := Int.emod_nonneg m (show e ≠ 0 by omega)
  have h3 := Int.emod_lt_of_pos m (show 0 < e by omega)
  have c : e * (m / e) = (m / e) * e := Int.mul_comm _ _
  constructor
  · intro h
    have e1 : m + 1 = (m / e + 1) * e := by rw [Int.add_mul, Int.one_mul]; omega
    exact ⟨by rw [e1]; exact Int.mul_ediv_cancel _ (by omega), by rw [e1]; exact Int.mul_emod_left _ _⟩
  · intro h
    have e1 : m + 1 = (m % e + 1) + (m / e) * e := by omega
    constructor
    · rw [e1, Int.add_mul_ediv_right _ _ (by omega), Int.ediv_eq_zero_of_lt (by omega) (by omega)]; omega
    · rw [e1, Int.add_mul_emod_self_right]; exact Int.emod_eq_of_lt (by omega) (by omega)
theorem pf_zero {p : Prt} (ok : p.Ok) : pf p 0 = 0 := by have := (pf_of ok 0).1 (Int.zero_emod _); rw [this]; exact Int.zero_ediv _
theorem tkC_len {p : Prt} (ok : p.Ok) : ∀ n : Nat, ((tkL p n).length : Int) = tkC p (0 + (n : Int))
  | 0 => by
    unfold tkC
    rw [show (0 + ((0 : Nat) : Int)) = 0 by rfl, Int.zero_ediv, Int.zero_emod, pf_zero ok, Int.zero_mul]
    rfl
  | n + 1 => by
    have ih := tkC_len ok n
    have he := ok.e
    have st := step_div (m := 0 + (n : Int)) he.1 (by omega)
    have pq := pf_of ok ((0 + (n : Int)) % p.every)
    rw [tkL_succ, List.length_append, show (0 + ((n + 1 : Nat) : Int)) = 0 + (n : Int) + 1 by omega]
    unfold tkC at ih ⊢
    have tk : ((if Tk p n then [n] else [] : List Nat).length : Int) = pf p ((0 + (n : Int)) % p.every + 1) - pf p ((0 + (n : Int)) % p.every) := by
      unfold Tk
      by_cases z : (0 + (n : Int)) % p.every % p.rec_ = 0
      · rw [decide_eq_true z, pq.2.2, pq.1 z]
        show (1 : Int) = _
        omega
      · rw [decide_eq_false z, pq.2.2, pq.2.1 z]; simp
    by_cases z : (0 + (n : Int)) % p.every + 1 = p.every
    · obtain ⟨h1, h2⟩ := st.1 z
      rw [h1, h2, pf_zero ok, Int.add_mul, Int.one_mul]
      have : wh p = pf p ((0 + (n : Int)) % p.every + 1) := by rw [z]; rfl
      rw [this]
      rw [this] at ih
      push_cast
      omega
    · obtain ⟨h1, h2⟩ := st.2 z
      rw [h1, h2]
      push_cast
      omega
/-- the taking with a number is the row -/
theorem tkr_at {p : Prt} (ok : p.Ok) {n : Nat} (h : Tk p n = true) : tkr p (tkC p (0 + (n : Int))) = 0 + (n : Int) := by
  have he := ok.e
  have hr := ok.r
  have hw := wh_lo ok
  have z : (0 + (n : Int)) % p.every % p.rec_ = 0 := of_decide_eq_true h
  have pq := (pf_of ok ((0 + (n : Int)) % p.every)).1 z
  have h1 := Int.emod_add_mul_ediv (0 + (n : Int)) p.every
  have h2 := Int.emod_nonneg (0 + (n : Int)) (show p.every ≠ 0 by omega)
  have h3 := Int.emod_lt_of_pos (0 + (n : Int)) (show 0 < p.every by omega)
  have g1 := Int.emod_add_mul_ediv ((0 + (n : Int)) % p.every) p.rec_
  have c : p.every * ((0 + (n : Int)) / p.every) = ((0 + (n : Int)) / p.every) * p.every := Int.mul_comm _ _
  have c2 : p.rec_ * ((0 + (n : Int)) % p.every / p.rec_) = ((0 + (n : Int)) % p.every / p.rec_) * p.rec_ := Int.mul_comm _ _
  have q0 : 0 ≤ (0 + (n : Int)) % p.every / p.rec_ := Int.ediv_nonneg h2 (by omega)
  have q1 : (0 + (n : Int)) % p.every / p.rec_ < wh p := by
    have e1 : (p.every - 1) / p.rec_ + 1 = wh p := by
      have := (pf_of ok (p.every - 1)).2.2
      rw [Int.sub_add_cancel] at this
      exact this.symm
    have := Int.ediv_le_ediv (show 0 < p.rec_ by omega) (show (0 + (n : Int)) % p.every ≤ p.every - 1 by omega)
    omega
  unfold tkr tkC
  rw [pq, Int.add_comm ((0 + (n : Int)) / p.every * wh p) _, Int.add_mul_ediv_right _ _ (by omega), Int.add_mul_emod_self_right, Int.ediv_eq_zero_of_lt q0 q1, Int.emod_eq_of_lt q0 q1]
  have zz : (0 + (0 + (n : Int)) / p.every) * p.every = ((0 + (n : Int)) / p.every) * p.every := congrArg (· * p.every) (Int.zero_add _)
  omega
theorem tkr_far {p : Prt} (ok : p.Ok) (f k : Int) : tkr p (f * wh p + k) = f * p.every + tkr p k := by
  have hw := wh_lo ok
  unfold tkr
  rw [Int.add_comm (f * wh p) k, Int.add_mul_ediv_right _ _ (by omega), Int.add_mul_emod_self_right, Int.add_mul]
  omega
theorem tkL_sorted (p : Prt) : ∀ (n k : Nat) (j : Nat), (tkL p n)[k]? = some j → j < n ∧ Tk p j = true ∧ (tkL p j).length = k
  | 0, k, j, h => by simp [tkL] at h
  | n + 1, k, j, h => by
    rw [tkL_succ] at h
    by_cases hk : k < (tkL p n).length
    · rw [List.getElem?_append_left hk] at h
      obtain ⟨h1, h2, h3⟩ := tkL_sorted p n k j h
      exact ⟨by omega, h2, h3⟩
    · rw [List.getElem?_append_right (by omega)] at h
      cases ht : Tk p n with
      | false => rw [ht] at h; simp at h
      | true =>
        rw [ht] at h
        have hk2 : k - (tkL p n).length = 0 := by
          by_cases z : k - (tkL p n).length = 0
          · exact z
          · rw [List.getElem?_eq_none (by simp; omega)] at h; cases h
        rw [hk2] at h
        have : n = j := by simpa using h
        subst this
        exact ⟨by omega, ht, by omega⟩
theorem tkr_get {p : Prt} (ok : p.Ok) {n k j : Nat} (h : (tkL p n)[k]? = some j) : tkr p (k : Int) = 0 + (j : Int) := by
  obtain ⟨h1, h2, h3⟩ := tkL_sorted p n k j h
  rw [← h3, tkC_len ok]
  exact tkr_at ok h2
theorem tkL_below (p : Prt) (m : Nat) : ∀ d : Nat, (tkL p (m + d)).filter (fun j => decide (j < m)) = tkL p m
  | 0 => by
    unfold tkL
    rw [List.filter_filter]
    apply List.filter_congr
    intro x hx
    have : x < m := by simpa using hx
    simp [this]
  | d + 1 => by
    rw [← Nat.add_assoc, tkL_succ, List.filter_append, tkL_below p m d]
    have : ¬ m + d < m := by omega
    cases Tk p (m + d) <;> simp [this]
@[irreducible] def sp_law_counted : Sp := fun vs H Q _ => ∃ (a : Addr) (p : Prt), vs = [.ref a, .int 130] ∧ PdAt H a p ∧ p.Ok ∧
  ∀ t q1 q2 q3 xs H', H t = none → Same H H' → H' t = some (.tup [.ref q1, .ref q2, .ref q3]) → H' q1 = some (.lst xs) → PrsL H' xs (plL p 130) → H' q2 = some (.lst ((toL p 131).map V.int)) → H' q3 = some (.lst ((tkI p 130).map V.int)) → Q (.ref t) H'
theorem use_counted {a : Addr} {p : Prt} {H : Hp} {Q : VK} {E : XK} (h : PdAt H a p) (ok : p.Ok)
  (k : ∀ t q1 q2 q3 xs H', H t = none → Same H H' → H' t = some (.tup [.ref q1, .ref q2, .ref q3]) → H' q1 = some (.lst xs) → PrsL H' xs (plL p 130) → H' q2 = some (.lst ((toL p 131).map V.int)) → H' q3 = some (.lst ((tkI p 130).map V.int)) → Q (.ref t) H') :
  sp_law_counted [.ref a, .int 130] H Q E := by unfold sp_law_counted; exact ⟨a, p, rfl, h, ok, k⟩
theorem b_law_counted {K : PySem.W.Frag} {fd : FuncData} (F : F_law_counted K fd) : Binds K fd P_law_counted [] := FunD.bindsN F fun _ _ _ _ _ _ us hl => match us, hl with | [_, _], _ => rfl
theorem ok_law_counted (T : Txt K mg base D) : FnOk P w K mg base CX0 1 (He.fAd K ("_law_counted", none)) (D D_law_counted) P_law_counted sp_law_counted := by
  refine T.d_law_counted.ok sc_law_counted (fun vs H Q E h => ?_) (fun cdv A outer s H vs Q E hr h => ?_)
  · unfold sp_law_counted at h
    first | (obtain ⟨rfl, _⟩ := h; rfl) | (obtain ⟨_, rfl, _⟩ := h; rfl) | (obtain ⟨_, _, rfl, _⟩ := h; rfl) | (obtain ⟨_, _, _, rfl, _⟩ := h; rfl) | (obtain ⟨_, _, _, _, rfl, _⟩ := h; rfl) | (obtain ⟨_, _, _, _, _, rfl, _⟩ := h; rfl) | (obtain ⟨_, _, _, _, _, _, rfl, _⟩ := h; rfl) | (obtain ⟨_, _, _, _, _, _, _, rfl, _⟩ := h; rfl) | (obtain ⟨_, _, _, _, _, _, _, _, rfl, _⟩ := h; rfl) | (obtain ⟨_, _, _, _, _, _, _, _, _, rfl, _⟩ := h; rfl) | (obtain ⟨_, _, _, _, _, _, _, _, _, _, rfl, _⟩ := h; rfl) | (obtain ⟨_, _, _, _, _, _, _, _, _, _, _, rfl, _⟩ := h; rfl)
  · refine ⟨_, PSs.nox (pss_cons (ps_par3 (i := 2) (j := 3) (l := 4) rfl sc_law_counted.nd rfl rfl rfl (by decide) (by decide) (by decide) rfl rfl rfl (pa_cons (pe_lst pa_nil) (pa_cons (pe_lst (pa_cons pe_int pa_nil)) (pa_cons (pe_lst pa_nil) pa_nil))) (by rfl))
      (pss_cons (ps_asg (pe_tup (pa_cons pe_int (pa_cons pe_int (pa_cons pe_int pa_nil)))) (pg_tup rfl (pgs_cons (pg_name (i := 5) sc_law_counted.nd rfl (Or.inl rfl)) (pgs_cons (pg_name (i := 6) sc_law_counted.nd rfl (Or.inl rfl)) (pgs_cons (pg_name (i := 7) sc_law_counted.nd rfl (Or.inl rfl)) pgs_nil)))))
      (pss_cons (ps_for PassesOwn.never rfl (pi_range1 (by rfl) T.n_range (pa_cons (pv 1) pa_nil)) (pg_name (i := 8) sc_law_counted.nd rfl (Or.inl rfl)) (Evl.pss_cut (ps_if (pt_cmpR op_eq (pv 7) pe_int (nomark _)) (pss_cons (ps_par (i := 6) (j := 7) (by rfl) sc_law_counted.nd rfl rfl (by decide) rfl rfl (pa_cons (pe_op op_add (pv 6) pe_int) (pa_cons (pe_dget (hu_of hr) (pv 0) pe_str (fun _ _ => rfl)) pa_nil)) (by rfl))
      (pss_one (ps_expr (pe_bm PySem.F.plainAttrs_list PySem.F.slot_list_append PySem.F.type_list_append mt_append (pv 4) (pa_cons (pv 8) pa_nil))))) pss_nil)
      (pss_cons (ps_expr (pe_bm PySem.F.plainAttrs_list PySem.F.slot_list_append PySem.F.type_list_append mt_append (pv 2) (pa_cons (pe_tup (pa_cons (pe_op op_sub (pv 6) pe_int) (pa_cons (pe_op op_sub (pe_dget (hu_of hr) (pv 0) pe_str (fun _ _ => rfl)) (pv 7)) pa_nil))) pa_nil)))
      (pss_cons (ps_set (i := 7) sc_law_counted.nd rfl (Or.inl rfl) (pe_op op_sub (pv 7) pe_int))
      (Evl.pss_cut (ps_if (pt_cmpR op_eq (pe_op op_sub (pe_op op_add (pv 8) pe_int) (pv 5)) (pe_dget (hu_of hr) (pv 0) pe_str (fun _ _ => rfl)) (nomark _)) (pss_one (ps_par3 (i := 5) (j := 6) (l := 7) rfl sc_law_counted.nd rfl rfl rfl (by decide) (by decide) (by decide) rfl rfl rfl (pa_cons (pe_op op_add (pv 8) pe_int) (pa_cons pe_int (pa_cons pe_int pa_nil))) (by rfl))) pss_nil)
      (pss_one (ps_expr (pe_bm PySem.F.plainAttrs_list PySem.F.slot_list_append PySem.F.type_list_append mt_append (pv 3) (pa_cons (pv 6) pa_nil)))))))))
      (pss_one (ps_ret (pe_tup (pa_cons (pv 2) (pa_cons (pv 3) (pa_cons (pv 4) pa_nil))))))))), ?_⟩
    unfold sp_law_counted at h
    obtain ⟨a, p, rfl, ⟨la, ha, hla⟩, ok, k⟩ := h
    have he := ok.e
    have hr' := ok.r
    walk_at "rd"
    intro q1 n1
    generalize eG1 : upd _ q1 _ = G1
    obtain ⟨g1, c1⟩ := gen_new n1 eG1
    clear eG1
    walk_at "rd"
    intro q2 n2
    generalize eG2 : upd _ q2 _ = G2
    obtain ⟨g2, c2⟩ := gen_new n2 eG2
    clear eG2
    walk_at "rd"
    intro q3 n3
    generalize eG3 : upd _ q3 _ = G3
    obtain ⟨g3, c3⟩ := gen_new n3 eG3
    clear eG3
    walk_at "rd"
    intro t5 n5
    generalize eG5 : upd _ t5 _ = G5
    obtain ⟨g5, c5⟩ := gen_new n5 eG5
    clear eG5
    have f0 : Same H G5 := ((g1.trans g2).trans g3).trans g5
    have c1' := g5 _ _ (g3 _ _ (g2 _ _ c1))
    have c2' := g5 _ _ (g3 _ _ c2)
    have c3' := g5 _ _ c3
    have ha5 := f0 _ _ ha
    have n12 : q1 ≠ q2 := ne_of_none c1 n2
    have n13 : q1 ≠ q3 := ne_of_none (g2 _ _ c1) n3
    have n23 : q2 ≠ q3 := ne_of_none c2 n3
    have na1 : a ≠ q1 := ne_of_none ha n1
    have na2 : a ≠ q2 := ne_of_none (g1 _ _ ha) n2
    have na3 : a ≠ q3 := ne_of_none (g2 _ _ (g1 _ _ ha)) n3
    walk_at "rd"
    refine for_range (lo := 0) (n := 130) (fun i σ G => ∃ (xs : List V) (v : Option V), σ = [some (.ref a), some (.int 130), some (.ref q1), some (.ref q2), some (.ref q3), some (.int ((0 + (i : Int)) - (0 + (i : Int)) % p.every)), some (.int (pf p ((0 + (i : Int)) % p.every))), some (.int (pf p ((0 + (i : Int)) % p.every) * p.rec_ - (0 + (i : Int)) % p.every)), v] ∧
      SX [q1, q2, q3] G5 G ∧ G q1 = some (.lst xs) ∧ PrsL G xs (plL p i) ∧ G q2 = some (.lst ((toL p (i + 1)).map V.int)) ∧ G q3 = some (.lst ((tkI p i).map V.int))) ⟨[], none, ?_, SX.refl, c1', True.intro, ?_, c3'⟩ ?_ ?_
    · rw [show (0 + ((0 : Nat) : Int)) % p.every = 0 by simp, pf_zero ok, Int.zero_mul]
      rfl
    · rw [c2']
      unfold toL
      simp [pf_zero ok]
    · rintro i σ G hi ⟨xs, v, rfl, f, d1, pr, d2, d3⟩
      have ha' := f _ _ (by simp [na1, na2, na3]) ha5
      have pq := pf_of ok ((0 + (i : Int)) % p.every)
      have st := step_div (m := 0 + (i : Int)) he.1 (by omega)
      have md := Int.emod_lt_of_pos (0 + (i : Int)) (show 0 < p.every by omega)
      have md0 := Int.emod_nonneg (0 + (i : Int)) (show p.every ≠ 0 by omega)
      have rm := Int.emod_add_mul_ediv ((0 + (i : Int)) % p.every) p.rec_
      have rm0 := Int.emod_nonneg ((0 + (i : Int)) % p.every) (show p.rec_ ≠ 0 by omega)
      have rm1 := Int.emod_lt_of_pos ((0 + (i : Int)) % p.every) (show 0 < p.rec_ by omega)
      have cm : p.rec_ * ((0 + (i : Int)) % p.every / p.rec_) = ((0 + (i : Int)) % p.every / p.rec_) * p.rec_ := Int.mul_comm _ _
      have am : ((0 + (i : Int)) % p.every / p.rec_ + 1) * p.rec_ = ((0 + (i : Int)) % p.every / p.rec_) * p.rec_ + p.rec_ := by rw [Int.add_mul, Int.one_mul]
      have i1 : (0 + ((i + 1 : Nat) : Int)) = 0 + (i : Int) + 1 := by omega
      walk_at "rd"
      refine ⟨fun σ' H' => σ' = [some (.ref a), some (.int 130), some (.ref q1), some (.ref q2), some (.ref q3), some (.int ((0 + (i : Int)) - (0 + (i : Int)) % p.every)), some (.int ((0 + (i : Int)) % p.every / p.rec_ + 1)), some (.int (p.rec_ - (0 + (i : Int)) % p.every % p.rec_)), some (.int (0 + (i : Int)))] ∧
        SX [q3] G H' ∧ H' q3 = some (.lst ((tkI p (i + 1)).map V.int)) ∧ KT G H', ?_, ?_⟩
      · walk_at "rd"
        refine iteB (fun c => ?_) (fun c => ?_)
        · have c := dvi c
          have z : (0 + (i : Int)) % p.every % p.rec_ = 0 := by
            by_cases z : (0 + (i : Int)) % p.every % p.rec_ = 0
            · exact z
            · rw [pq.2.1 z] at c
              omega
          walk_at "rd"
          refine ⟨.inl ⟨rfl, _, SqL.of d3⟩, ?_⟩
          walk_at "rd"
          refine ⟨_, _, _, rfl, rfl, d3, szlt (by rw [List.length_map]; have := tkI_len p i; omega), ?_⟩
          refine ⟨?_, SX.refl.upd (by simp), ?_, kt_upd d3⟩
          · rw [pq.1 z, z, Int.sub_zero]
            rfl
          · rw [upd_same, tkI_succ, List.map_append]
            unfold Tk
            rw [decide_eq_true z]
            rfl
        · have c : pf p ((0 + (i : Int)) % p.every) * p.rec_ - (0 + (i : Int)) % p.every ≠ 0 := fun z => by rw [z, decide_eq_true rfl] at c; cases c
          have z : (0 + (i : Int)) % p.every % p.rec_ ≠ 0 := fun z => c (by rw [pq.1 z]; omega)
          walk_at "rd"
          refine ⟨?_, SX.refl, ?_, kt_same (Same.refl _)⟩
          · rw [pq.2.1 z, show ((0 + (i : Int)) % p.every / p.rec_ + 1) * p.rec_ - (0 + (i : Int)) % p.every = p.rec_ - (0 + (i : Int)) % p.every % p.rec_ by omega]
            rfl
          · rw [d3, tkI_succ, List.map_append]
            unfold Tk
            rw [decide_eq_false z]
            simp
      rintro σ H' ⟨rfl, f', d3', kt⟩
      have d1' := f' _ _ (by simp [n13]) d1
      have d2' := f' _ _ (by simp [n23]) d2
      have ha'' := f' _ _ (by simp [na3]) ha'
      have pr' := pr.mono kt
      walk_at "rd"
      refine ⟨.inl ⟨rfl, _, SqL.of d1'⟩, ?_⟩
      walk_at "rd"
      intro t6 n6
      generalize eG6 : upd _ t6 _ = G6
      obtain ⟨g6, c6⟩ := gen_new n6 eG6
      clear eG6
      have d16 := g6 _ _ d1'
      have ha6 := g6 _ _ ha''
      refine ⟨_, _, _, rfl, rfl, d16, szlt (by have := pr.len; unfold plL at this; rw [List.length_map, List.length_range] at this; omega), ?_⟩
      generalize e7 : upd G6 q1 _ = G7
      obtain ⟨g7, c7⟩ := gen_st e7
      have kt7 : KT G6 G7 := by rw [← e7]; exact kt_upd d16
      clear e7
      have pr7 : PrsL G7 (xs ++ [.ref t6]) (plL p (i + 1)) := by
        rw [plL_succ]
        refine ((pr'.mono (kt_same g6)).mono kt7).push (kt7 _ _ ?_)
        rw [c6]
        unfold plP
        simp only [Option.some.injEq, HO.tup.injEq, List.cons.injEq, V.int.injEq, and_true]
        constructor <;> omega
      have ha7 := g7 _ _ na1 ha6
      have d27 := g7 _ _ n12.symm (g6 _ _ d2')
      have d37 := g7 _ _ n13.symm (g6 _ _ d3')
      walk_at "rd"
      refine ⟨fun σ' H'' => H'' = G7 ∧ σ' = [some (.ref a), some (.int 130), some (.ref q1), some (.ref q2), some (.ref q3), some (.int ((0 + ((i + 1 : Nat) : Int)) - (0 + ((i + 1 : Nat) : Int)) % p.every)), some (.int (pf p ((0 + ((i + 1 : Nat) : Int)) % p.every))), some (.int (pf p ((0 + ((i + 1 : Nat) : Int)) % p.every) * p.rec_ - (0 + ((i + 1 : Nat) : Int)) % p.every)), some (.int (0 + (i : Int)))], ?_, ?_⟩
      · walk_at "rd"
        refine iteB (fun c => ?_) (fun c => ?_)
        · have c := dvi c
          obtain ⟨h1, h2⟩ := st.1 (by omega)
          walk_at "rd"
          rw [i1, h2, pf_zero ok, Int.zero_mul]
          simp only [List.set_cons_succ, List.set_cons_zero, List.cons.injEq, Option.some.injEq, V.int.injEq, V.ref.injEq, and_true, true_and]
          omega
        · have c : (0 + (i : Int)) % p.every + 1 ≠ p.every := fun z => by
            rw [decide_eq_true (congrArg V.int (show (0 + (i : Int)) + 1 - (0 + (i : Int) - (0 + (i : Int)) % p.every) = p.every by omega))] at c
            cases c
          obtain ⟨h1, h2⟩ := st.2 c
          walk_at "rd"
          rw [i1, h2, pq.2.2]
          simp only [List.set_cons_succ, List.set_cons_zero, List.cons.injEq, Option.some.injEq, V.int.injEq, V.ref.injEq, and_true, true_and]
          omega
      rintro σ H'' ⟨rfl, rfl⟩
      walk_at "rd"
      refine ⟨.inl ⟨rfl, _, SqL.of d27⟩, ?_⟩
      walk_at "rd"
      refine ⟨_, _, _, rfl, rfl, d27, szlt (by rw [List.length_map]; unfold toL; rw [List.length_map, List.length_range]; omega), ?_⟩
      refine ⟨xs ++ [.ref t6], some (.int (0 + (i : Int))), rfl, ?_, ?_, pr7.mono (kt_upd d27), ?_, ?_⟩
      · exact (((f.trans (f'.mono (by simp))).trans g6.sx).trans (g7.sx (by simp))).upd (by simp)
      · rw [upd_ne n12]
        exact c7
      · rw [upd_same, toL_succ p (i + 1), List.map_append]
        rfl
      · rw [upd_ne n23.symm]
        exact d37
    · rintro σ G ⟨xs, v, rfl, f, d1, pr, d2, d3⟩
      walk_at "rd"
      intro t6 n6
      generalize eG6 : upd _ t6 _ = G6
      obtain ⟨g6, c6⟩ := gen_new n6 eG6
      clear eG6
      have fz : Same H G := fun b o ho => f _ _ (by simp [ne_of_none ho n1, ne_of_none (g1 _ _ ho) n2, ne_of_none (g2 _ _ (g1 _ _ ho)) n3]) (f0 _ _ ho)
      exact k t6 q1 q2 q3 xs G6 (fz.free n6) (fz.trans g6) c6 (g6 _ _ d1) (pr.mono (kt_same g6)) (g6 _ _ d2) (g6 _ _ d3)

theorem tkC_far {p : Prt} (ok : p.Ok) (f m : Int) : (f * p.every + m) / p.every * wh p + pf p ((f * p.every + m) % p.every) = f * wh p + tkC p m := by
  have he := ok.e
  unfold tkC
  rw [Int.add_comm (f * p.every) m, Int.add_mul_ediv_right _ _ (by omega), Int.add_mul_emod_self_right, Int.add_mul]
  omega
theorem cnt_below {p : Prt} (ok : p.Ok) (m : Nat) (h : m ≤ 130) : ((((tkL p 130).filter fun j => decide (j < m)).length : Nat) : Int) = tkC p (0 + (m : Int)) := by
  have := tkL_below p m (130 - m)
  rw [show m + (130 - m) = 130 by omega] at this
  rw [this]
  exact tkC_len ok m
theorem wide_eq {p : Prt} (ok : p.Ok) : ((((tkL p 130).filter fun j => decide (j < p.every.toNat)).length : Nat) : Int) = wh p := by
  have he := ok.e
  rw [cnt_below ok _ (by omega), show (0 + ((p.every.toNat : Nat) : Int)) = p.every by omega]
  unfold tkC
  rw [Int.ediv_self (by omega), Int.emod_self, pf_zero ok]
  omega
theorem take_flt {α : Type} (f : α → Bool) (xs : List α) (i : Nat) (x : α) (h : xs[i]? = some x) : (xs.take (i + 1)).filter f = (xs.take i).filter f ++ (if f x then [x] else []) := by
  rw [List.take_succ, h, List.filter_append]
  congr 1
  cases hf : f x <;> simp [hf]
def szD (p : Prt) (f : Int) (n : Nat) : List Int := (List.range n).map fun (j : Nat) => f * wh p + tkC p (0 + (j : Int))
theorem szD_succ (p : Prt) (f : Int) (n : Nat) : szD p f (n + 1) = szD p f n ++ [f * wh p + tkC p (0 + (n : Int))] := by unfold szD; rw [List.range_succ, List.map_append]; rfl
@[irreducible] def sp_law_right (K : PySem.W.Frag) : Sp := fun vs H Q _ => ∃ (a b : Addr) (p : Prt) (t : Int), vs = [.ref a, .ref b, .int t] ∧ PdAt H a p ∧ SetAt K H b p ∧ p.Ok ∧ (0 ≤ t ∧ t * p.every + 140 ≤ 1000000000000000000000000000000) ∧ ∀ H', Same H H' → Q (.bl true) H'
theorem use_right {K : PySem.W.Frag} {a b : Addr} {p : Prt} {t : Int} {H : Hp} {Q : VK} {E : XK} (hp : PdAt H a p) (hs : SetAt K H b p) (ok : p.Ok) (ht : 0 ≤ t ∧ t * p.every + 140 ≤ 1000000000000000000000000000000) (k : ∀ H', Same H H' → Q (.bl true) H') : sp_law_right K [.ref a, .ref b, .int t] H Q E := by
  unfold sp_law_right; exact ⟨a, b, p, t, rfl, hp, hs, ok, ht, k⟩
theorem b_law_right {K : PySem.W.Frag} {fd : FuncData} (F : F_law_right K fd) : Binds K fd P_law_right [] := FunD.bindsN F fun _ _ _ _ _ _ us hl => match us, hl with | [_, _, _], _ => rfl
theorem ok_law_right (T : Txt K mg base D) : FnOk P w K mg base CX0 5 (He.fAd K ("_law_right", none)) (D D_law_right) P_law_right (sp_law_right K) := by
  refine T.d_law_right.ok sc_law_right (fun vs H Q E h => ?_) (fun cdv A outer s H vs Q E hr h => ?_)
  · unfold sp_law_right at h
    first | (obtain ⟨rfl, _⟩ := h; rfl) | (obtain ⟨_, rfl, _⟩ := h; rfl) | (obtain ⟨_, _, rfl, _⟩ := h; rfl) | (obtain ⟨_, _, _, rfl, _⟩ := h; rfl) | (obtain ⟨_, _, _, _, rfl, _⟩ := h; rfl) | (obtain ⟨_, _, _, _, _, rfl, _⟩ := h; rfl) | (obtain ⟨_, _, _, _, _, _, rfl, _⟩ := h; rfl) | (obtain ⟨_, _, _, _, _, _, _, rfl, _⟩ := h; rfl) | (obtain ⟨_, _, _, _, _, _, _, _, rfl, _⟩ := h; rfl) | (obtain ⟨_, _, _, _, _, _, _, _, _, rfl, _⟩ := h; rfl) | (obtain ⟨_, _, _, _, _, _, _, _, _, _, rfl, _⟩ := h; rfl) | (obtain ⟨_, _, _, _, _, _, _, _, _, _, _, rfl, _⟩ := h; rfl)
  · refine ⟨_, PSs.nox (pss_cons (ps_asg (pe_call (ok_law_counted T) (hr.mono (by decide)) rfl T.g_law_counted T.d_law_counted.kp (b_law_counted T.d_law_counted) .nil pass0 (pa_cons (pv 0) (pa_cons pe_int pa_nil))) (pg_tup rfl (pgs_cons (pg_name (i := 3) sc_law_right.nd rfl (Or.inl rfl)) (pgs_cons (pg_name (i := 4) sc_law_right.nd rfl (Or.inl rfl)) (pgs_cons (pg_name (i := 5) sc_law_right.nd rfl (Or.inr rfl)) pgs_nil)))))
      (pss_cons (ps_set (i := 6) sc_law_right.nd rfl (Or.inr rfl) (pe_callB (call_lenK (K := K)) (by rfl) T.n_len (by decide +kernel) (pa_cons (pe_lc (own := [("row", 10)]) rfl sc_law_right.nd (pi_list (pv 5)) (blkOk_by (N := N_law_right) (sc := defScope s_law_right) (by decide +kernel)) (fun _ _ _ _ _ => (pg_name (i := 10) sc_law_right.nd rfl (Or.inl rfl))) (fun _ _ _ _ _ => (pts_one (pt_cmpR op_lt (pv 10) (pe_dget (hu_of hr) (pv 0) pe_str (fun _ _ => rfl)) (nomark _)))) (fun _ _ _ _ _ => (pv 10))) pa_nil)))
      (pss_cons (ps_for PassesOwn.never rfl (pi_tup (pe_tup (pa_cons pe_int (pa_cons (pv 2) pa_nil)))) (pg_name (i := 7) sc_law_right.nd rfl (Or.inr rfl)) (pss_cons (ps_set (i := 8) sc_law_right.nd rfl (Or.inr rfl) (pe_op op_mul (pv 7) (pe_dget (hu_of hr) (pv 0) pe_str (fun _ _ => rfl))))
      (pss_cons (ps_if (pt_cmpR (op_neNK (K := K) hr.units) (pe_lc (own := [("row", 10)]) rfl sc_law_right.nd (pi_range1 (by rfl) T.n_range (pa_cons pe_int pa_nil)) (blkOk_by (N := N_law_right) (sc := defScope s_law_right) (by decide +kernel)) (fun _ _ _ _ _ => (pg_name (i := 10) sc_law_right.nd rfl (Or.inl rfl))) (fun _ _ _ _ _ => pts_nil) (fun _ _ _ _ _ => (pe_call (ok_record_place T) (hr.mono (by decide)) rfl T.g_record_place T.d_record_place.kp (b_record_place T.d_record_place) .nil pass0 (pa_cons (pv 1) (pa_cons (pe_op op_add (pv 8) (pv 10)) pa_nil))))) (pv 3) (nomark _)) (pss_one (ps_ret pe_bl)) pss_nil)
      (pss_cons (ps_if (pt_cmpR (op_neNK (K := K) hr.units) (pe_lc (own := [("moment", 11)]) rfl sc_law_right.nd (pi_range1 (by rfl) T.n_range (pa_cons pe_int pa_nil)) (blkOk_by (N := N_law_right) (sc := defScope s_law_right) (by decide +kernel)) (fun _ _ _ _ _ => (pg_name (i := 11) sc_law_right.nd rfl (Or.inl rfl))) (fun _ _ _ _ _ => pts_nil) (fun _ _ _ _ _ => (pe_call (ok_log_total T) (hr.mono (by decide)) rfl T.g_log_total T.d_log_total.kp (b_log_total T.d_log_total) .nil pass0 (pa_cons (pv 1) (pa_cons (pe_op op_add (pv 8) (pv 11)) pa_nil))))) (pv 4) (nomark _)) (pss_one (ps_ret pe_bl)) pss_nil)
      (pss_cons (ps_setLc (i := 9) (own := [("moment", 11)]) rfl sc_law_right.nd rfl rfl (sw_true rfl rfl rfl (by decide +kernel)) (pi_range1 (by rfl) T.n_range (pa_cons pe_int pa_nil)) (blkOk_by (N := N_law_right) (sc := defScope s_law_right) (by decide +kernel)) (fun _ _ _ _ _ => (pg_name (i := 11) sc_law_right.nd rfl (Or.inr rfl))) (fun _ _ _ _ _ => pts_nil) (fun _ _ _ _ _ => (pe_op op_add (pe_op op_mul (pv 7) (pv 6)) (pe_callB (call_lenK (K := K)) (by rfl) T.n_len (by decide +kernel) (pa_cons (pe_lc (own := [("row", 10)]) rfl sc_law_right.nd (pi_listK (K := K) (pv 5)) (blkOk_by (N := N_law_right) (by kernel_rfl)) (fun _ _ _ _ _ => (pg_name (i := 10) sc_law_right.nd rfl (Or.inl rfl))) (fun _ _ _ _ _ => (pts_one (pt_cmpR op_lt (pv 10) (pv 11) (nomark _)))) (fun _ _ _ _ _ => (pv 10))) pa_nil)))))
      (pss_cons (ps_if (pt_cmpR (op_neNK (K := K) hr.units) (pe_lc (own := [("moment", 11)]) rfl sc_law_right.nd (pi_range1 (by rfl) T.n_range (pa_cons pe_int pa_nil)) (blkOk_by (N := N_law_right) (sc := defScope s_law_right) (by decide +kernel)) (fun _ _ _ _ _ => (pg_name (i := 11) sc_law_right.nd rfl (Or.inl rfl))) (fun _ _ _ _ _ => pts_nil) (fun _ _ _ _ _ => (pe_call (ok_log_takes T) (hr.mono (by decide)) rfl T.g_log_takes T.d_log_takes.kp (b_log_takes T.d_log_takes) .nil pass0 (pa_cons (pv 1) (pa_cons (pe_op op_add (pv 8) (pv 11)) pa_nil))))) (pv 9) (nomark _)) (pss_one (ps_ret pe_bl)) pss_nil)
      (pss_one (ps_if (pt_cmpR (op_neNK (K := K) hr.units) (pe_lc (own := [("k", 12)]) rfl sc_law_right.nd (pi_range1 (by rfl) T.n_range (pa_cons (pe_callB (call_lenK (K := K)) (by rfl) T.n_len (by decide +kernel) (pa_cons (pv 5) pa_nil)) pa_nil)) (blkOk_by (N := N_law_right) (sc := defScope s_law_right) (by decide +kernel)) (fun _ _ _ _ _ => (pg_name (i := 12) sc_law_right.nd rfl (Or.inl rfl))) (fun _ _ _ _ _ => pts_nil) (fun _ _ _ _ _ => (pe_call (ok_take_row T) (hr.mono (by decide)) rfl T.g_take_row T.d_take_row.kp (b_take_row T.d_take_row) .nil passF (pa_cons (pv 1) (pa_cons (pe_op op_add (pe_op op_mul (pv 7) (pv 6)) (pv 12)) pa_nil))))) (pe_lc (own := [("row", 10)]) rfl sc_law_right.nd (pi_list (pv 5)) (blkOk_by (N := N_law_right) (sc := defScope s_law_right) (by decide +kernel)) (fun _ _ _ _ _ => (pg_name (i := 10) sc_law_right.nd rfl (Or.inl rfl))) (fun _ _ _ _ _ => pts_nil) (fun _ _ _ _ _ => (pe_op op_add (pv 8) (pv 10)))) (nomark _)) (pss_one (ps_ret pe_bl)) pss_nil))))))))
      (pss_one (ps_ret pe_bl))))), ?_⟩
    unfold sp_law_right at h
    obtain ⟨a, b, p, t, rfl, hp, hs, ok, ht, k⟩ := h
    have he := ok.e
    have hw := wh_lo ok
    walk_at "rd"
    refine use_counted hp ok fun q0 q1 q2 q3 xs G0 n0 g0 c0 c1 pr c2 c3 => ?_
    have hs0 := hs.same g0
    have hp0 := hp.same g0
    obtain ⟨la, ha0, hla0⟩ := id hp0
    walk_at "rd"
    intro D1 m1
    have w0 : ∀ {q : Addr} {o : HO}, G0 q = some o → q ≠ D1 := fun h => ne_of_none h m1
    refine lc_list (K := K) (a := q3) (xs := (tkI p 130).map V.int) (fun i G => SX [D1] G0 G ∧ G D1 = some (.lst (((((tkL p 130).take i).filter fun j => decide (j < p.every.toNat)).map fun (j : Nat) => 0 + (j : Int)).map V.int))) ⟨SX.refl.mut m1, upd_same⟩ ?_ ?_ ?_
    · rintro i G _ ⟨f, _⟩
      exact SqL.of (f _ _ (by simp [w0 c3]) c3)
    · rintro i x G hx ⟨f, hD⟩
      obtain ⟨z, hz, rfl⟩ := map_some hx
      unfold tkI at hz
      rw [List.getElem?_map] at hz
      obtain ⟨j, hj, rfl⟩ := Option.map_eq_some_iff.mp hz
      have haG := f _ _ (by simp [w0 ha0]) ha0
      refine ⟨rfl, ?_⟩
      walk_at "rd"
      refine iteB (fun c => ?_) (fun c => ?_)
      · have c := of_decide_eq_true c
        walk_at "rd"
        refine ⟨_, hD, szlt ?_, f.upd (by simp), ?_⟩
        · rw [List.length_map, List.length_map]
          refine Nat.le_trans (List.length_filter_le _ _) (Nat.le_trans (by rw [List.length_take]; exact Nat.min_le_right _ _) ?_)
          have := tkI_len p 130
          unfold tkI at this
          rw [List.length_map] at this
          omega
        · rw [upd_same, take_flt _ _ _ _ hj, decide_eq_true (show j < p.every.toNat by omega), List.map_append, List.map_append]
          rfl
      · have c := of_decide_eq_false c
        refine ⟨f, ?_⟩
        rw [hD, take_flt _ _ _ _ hj, decide_eq_false (show ¬ j < p.every.toNat by omega)]
        simp
    rintro G1 ⟨f1, hD1⟩
    rw [List.take_of_length_le (by simp [tkI])] at hD1
    have s1 : Same G0 G1 := fun b o ho => f1 _ _ (by simp [w0 ho]) ho
    walk_at "rd"
    rw [List.length_map, List.length_map, wide_eq ok]
    intro tt n2
    generalize eG2 : upd _ tt _ = G2
    obtain ⟨g2, c4⟩ := gen_new n2 eG2
    clear eG2
    have s2 : Same G0 G2 := s1.trans g2
    have hs2 := hs0.same s2
    have hp2 := hp0.same s2
    have ha2 := s2 _ _ ha0
    have d1 := s2 _ _ c1
    have d2 := s2 _ _ c2
    have d3 := s2 _ _ c3
    have pr2 := pr.mono (kt_same s2)
    walk_at "rd"
    refine for_tup (K := K) (a := tt) (xs := ([0, t] : List Int).map V.int) (fun i σ G => ∃ v7 v8 v9 v10 v11 v12, σ = [some (.ref a), some (.ref b), some (.int t), some (.ref q1), some (.ref q2), some (.ref q3), some (.int (wh p)), v7, v8, v9, v10, v11, v12] ∧ Same G2 G) ⟨_, _, _, _, _, _, rfl, Same.refl _⟩ ?_ ?_ ?_
    · rintro i σ G _ ⟨v7, v8, v9, v10, v11, v12, rfl, f⟩
      exact SqT.of (f _ _ c4)
    · rintro i x σ G hx ⟨v7, v8, v9, v10, v11, v12, rfl, f⟩
      obtain ⟨F, hF, rfl⟩ := map_some hx
      have hF2 : F = 0 ∨ F = t := by
        have := List.mem_of_getElem? hF
        simpa using this
      have hF0 : 0 ≤ F ∧ 0 ≤ F * p.every ∧ F * p.every + 140 ≤ 1000000000000000000000000000000 := by
        rcases hF2 with rfl | rfl
        · omega
        · exact ⟨ht.1, Int.mul_nonneg ht.1 (by omega), ht.2⟩
      have haG := f _ _ ha2
      have hsG := hs2.same f
      have e1 := f _ _ d1
      have e2 := f _ _ d2
      have e3 := f _ _ d3
      have prG := pr2.mono (kt_same f)
      walk_at "rd"
      intro D2 m2
      have w2 : ∀ {q : Addr} {o : HO}, G q = some o → q ≠ D2 := fun h => ne_of_none h m2
      refine lc_range (lo := 0) (n := 130) (fun j G' => ∃ ys : List V, SX [D2] G G' ∧ G' D2 = some (.lst ys) ∧ PrsL G' ys (plL p j)) ⟨[], SX.refl.mut m2, upd_same, True.intro⟩ ?_ ?_
      · rintro j G' hj ⟨ys, f', hD, pr'⟩
        have s' : Same G G' := fun b o ho => f' _ _ (by simp [w2 ho]) ho
        refine ⟨rfl, ?_⟩
        walk_at "rd"
        refine use_rplace (hsG.same s') ok (by omega) fun u G3 n3 g3 c3 => ?_
        have hD3 := g3 _ _ hD
        have eq1 : (F * p.every + (0 + (j : Int))) % p.every = (0 + (j : Int)) % p.every := by rw [Int.add_comm, Int.add_mul_emod_self_right]
        rw [eq1] at c3
        refine ⟨_, hD3, szlt (by have := pr'.len; unfold plL at this; rw [List.length_map, List.length_range] at this; omega), ys ++ [.ref u], (f'.trans g3.sx).upd (by simp), upd_same, ?_⟩
        rw [plL_succ]
        exact ((pr'.mono (kt_same g3)).mono (kt_upd hD3)).push (by rw [upd_ne (ne_of c3 hD3 (fun z => nomatch z))]; exact c3)
      · rintro G3 ⟨ys, f3, hD3, pr3⟩
        have s3 : Same G G3 := fun b o ho => f3 _ _ (by simp [w2 ho]) ho
        walk_at "rd"
        refine neL_prs hD3 (s3 _ _ e1) pr3 (prG.mono (kt_same s3)) ?_
        walk_at "rd"
        intro D4 m4
        have w4 : ∀ {q : Addr} {o : HO}, G3 q = some o → q ≠ D4 := fun h => ne_of_none h m4
        refine lc_range (lo := 0) (n := 131) (fun j G' => SX [D4] G3 G' ∧ G' D4 = some (.lst ((toL p j).map V.int))) ⟨SX.refl.mut m4, upd_same⟩ ?_ ?_
        · rintro j G' hj ⟨f', hD⟩
          have s' : Same G3 G' := fun b o ho => f' _ _ (by simp [w4 ho]) ho
          refine ⟨rfl, ?_⟩
          walk_at "rd"
          refine use_ltotal ((hsG.same s3).same s') ok (by omega) ?_
          have eq1 : (F * p.every + (0 + (j : Int))) % p.every = (0 + (j : Int)) % p.every := by rw [Int.add_comm, Int.add_mul_emod_self_right]
          rw [eq1]
          refine ⟨_, hD, szlt (by rw [List.length_map]; unfold toL; rw [List.length_map, List.length_range]; omega), f'.upd (by simp), ?_⟩
          rw [upd_same, toL_succ, List.map_append]
          rfl
        · rintro G4 ⟨f4, hD4⟩
          have s4 : Same G3 G4 := fun b o ho => f4 _ _ (by simp [w4 ho]) ho
          walk_at "rd"
          refine neL_ints hD4 (s4 _ _ (s3 _ _ e2)) ?_
          walk_at "rd"
          have s34 : Same G G4 := s3.trans s4
          have e3' := s34 _ _ e3
          have hs4 := hsG.same s34
          intro D5 m5
          have w5 : ∀ {q : Addr} {o : HO}, G4 q = some o → q ≠ D5 := fun h => ne_of_none h m5
          refine lc_range (lo := 0) (n := 131) (fun j G' => SX [D5] G4 G' ∧ G' D5 = some (.lst ((szD p F j).map V.int))) ⟨SX.refl.mut m5, upd_same⟩ ?_ ?_
          · rintro j G' hj ⟨f', hD⟩
            have s' : Same G4 G' := fun b o ho => f' _ _ (by simp [w5 ho]) ho
            have e3'' := s' _ _ e3'
            refine ⟨rfl, ?_⟩
            walk_at "rd"
            intro D6 m6
            have w6 : ∀ {q : Addr} {o : HO}, G' q = some o → q ≠ D6 := fun h => ne_of_none h m6
            refine lc_list (K := K) (a := q3) (xs := (tkI p 130).map V.int) (fun i G5 => SX [D6] G' G5 ∧ G5 D6 = some (.lst (((((tkL p 130).take i).filter fun (r : Nat) => decide (r < j)).map fun (r : Nat) => 0 + (r : Int)).map V.int))) ⟨SX.refl.mut m6, upd_same⟩ ?_ ?_ ?_
            · rintro i G5 _ ⟨fy, _⟩
              exact SqL.of (fy _ _ (by simp [w6 e3'']) e3'')
            · rintro i x G5 hx ⟨fy, hD6⟩
              obtain ⟨z, hz, rfl⟩ := map_some hx
              unfold tkI at hz
              rw [List.getElem?_map] at hz
              obtain ⟨r, hr2, rfl⟩ := Option.map_eq_some_iff.mp hz
              refine ⟨rfl, ?_⟩
              walk_at "rd"
              refine iteB (fun c => ?_) (fun c => ?_)
              · have c := of_decide_eq_true c
                walk_at "rd"
                refine ⟨_, hD6, szlt ?_, fy.upd (by simp), ?_⟩
                · rw [List.length_map, List.length_map]
                  refine Nat.le_trans (List.length_filter_le _ _) (Nat.le_trans (by rw [List.length_take]; exact Nat.min_le_right _ _) ?_)
                  have := tkI_len p 130
                  unfold tkI at this
                  rw [List.length_map] at this
                  omega
                · rw [upd_same, take_flt _ _ _ _ hr2, decide_eq_true (show r < j by omega), List.map_append, List.map_append]
                  rfl
              · have c := of_decide_eq_false c
                refine ⟨fy, ?_⟩
                rw [hD6, take_flt _ _ _ _ hr2, decide_eq_false (show ¬ r < j by omega)]
                simp
            · rintro G5 ⟨fy, hD6⟩
              have sy : Same G' G5 := fun b o ho => fy _ _ (by simp [w6 ho]) ho
              have hD5 := sy _ _ hD
              rw [List.take_of_length_le (by simp [tkI])] at hD6
              walk_at "rd"
              refine ⟨_, hD5, szlt (by rw [List.length_map]; unfold szD; rw [List.length_map, List.length_range]; omega), (f'.trans sy.sx).upd (by simp), ?_⟩
              rw [upd_same, szD_succ, List.map_append]
              show some (HO.lst (_ ++ [V.int (F * wh p + ((List.length _ : Nat) : Int))])) = _
              rw [List.length_map, List.length_map, cnt_below ok j (by omega)]
              rfl
          · rintro G5 ⟨f5, hD5⟩
            have s5 : Same G4 G5 := fun b o ho => f5 _ _ (by simp [w5 ho]) ho
            walk_at "rd"
            intro D7 m7
            have w7 : ∀ {q : Addr} {o : HO}, G5 q = some o → q ≠ D7 := fun h => ne_of_none h m7
            refine lc_range (lo := 0) (n := 131) (fun j G' => SX [D7] G5 G' ∧ G' D7 = some (.lst ((szD p F j).map V.int))) ⟨SX.refl.mut m7, upd_same⟩ ?_ ?_
            · rintro j G' hj ⟨f', hD⟩
              have s' : Same G5 G' := fun b o ho => f' _ _ (by simp [w7 ho]) ho
              refine ⟨rfl, ?_⟩
              walk_at "rd"
              refine use_ltakes ((hs4.same s5).same s') ok (by omega) ?_
              rw [tkC_far ok]
              refine ⟨_, hD, szlt (by rw [List.length_map]; unfold szD; rw [List.length_map, List.length_range]; omega), f'.upd (by simp), ?_⟩
              rw [upd_same, szD_succ, List.map_append]
              rfl
            · rintro G7 ⟨f7, hD7⟩
              have s7 : Same G5 G7 := fun b o ho => f7 _ _ (by simp [w7 ho]) ho
              walk_at "rd"
              refine neL_ints hD7 (s7 _ _ hD5) ?_
              have s47 : Same G4 G7 := s5.trans s7
              have e37 := s47 _ _ e3'
              have hs7 := hs4.same s47
              have ltm : ((tkI p 130).map V.int).length ≤ 130 := by rw [List.length_map]; exact tkI_len p 130
              walk_at "rd"
              intro D8 m8
              have w8 : ∀ {q : Addr} {o : HO}, G7 q = some o → q ≠ D8 := fun h => ne_of_none h m8
              have lt' : (tkI p 130).length = (tkL p 130).length := by unfold tkI; rw [List.length_map]
              have lt1 := tkI_len p 130
              refine lc_range (lo := 0) (n := Int.toNat _) (fun j G' => SX [D8] G7 G' ∧ G' D8 = some (.lst ((((tkL p 130).take j).map fun (r : Nat) => F * p.every + (0 + (r : Int))).map V.int))) ⟨SX.refl.mut m8, upd_same⟩ ?_ ?_
              · rintro j G' hj ⟨f', hD⟩
                rw [List.length_map] at hj
                have s' : Same G7 G' := fun b o ho => f' _ _ (by simp [w8 ho]) ho
                have hj2 : j < (tkL p 130).length := by omega
                have hr2 := List.getElem?_eq_getElem hj2
                have tg := tkr_get ok hr2
                have tb := (tkL_sorted p 130 j _ hr2).1
                have te : tkr p (F * wh p + (0 + (j : Int))) = F * p.every + (0 + (((tkL p 130)[j] : Nat) : Int)) := by rw [tkr_far ok, show (0 + (j : Int)) = (j : Int) by omega, tg]
                have fw : 0 ≤ F * wh p := Int.mul_nonneg hF0.1 (by omega)
                refine ⟨rfl, ?_⟩
                walk_at "rd"
                refine use_tkr (hs7.same s') ok (.int _) (fun k' ek h0 h1 => ?_) (fun n => absurd ⟨by omega, by rw [te]; omega⟩ (n _ rfl))
                cases ek
                rw [te]
                refine ⟨_, hD, szlt (by rw [List.length_map, List.length_map, List.length_take]; omega), f'.upd (by simp), ?_⟩
                rw [upd_same, List.take_succ, hr2, List.map_append, List.map_append]
                rfl
              · rintro G8 ⟨f8, hD8⟩
                rw [List.length_map, List.take_of_length_le (by omega)] at hD8
                have s8 : Same G7 G8 := fun b o ho => f8 _ _ (by simp [w8 ho]) ho
                have e38 := s8 _ _ e37
                walk_at "rd"
                intro D9 m9
                have w9 : ∀ {q : Addr} {o : HO}, G8 q = some o → q ≠ D9 := fun h => ne_of_none h m9
                refine lc_list (K := K) (a := q3) (xs := (tkI p 130).map V.int) (fun j G' => SX [D9] G8 G' ∧ G' D9 = some (.lst ((((tkL p 130).take j).map fun (r : Nat) => F * p.every + (0 + (r : Int))).map V.int))) ⟨SX.refl.mut m9, upd_same⟩ ?_ ?_ ?_
                · rintro i G5 _ ⟨fy, _⟩
                  exact SqL.of (fy _ _ (by simp [w9 e38]) e38)
                · rintro j x G' hx ⟨f', hD⟩
                  obtain ⟨z, hz, rfl⟩ := map_some hx
                  unfold tkI at hz
                  rw [List.getElem?_map] at hz
                  obtain ⟨r, hr2, rfl⟩ := Option.map_eq_some_iff.mp hz
                  refine ⟨rfl, ?_⟩
                  walk_at "rd"
                  refine ⟨_, hD, szlt (by rw [List.length_map, List.length_map, List.length_take]; omega), f'.upd (by simp), ?_⟩
                  rw [upd_same, List.take_succ, hr2, List.map_append, List.map_append]
                  rfl
                · rintro G9 ⟨f9, hD9⟩
                  rw [List.take_of_length_le (by simp [tkI])] at hD9
                  have s9 : Same G8 G9 := fun b o ho => f9 _ _ (by simp [w9 ho]) ho
                  walk_at "rd"
                  refine neL_ints (s9 _ _ hD8) hD9 ?_
                  walk_at "rd"
                  exact ⟨_, _, _, _, _, _, rfl, ((f.trans s34).trans s47).trans (s8.trans s9)⟩
    · rintro σ G ⟨v7, v8, v9, v10, v11, v12, rfl, f⟩
      walk_at "rd"
      exact k G ((g0.trans s2).trans f)

/-- an object whose text is told -/
structure Shw (K : PySem.W.Frag) (H : Hp) (v : V) (d : PyData) : Prop where
  dq : Dq K H v d
  sh : d.showable = true
  dp : d.depth ≤ 10
  ln : d.shown.length ≤ 5000
mutual
theorem Dq.ext {K : PySem.W.Frag} {H H' : Hp} (e : ExtN H H') : ∀ (d : PyData) (v : V), Dq K H v d → Dq K H' v d
  | .none, _, h => by cases h; exact .non
  | .bool b, _, h => by cases h; exact .bl b
  | .int i, _, h => by cases h; exact .int i
  | .str x, _, h => by cases h; exact .str x
  | .list ds, _, h => by
    cases h with
    | lst hs ha => exact .lst (extN_seq e hs) (Dq.extAll e ds _ ha)
  | .tuple ds, _, h => by
    cases h with
    | tup hs ha => exact .tup (hs.imp (fun h => h.imp (fun h => e _ _ h fun _ z => nomatch z) fun ⟨o, h⟩ => ⟨o, e _ _ h fun _ z => nomatch z⟩) id) (Dq.extAll e ds _ ha)
  | .dict _, _, h => by
    cases h with
    | dct hs => exact .dct (e _ _ hs fun _ z => nomatch z)
theorem Dq.extAll {K : PySem.W.Frag} {H H' : Hp} (e : ExtN H H') : ∀ (ds : List PyData) (vs : List V), DqAll K H vs ds → DqAll K H' vs ds
  | [], _, h => by cases h; exact .nil
  | d :: ds, _, h => by
    cases h with
    | cons h1 h2 => exact .cons (Dq.ext e d _ h1) (Dq.extAll e ds _ h2)
end
theorem Shw.ext {K : PySem.W.Frag} {H H' : Hp} {v : V} {d : PyData} (h : Shw K H v d) (e : ExtN H H') : Shw K H' v d := ⟨Dq.ext e _ _ h.dq, h.sh, h.dp, h.ln⟩
theorem use_repr {K : PySem.W.Frag} {H : Hp} {v : V} {d : PyData} {Q : VK} (h : Shw K H v d) (q : Q (.str d.shown) H) : rRepr K [v] H Q := by unfold rRepr; exact ⟨v, d, rfl, h.dq, h.sh, Nat.le_trans h.dp (by decide), szl (Nat.le_trans h.ln (by decide)), q⟩
theorem log2_ok {i : Int} (h : i.natAbs ≤ 100000000000000000000000000000000000000000000000000) : i.natAbs.log2 < 1920 := log2_lt (Nat.lt_of_le_of_lt h (by decide +kernel)) (by decide)
theorem shw_int {K : PySem.W.Frag} {H : Hp} {i : Int} (h : i.natAbs ≤ 100000000000000000000000000000000000000000000000000) : Shw K H (.int i) (.int i) :=
  ⟨.int i, decide_eq_true (log2_ok h), Nat.le_of_ble_eq_true rfl, by
    have := int_text_length_le (k := 1920) (by decide) (log2_ok h)
    show (Str.ofString (toString i)).length ≤ 5000
    rw [PySem.ofString_length]
    omega⟩
theorem shw_bl {K : PySem.W.Frag} {H : Hp} (b : Bool) : Shw K H (.bl b) (.bool b) := ⟨.bl b, rfl, Nat.le_of_ble_eq_true rfl, by cases b <;> exact Nat.le_of_ble_eq_true (by decide +kernel)⟩
theorem shw_non {K : PySem.W.Frag} {H : Hp} : Shw K H .non .none := ⟨.non, rfl, Nat.le_of_ble_eq_true rfl, Nat.le_of_ble_eq_true (by decide +kernel)⟩
theorem shw_str0 {K : PySem.W.Frag} {H : Hp} : Shw K H (.str "0") (.str "0") := ⟨.str _, rfl, Nat.le_of_ble_eq_true rfl, Nat.le_of_ble_eq_true (by decide +kernel)⟩
theorem shw_lst0 {K : PySem.W.Frag} {H : Hp} {a : Addr} (h : H a = some (.lst [.int 0])) : Shw K H (.ref a) (.list [.int 0]) := ⟨.lst (SqL.of h) (.cons (.int 0) .nil), by decide +kernel, Nat.le_of_ble_eq_true rfl, Nat.le_of_ble_eq_true (by decide +kernel)⟩
theorem shw_tup0 {K : PySem.W.Frag} {H : Hp} {a : Addr} (h : H a = some (.tup [.int 0])) : Shw K H (.ref a) (.tuple [.int 0]) := ⟨.tup (SqT.of h) (.cons (.int 0) .nil), by decide +kernel, Nat.le_of_ble_eq_true rfl, Nat.le_of_ble_eq_true (by decide +kernel)⟩
theorem shw_dct0 {K : PySem.W.Frag} {H : Hp} {a : Addr} (h : H a = some (.dK [])) : Shw K H (.ref a) (.dict []) := ⟨.dct h, rfl, Nat.le_of_ble_eq_true rfl, Nat.le_of_ble_eq_true (by decide +kernel)⟩
/-- the text of a list of one -/
theorem repr_one {K : PySem.W.Frag} {H : Hp} {a : Addr} {v : V} {d : PyData} {Q : VK} (h : H a = some (.lst [v])) (s : Shw K H v d) (q : Q (.str (PyData.list [d]).shown) H) : rRepr K [.ref a] H Q := by
  unfold rRepr
  refine ⟨.ref a, .list [d], rfl, .lst (SqL.of h) (.cons s.dq .nil), ?_, ?_, ?_, q⟩
  · show (d.showable && true) = true
    rw [s.sh]
    rfl
  · have := s.dp
    show max d.depth 0 + 1 ≤ 50
    omega
  · have h1 := shownLen_on .list d
    have h2 := s.ln
    refine szl ?_
    show (Wrap.list.on d).shown.length ≤ 100000
    rw [h1]
    show d.shown.length + 2 ≤ 100000
    omega
/-- a value that is refused; where it is an integer, it keeps P -/
structure OddV (K : PySem.W.Frag) (H : Hp) (P : Int → Prop) (v : V) : Prop where
  o : Ov Any H v
  s : ∃ d, Shw K H v d
  b : ∀ i, v = .int i → P i
theorem OddV.ext {K : PySem.W.Frag} {H H' : Hp} {P : Int → Prop} {v : V} (h : OddV K H P v) (e : ExtN H H') : OddV K H' P v := by
  refine ⟨?_, let ⟨d, z⟩ := h.s; ⟨d, z.ext e⟩, h.b⟩
  have o := h.o
  cases o with
  | non => exact .non
  | bl b => exact .bl b
  | int i => exact .int i
  | str s => exact .str s
  | lst f hh => exact .lst f (e _ _ hh fun _ z => nomatch z)
  | tup f hh => exact .tup f (e _ _ hh fun _ z => nomatch z)
  | dct f hh => exact .dct f (e _ _ hh fun _ z => nomatch z)
theorem odv_int {K : PySem.W.Frag} {H : Hp} {P : Int → Prop} {i : Int} (h : i.natAbs ≤ 100000000000000000000000000000000000000000000000000) (p : P i) : OddV K H P (.int i) := ⟨.int i, ⟨_, shw_int h⟩, fun j e => by cases e; exact p⟩
theorem odv_bl {K : PySem.W.Frag} {H : Hp} {P : Int → Prop} (b : Bool) : OddV K H P (.bl b) := ⟨.bl b, ⟨_, shw_bl b⟩, fun j e => by cases e⟩
theorem odv_non {K : PySem.W.Frag} {H : Hp} {P : Int → Prop} : OddV K H P .non := ⟨.non, ⟨_, shw_non⟩, fun j e => by cases e⟩
theorem odv_str0 {K : PySem.W.Frag} {H : Hp} {P : Int → Prop} : OddV K H P (.str "0") := ⟨.str _, ⟨_, shw_str0⟩, fun j e => by cases e⟩
theorem odv_lst0 {K : PySem.W.Frag} {H : Hp} {P : Int → Prop} {a : Addr} (h : H a = some (.lst [.int 0])) : OddV K H P (.ref a) := ⟨.lst True.intro h, ⟨_, shw_lst0 h⟩, fun j e => by cases e⟩
theorem odv_tup0 {K : PySem.W.Frag} {H : Hp} {P : Int → Prop} {a : Addr} (h : H a = some (.tup [.int 0])) : OddV K H P (.ref a) := ⟨.tup True.intro h, ⟨_, shw_tup0 h⟩, fun j e => by cases e⟩
theorem odv_dct0 {K : PySem.W.Frag} {H : Hp} {P : Int → Prop} {a : Addr} (h : H a = some (.dK [])) : OddV K H P (.ref a) := ⟨.dct True.intro h, ⟨_, shw_dct0 h⟩, fun j e => by cases e⟩
theorem use_sl {K : PySem.W.Frag} {H : Hp} {a : Addr} {xs ys : List V} {lo hi : Option Int} {Q : VK} (h : SqL K H a xs) (e : cutV xs lo hi = ys) (k : ∀ p H', H p = none → Same H H' → H' p = some (.lst ys) → Q (.ref p) H') : rSlL K (.ref a) lo hi H Q := by
  subst e
  exact ⟨a, xs, rfl, h, fun p n => k p _ n (same_new n) upd_same⟩
theorem use_cat {K : PySem.W.Frag} {H : Hp} {a b : Addr} {xs zs : List V} {Q : VK} (h : SqL K H a xs) (h2 : SqL K H b zs) (hz : xs.length + zs.length ≤ 100000) (k : ∀ p H', H p = none → Same H H' → H' p = some (.lst (xs ++ zs)) → Q (.ref p) H') : rCatS K (.ref a) (.ref b) H Q :=
  ⟨a, b, xs, zs, rfl, rfl, h, h2, hz, k⟩
theorem dvn {i j : Int} (h : ¬ decide (V.int i = V.int j) = true) : i ≠ j := fun z => h (decide_eq_true (congrArg V.int z))
theorem dct {p : Prop} [Decidable p] (h : decide p = true) : p := of_decide_eq_true h
theorem dcn {p : Prop} [Decidable p] (h : ¬ decide p = true) : ¬ p := fun z => h (decide_eq_true z)
theorem cut_to (xs : List V) (m : Nat) : cutV xs none (some (m : Int)) = xs.take m := by
  unfold cutV
  rw [HT.sIx_none, HT.sIx_nat, Nat.sub_zero, List.drop_zero]
  by_cases h : m ≤ xs.length
  · rw [Nat.min_eq_left h]
  · rw [Nat.min_eq_right (by omega), List.take_length, List.take_of_length_le (by omega)]
theorem cut_mid (xs : List V) (b e : Nat) (h : b ≤ xs.length) : cutV xs (some (b : Int)) (some (e : Int)) = (xs.take e).drop b := by
  unfold cutV
  rw [HT.sIx_nat, HT.sIx_nat, Nat.min_eq_left h, List.drop_take]
  by_cases he : e ≤ xs.length
  · rw [Nat.min_eq_left he]
  · rw [Nat.min_eq_right (by omega), List.take_of_length_le (by rw [List.length_drop]; omega), List.take_of_length_le (by rw [List.length_drop]; omega)]
theorem pt_ifE {X : Cx} {c a b : Expr} {pos : Pos} {t tA tB : TT} (hc : PT X c t) (ha : PT X a tA) (hb : PT X b tB) : PT X (.IfExp c a b pos) (fun σ H Q => t σ H fun d H1 => if d = true then tA σ H1 Q else tB σ H1 Q) := by
  refine ⟨fun pins s σ H Q I h => ?_⟩
  have e : PySem.isTrue (.IfExp c a b pos) X.env (eval (.IfExp c a b pos) X.env) = (PySem.isTrue c X.env (eval c X.env) >>= fun d => if d = true then PySem.isTrue a X.env (eval a X.env) else PySem.isTrue b X.env (eval b X.env)) := by rfl
  rw [e]
  refine wpAny_bind (thn (hc.run pins s σ H _ I h) fun d s1 ⟨H1, I1, q1⟩ => ?_)
  cases d with
  | true => exact ha.run pins s1 σ H1 Q I1 q1
  | false => exact hb.run pins s1 σ H1 Q I1 q1
theorem cut_from (xs : List V) (b : Nat) : cutV xs (some (b : Int)) none = xs.drop b := by
  unfold cutV
  rw [HT.sIx_nat, HT.sIx_none]
  by_cases h : b ≤ xs.length
  · rw [Nat.min_eq_left h, List.take_of_length_le (by rw [List.length_drop]; omega)]
  · rw [Nat.min_eq_right (by omega), List.drop_length, List.drop_of_length_le (by omega), List.take_nil]
theorem four_at {a b c d r : Int} (h0 : 0 ≤ r) (h1 : r < 4) : ∃ m, (m = a ∨ m = b ∨ m = c ∨ m = d) ∧ atI ([.int a, .int b, .int c, .int d] : List V) r = some (V.int m) := by
  obtain rfl | rfl | rfl | rfl : r = 0 ∨ r = 1 ∨ r = 2 ∨ r = 3 := by omega
  · exact ⟨a, .inl rfl, rfl⟩
  · exact ⟨b, .inr (.inl rfl), rfl⟩
  · exact ⟨c, .inr (.inr (.inl rfl)), rfl⟩
  · exact ⟨d, .inr (.inr (.inr rfl)), rfl⟩
theorem tkC_succ {p : Prt} (ok : p.Ok) {m : Int} (hm : 0 ≤ m) : tkC p (m + 1) = m / p.every * wh p + m % p.every / p.rec_ + 1 := by
  have he := ok.e
  have st := step_div (m := m) he.1 hm
  have pq := (pf_of ok (m % p.every)).2.2
  unfold tkC
  by_cases z : m % p.every + 1 = p.every
  · obtain ⟨h1, h2⟩ := st.1 z
    have : wh p = m % p.every / p.rec_ + 1 := by rw [← pq, z]; rfl
    rw [h1, h2, pf_zero ok, Int.add_mul, Int.one_mul]
    omega
  · obtain ⟨h1, h2⟩ := st.2 z
    rw [h1, h2, pq]
    omega
theorem tkC_step {p : Prt} (ok : p.Ok) {m : Int} (hm : 0 ≤ m) : tkC p m ≤ tkC p (m + 1) := by
  rw [tkC_succ ok hm]
  have pq := pf_of ok (m % p.every)
  unfold tkC
  by_cases z : m % p.every % p.rec_ = 0
  · rw [pq.1 z]; omega
  · rw [pq.2.1 z]; omega
theorem tkC_mono {p : Prt} (ok : p.Ok) {m : Int} (hm : 0 ≤ m) : ∀ d : Nat, tkC p m ≤ tkC p (m + (d : Int))
  | 0 => by rw [show m + ((0 : Nat) : Int) = m by omega]; exact Int.le_refl _
  | d + 1 => by
    have h1 := tkC_mono ok hm d
    have h2 := tkC_step ok (show 0 ≤ m + (d : Int) by omega)
    rw [show m + ((d + 1 : Nat) : Int) = m + (d : Int) + 1 by omega]
    omega
theorem tkr_pair {p : Prt} (ok : p.Ok) (a x : Int) (h0 : 0 ≤ x) (h1 : x < wh p) : tkr p (a * wh p + x) = a * p.every + x * p.rec_ := by
  have hw := wh_lo ok
  unfold tkr
  rw [Int.add_comm (a * wh p) x, Int.add_mul_ediv_right _ _ (by omega), Int.add_mul_emod_self_right, Int.ediv_eq_zero_of_lt h0 h1, Int.emod_eq_of_lt h0 h1]
  have : (0 + a) * p.every = a * p.every := congrArg (· * p.every) (Int.zero_add _)
  omega
theorem wh_e1 {p : Prt} (ok : p.Ok) : (p.every - 1) / p.rec_ + 1 = wh p := by
  have := (pf_of ok (p.every - 1)).2.2
  rw [Int.sub_add_cancel] at this
  exact this.symm
/-- the last taking ahead of a moment -/
theorem tkr_last {p : Prt} (ok : p.Ok) {m : Int} (hm : 0 ≤ m) : tkr p (tkC p (m + 1) - 1) = m - m % p.every % p.rec_ := by
  have he := ok.e
  have hr := ok.r
  have h1 := Int.emod_add_mul_ediv m p.every
  have h2 := Int.emod_nonneg m (show p.every ≠ 0 by omega)
  have h3 := Int.emod_lt_of_pos m (show 0 < p.every by omega)
  have g1 := Int.emod_add_mul_ediv (m % p.every) p.rec_
  have c : p.every * (m / p.every) = (m / p.every) * p.every := Int.mul_comm _ _
  have c2 : p.rec_ * (m % p.every / p.rec_) = (m % p.every / p.rec_) * p.rec_ := Int.mul_comm _ _
  have q0 : 0 ≤ m % p.every / p.rec_ := Int.ediv_nonneg h2 (by omega)
  have q1 : m % p.every / p.rec_ < wh p := by
    have := Int.ediv_le_ediv (show 0 < p.rec_ by omega) (show m % p.every ≤ p.every - 1 by omega)
    have := wh_e1 ok
    omega
  rw [tkC_succ ok hm, show m / p.every * wh p + m % p.every / p.rec_ + 1 - 1 = m / p.every * wh p + m % p.every / p.rec_ by omega, tkr_pair ok _ _ q0 q1]
  omega
theorem tkr_out {p : Prt} (ok : p.Ok) {N k : Int} (hN : 0 ≤ N) (h : tkC p N ≤ k) : ¬ (0 ≤ k ∧ tkr p k < N) := by
  rintro ⟨h0, h1⟩
  have he := ok.e
  have hr := ok.r
  have hw := wh_lo ok
  have d1 := Int.emod_add_mul_ediv k (wh p)
  have d2 := Int.emod_nonneg k (show wh p ≠ 0 by omega)
  have d3 := Int.emod_lt_of_pos k (show 0 < wh p by omega)
  have d4 : 0 ≤ k / wh p := Int.ediv_nonneg h0 (by omega)
  have c : wh p * (k / wh p) = (k / wh p) * wh p := Int.mul_comm _ _
  have ek : k = k / wh p * wh p + k % wh p := by omega
  have e1 := wh_e1 ok
  have e2 : k % wh p * p.rec_ ≤ p.every - 1 := by
    have h4 : k % wh p * p.rec_ ≤ ((p.every - 1) / p.rec_) * p.rec_ := Int.mul_le_mul_of_nonneg_right (by omega) (by omega)
    have h5 := Int.ediv_mul_le (p.every - 1) (show p.rec_ ≠ 0 by omega)
    omega
  have e0 : 0 ≤ k % wh p * p.rec_ := Int.mul_nonneg d2 (by omega)
  have er : tkr p k = k % wh p * p.rec_ + k / wh p * p.every := by unfold tkr; omega
  have q1 : tkr p k / p.every = k / wh p := by rw [er, Int.add_mul_ediv_right _ _ (by omega), Int.ediv_eq_zero_of_lt e0 (by omega)]; omega
  have q2 : tkr p k % p.every = k % wh p * p.rec_ := by rw [er, Int.add_mul_emod_self_right]; exact Int.emod_eq_of_lt e0 (by omega)
  have r0 : 0 ≤ tkr p k := by have := Int.mul_nonneg d4 (show 0 ≤ p.every by omega); omega
  have q3 := tkC_succ ok r0
  rw [q1, q2, Int.mul_ediv_cancel _ (show p.rec_ ≠ 0 by omega)] at q3
  have q4 := tkC_mono ok (show 0 ≤ tkr p k + 1 by omega) (N - (tkr p k + 1)).toNat
  rw [show tkr p k + 1 + (((N - (tkr p k + 1)).toNat : Nat) : Int) = N by omega] at q4
  omega
theorem tkC_le {p : Prt} (ok : p.Ok) {N : Int} (hN : 0 ≤ N) : 0 ≤ tkC p N ∧ tkC p N ≤ N := by
  have he := ok.e
  have hw := wh_lo ok
  have h1 := Int.emod_add_mul_ediv N p.every
  have h2 := Int.emod_nonneg N (show p.every ≠ 0 by omega)
  have c : p.every * (N / p.every) = (N / p.every) * p.every := Int.mul_comm _ _
  have d : 0 ≤ N / p.every := Int.ediv_nonneg hN (by omega)
  have w1 : wh p ≤ p.every := pf_hi ok (by omega)
  have h3 : N / p.every * wh p ≤ N / p.every * p.every := Int.mul_le_mul_of_nonneg_left w1 d
  have h4 := pf_hi ok h2
  have h5 := pf_nn ok h2
  have h6 := Int.mul_nonneg d (show 0 ≤ wh p by omega)
  unfold tkC
  omega
@[irreducible] def sp_law (K : PySem.W.Frag) : Sp := fun vs H Q _ => ∃ (a : Addr) (ns : List Int), vs = [.ref a] ∧ SqL K H a (ns.map V.int) ∧ ns.length ≤ 63 ∧ Tabs (lamT K) H ∧ ∀ H', Q (.bl true) H'
theorem b_law {K : PySem.W.Frag} {fd : FuncData} (F : F_law K fd) : Binds K fd P_law [] := FunD.bindsN F fun _ _ _ _ _ _ us hl => match us, hl with | [_], _ => rfl
theorem ok_law (T : Txt K mg base D) : FnG P w K mg base CX0 7 (He.fAd K ("law", none)) (D D_law) P_law (sp_law K) := by
  refine okG T.d_law sc_law (fun vs H Q E h => ?_) (fun A outer s H vs Q E hgd hr h => ?_)
  · unfold sp_law at h
    first | (obtain ⟨rfl, _⟩ := h; rfl) | (obtain ⟨_, rfl, _⟩ := h; rfl) | (obtain ⟨_, _, rfl, _⟩ := h; rfl) | (obtain ⟨_, _, _, rfl, _⟩ := h; rfl) | (obtain ⟨_, _, _, _, rfl, _⟩ := h; rfl) | (obtain ⟨_, _, _, _, _, rfl, _⟩ := h; rfl) | (obtain ⟨_, _, _, _, _, _, rfl, _⟩ := h; rfl) | (obtain ⟨_, _, _, _, _, _, _, rfl, _⟩ := h; rfl) | (obtain ⟨_, _, _, _, _, _, _, _, rfl, _⟩ := h; rfl) | (obtain ⟨_, _, _, _, _, _, _, _, _, rfl, _⟩ := h; rfl) | (obtain ⟨_, _, _, _, _, _, _, _, _, _, rfl, _⟩ := h; rfl) | (obtain ⟨_, _, _, _, _, _, _, _, _, _, _, rfl, _⟩ := h; rfl)
  · refine ⟨_, PSs.nox (pss_cons (ps_for PassesOwn.never rfl (pi_list (pe_op (op_catSK (K := K)) (pe_slice (sl_listK (K := K)) (pv 0) po_none (po_some pe_int)) (pe_slice (sl_listK (K := K)) (pe_lst (pa_cons pe_int pa_nil)) (po_some (pe_callB (call_lenK (K := K)) (by rfl) T.n_len (by decide +kernel) (pa_cons (pv 0) pa_nil))) po_none))) (pg_name (i := 1) sc_law.nd rfl (Or.inl rfl)) (pss_cons (ps_set (i := 2) sc_law.nd rfl (Or.inl rfl) (pe_call (ok_law_digits T) (hr.mono (by decide)) rfl T.g_law_digits T.d_law_digits.kp (b_law_digits T.d_law_digits) .nil pass0 (pa_cons (pv 1) (pa_cons pe_int pa_nil))))
      (pss_cons (ps_set (i := 3) sc_law.nd rfl (Or.inl rfl) (pe_call (ok_law_parts T) (hr.mono (by decide)) rfl T.g_law_parts T.d_law_parts.kp (b_law_parts T.d_law_parts) .nil pass0 (pa_cons (pv 2) pa_nil)))
      (pss_cons (ps_set (i := 7) sc_law.nd rfl (Or.inr rfl) (pe_call (ok_law_settings T) (hr.mono (by decide)) rfl T.g_law_settings T.d_law_settings.kp (b_law_settings T.d_law_settings) .nil pass0 (pa_cons (pv 3) pa_nil)))
      (pss_cons (ps_set (i := 4) sc_law.nd rfl (Or.inl rfl) (pe_op op_mul (pe_ix (ix_listK (K := K)) (pe_lst (pa_cons pe_int (pa_cons (pe_powc (c := 1000000000) (by decide)) (pa_cons (pe_powc (c := 1000000000000000000000000) (by decide)) (pa_cons (pe_op op_mul pe_int (pe_powc (c := 1000000000000000000000000) (by decide))) pa_nil))))) (pe_op op_mod (pe_callTy call_int1 (by rfl) T.n_int (by decide +kernel) (pa_cons (pe_ix (ix_listK (K := K)) (pv 2) pe_int (fun _ _ => rfl)) pa_nil)) pe_int) (fun _ _ => rfl)) (pe_op op_add pe_int (pe_ix (ix_listK (K := K)) (pv 2) pe_int (fun _ _ => rfl)))))
      (pss_cons (ps_if (PW.pt (pw_or (pt_not (pt_val (pe_call (ok_law_right T) (hr.mono (by decide)) rfl T.g_law_right T.d_law_right.kp (b_law_right T.d_law_right) .nil pass0 (pa_cons (pv 3) (pa_cons (pv 7) (pa_cons (pv 4) pa_nil)))))) (pw_or1 (pt_not (pt_val (pe_call (ok_law_right T) (hr.mono (by decide)) rfl T.g_law_right T.d_law_right.kp (b_law_right T.d_law_right) .nil pass0 (pa_cons (pv 3) (pa_cons (pv 7) (pa_cons (pe_op op_sub (pe_op op_fdivW (pe_powc (c := 1000000000000000000000000000000) (by decide)) (pe_dget (hu_of hr) (pv 3) pe_str (fun _ _ => rfl))) pe_int) pa_nil))))))))) (pss_one (ps_ret pe_bl)) pss_nil)
      (pss_cons (ps_set (i := 5) sc_law.nd rfl (Or.inl rfl) (pe_call (ok_log_takes T) (hr.mono (by decide)) rfl T.g_log_takes T.d_log_takes.kp (b_log_takes T.d_log_takes) .nil pass0 (pa_cons (pv 7) (pa_cons (pe_powc (c := 1000000000000000000000000000000) (by decide)) pa_nil))))
      (pss_cons (ps_if (pt_not (pt_chain op_lt op_le pe_int (pe_op op_sub (pe_powc (c := 1000000000000000000000000000000) (by decide)) (pe_call (ok_take_row T) (hr.mono (by decide)) rfl T.g_take_row T.d_take_row.kp (b_take_row T.d_take_row) .nil passF (pa_cons (pv 7) (pa_cons (pe_op op_sub (pv 5) pe_int) pa_nil)))) (pe_callB (call_max2 rfl) (by rfl) T.n_max (by decide +kernel) (pa_cons (pe_dget (hu_of hr) (pv 3) pe_str (fun _ _ => rfl)) (pa_cons (pe_dget (hu_of hr) (pv 3) pe_str (fun _ _ => rfl)) pa_nil))))) (pss_one (ps_ret pe_bl)) pss_nil)
      (pss_one (ps_for PassesOwn.never rfl (pi_list (pe_lst (pa_cons (pv 5) (pa_cons (pe_op op_add (pv 5) pe_int) (pa_cons (pe_powc (c := 10000000000000000000000000000000) (by decide)) (pa_cons (pe_un un_neg pe_int) (pa_cons pe_bl (pa_cons pe_bl (pa_cons pe_non (pa_cons pe_str (pa_cons (pe_lst (pa_cons pe_int pa_nil)) (pa_cons (pe_tup (pa_cons pe_int pa_nil)) (pa_cons pe_dnewK pa_nil))))))))))))) (pg_name (i := 6) sc_law.nd rfl (Or.inr rfl)) (pss_one (ps_if (pt_cmpR op_ne (pe_callB (call_repr (K := K) hgd hr.units T.sm) (by rfl) T.n_repr (by decide +kernel) (pa_cons (pe_lamF (k := 4) (T := lamT K) T.d_law_number (b_law_number T.d_law_number) rfl T.g_law_number sc_law_number rfl (.inl rfl) (fun cdv => gv_law_number T hgd (hr.mono (by decide))) (tb_law T) rfl lm_law (lu_law T) (hr.mono (by decide)) (lamS_by (sc := defScope s_law) (by decide +kernel)) rfl (fun _ _ _ _ _ => rfl) (fun A outer s H E f c' hr => (pe_callS (ok_take_row T) (hr.mono (by decide)) rfl T.g_take_row T.d_take_row.kp (b_take_row T.d_take_row) (fun σ => passAt (takes_of rfl rfl rfl rfl) σ) (pa_cons (pv 7) (pa_cons (pv 6) pa_nil))))) pa_nil)) (pe_callB (call_repr (K := K) hgd hr.units T.sm) (by rfl) T.n_repr (by decide +kernel) (pa_cons (pe_lst (pa_cons (pv 6) pa_nil)) pa_nil)) (nomark _)) (pss_one (ps_ret pe_bl)) pss_nil))))))))))))
      (pss_one (ps_ret pe_bl))), ?_⟩
    unfold sp_law at h
    obtain ⟨a, ns, rfl, hS, hl, hT, k⟩ := h
    walk_at "rd"
    try unfold L2.tNoPart
    walk_at "rd"
    refine use_sl (lo := none) (hi := some 3) (ys := (ns.take 3).map V.int) hS (by rw [show (3 : Int) = ((3 : Nat) : Int) by rfl, cut_to, List.map_take]) fun q1 H1 n1 g1 c1 => ?_
    walk_at "rd"
    intro q2 n2
    generalize eH2 : upd _ q2 _ = H2
    obtain ⟨g2, c2⟩ := gen_new n2 eH2
    clear eH2
    walk_at "rd"
    refine ⟨_, _, rfl, .inl ((g1.trans g2).seq hS), ?_⟩
    walk_at "rd"
    try unfold L2.tNoPart
    refine use_sl (lo := some (((ns.map V.int).length : Nat) : Int)) (hi := none) (ys := ([19].drop ns.length).map V.int) (SqL.of c2) (by rw [cut_from, List.length_map, List.map_drop]; rfl) fun q3 H3 n3 g3 c3 => ?_
    refine use_cat (SqL.of (g3 _ _ (g2 _ _ c1))) (SqL.of c3) (by rw [List.length_map, List.length_map, List.length_take, List.length_drop]; simp; omega) fun q4 H4 n4 g4 c4 => ?_
    rw [← List.map_append] at c4
    generalize ns.take 3 ++ [19].drop ns.length = cs at c4
    have t4 : Tabs (lamT K) H4 := hT.ext (((g1.trans g2).trans g3).trans g4)
    refine ⟨_, rfl, ⟨_, SqL.of c4⟩, for_list (xs := cs.map V.int) (fun i σ G => ∃ v1 v2 v3 v4 v5 v6 v7, σ = [some (.ref a), v1, v2, v3, v4, v5, v6, v7] ∧ ExtN H4 G ∧ Tabs (lamT K) G) ⟨_, _, _, _, _, _, _, rfl, ExtN.refl _, t4⟩ ?_ ?_ ?_⟩
    · rintro i σ G _ ⟨v1, v2, v3, v4, v5, v6, v7, rfl, f, _⟩
      exact SqL.of (f _ _ c4 fun _ z => nomatch z)
    · rintro i v σ G hx ⟨v1, v2, v3, v4, v5, v6, v7, rfl, f, tG⟩
      obtain ⟨c, hc, rfl⟩ := map_some hx
      walk_at "rd"
      refine use_digits fun d fd G1 m1 s1 hf hd => ?_
      walk_at "rd"
      refine use_pd hf hd fun pa p G2 m2 s2 ok _ hp => ?_
      have hd2 := s2 _ _ hd
      walk_at "rd"
      refine use_settings hp ok fun b G3 m3 s3 hs => ?_
      have hp3 := hp.same s3
      have hd3 := s3 _ _ hd2
      walk_at "rd"
      have f04 : Same G G3 := (s1.trans s2).trans s3
      have he := ok.e
      have hr' := ok.r
      have hw := wh_lo ok
      have hb12 := hf 12
      have hb13 := hf 13
      walk_at "rd"
      intro u1 o1
      generalize eJ1 : upd _ u1 _ = J1
      obtain ⟨r1, e1⟩ := gen_new o1 eJ1
      clear eJ1
      obtain ⟨x1, hx1, ax1⟩ := four_at (a := 1) (b := 1000000000) (c := 1000000000000000000000000) (d := 2000000000000000000000000) (r := fd 12 % 4) (Int.emod_nonneg _ (by decide)) (Int.emod_lt_of_pos _ (by decide))
      have hd4 := r1 _ _ hd3
      walk_at "rd"
      refine ⟨_, _, _, _, rfl, rfl, SqL.of e1, ax1, ?_⟩
      have hs4 := hs.same r1
      have hp4 := hp3.same r1
      have f14 : Same G J1 := f04.trans r1
      have tlo : 0 ≤ x1 * (1 + fd 13) := Int.mul_nonneg (by omega) (by omega)
      have thi : x1 * (1 + fd 13) ≤ 2000000000000000000000000 * 1009 := Int.mul_le_mul (by omega) (by omega) (by omega) (by decide)
      have thi2 : x1 * (1 + fd 13) * p.every ≤ (2000000000000000000000000 * 1009) * 40 := Int.mul_le_mul thi he.2 (by omega) (by decide)
      obtain ⟨lp, hp40, _⟩ := id hp4
      have t1 := Int.emod_add_mul_ediv 1000000000000000000000000000000 p.every
      have t2 := Int.emod_nonneg 1000000000000000000000000000000 (show p.every ≠ 0 by omega)
      have t3 := Int.emod_lt_of_pos 1000000000000000000000000000000 (show 0 < p.every by omega)
      have tc : p.every * (1000000000000000000000000000000 / p.every) = (1000000000000000000000000000000 / p.every) * p.every := Int.mul_comm _ _
      have t4' : 1000000000 ≤ 1000000000000000000000000000000 / p.every := Int.le_ediv_of_mul_le (by omega) (by omega)
      have t5 : (1000000000000000000000000000000 / p.every - 140) * p.every = (1000000000000000000000000000000 / p.every) * p.every - 140 * p.every := by rw [Int.sub_mul]
      walk_at "rd"
      refine use_right hp4 hs4 ok ⟨tlo, by omega⟩ fun G5 s5 => ?_
      have hp5 := hp4.same s5
      have hs5 := hs4.same s5
      obtain ⟨lp5, hp50, _⟩ := id hp5
      walk_at "rd"
      refine use_right hp5 hs5 ok ⟨by omega, by omega⟩ fun G6 s6 => ?_
      have hp6 := hp5.same s6
      have hs6 := hs5.same s6
      obtain ⟨lp6, hp60, _⟩ := id hp6
      have lo := tkC_le ok (show 0 ≤ (1000000000000000000000000000000 : Int) by decide)
      have lst := tkr_last ok (show 0 ≤ (999999999999999999999999999999 : Int) by decide)
      have ls2 := Int.emod_lt_of_pos (999999999999999999999999999999 % p.every) (show 0 < p.rec_ by omega)
      have ls3 := Int.emod_nonneg (999999999999999999999999999999 % p.every) (show p.rec_ ≠ 0 by omega)
      have lst1 : 1 ≤ tkC p 1000000000000000000000000000000 := by
        have := tkC_succ ok (show 0 ≤ (999999999999999999999999999999 : Int) by decide)
        have a1 : 0 ≤ 999999999999999999999999999999 / p.every := Int.ediv_nonneg (by decide) (by omega)
        have a2 := Int.mul_nonneg a1 (show 0 ≤ wh p by omega)
        have a3 : 0 ≤ 999999999999999999999999999999 % p.every / p.rec_ := Int.ediv_nonneg (Int.emod_nonneg _ (by omega)) (by omega)
        rw [show (999999999999999999999999999999 : Int) + 1 = 1000000000000000000000000000000 by decide] at this
        omega
      rw [show (999999999999999999999999999999 : Int) + 1 = 1000000000000000000000000000000 by decide] at lst
      walk_at "rd"
      refine use_ltakes hs6 ok (by omega) ?_
      rw [show (1000000000000000000000000000000 : Int) / p.every * wh p + pf p (1000000000000000000000000000000 % p.every) = tkC p 1000000000000000000000000000000 from rfl]
      have oT : ∀ i : Int, tkC p 1000000000000000000000000000000 ≤ i → ¬ (0 ≤ i ∧ tkr p i < 1000000000000000000000000000000) := fun i hi => tkr_out ok (by decide) hi
      generalize tkC p 1000000000000000000000000000000 = T' at *
      walk_at "rd"
      refine use_tkr hs6 ok (.int _) (fun z e h0 h1 => ?_) (fun n => absurd ⟨by omega, by rw [lst]; omega⟩ (n _ rfl))
      cases e
      rw [lst]
      walk_at "rd"
      refine iteT_of (decide_eq_true (by omega)) ?_
      walk_at "rd"
      refine iteF_of (by rw [decide_eq_true (by split <;> omega)]; rfl) ?_
      walk_at "rd"
      intro w1 o1
      generalize eL1 : upd _ w1 _ = L1
      obtain ⟨r1, e1⟩ := gen_new o1 eL1
      clear eL1
      walk_at "rd"
      intro w2 o2
      generalize eL2 : upd _ w2 _ = L2
      obtain ⟨r2, e2⟩ := gen_new o2 eL2
      clear eL2
      walk_at "rd"
      intro w3 o3
      generalize eL3 : upd _ w3 _ = L3
      obtain ⟨r3, e3⟩ := gen_new o3 eL3
      clear eL3
      walk_at "rd"
      intro w4 o4
      generalize eL4 : upd _ w4 _ = L4
      obtain ⟨r4, e4⟩ := gen_new o4 eL4
      clear eL4
      have f54 : Same G6 L4 := ((r1.trans r2).trans r3).trans r4
      have fL : ExtN H4 L4 := f.trans (((f14.trans s5).trans s6).trans f54).extN
      have tL : Tabs (lamT K) L4 := tG.ext (((f14.trans s5).trans s6).trans f54)
      have hsL := hs6.same f54
      obtain ⟨O, hO, e4'⟩ : ∃ O : List V, (∀ v ∈ O, OddV K L4 (fun i => ¬ (0 ≤ i ∧ tkr p i < 1000000000000000000000000000000)) v) ∧ L4 w4 = some (.lst O) := by
        refine ⟨_, ?_, e4⟩
        intro v hv
        simp only [List.mem_cons, List.mem_nil_iff, or_false] at hv
        rcases hv with rfl | rfl | rfl | rfl | rfl | rfl | rfl | rfl | rfl | rfl | rfl
        · exact odv_int (by omega) (oT _ (Int.le_refl _))
        · exact odv_int (by omega) (oT _ (by omega))
        · exact odv_int (by omega) (oT _ (by omega))
        · exact odv_int (by omega) (by omega)
        · exact odv_bl _
        · exact odv_bl _
        · exact odv_non
        · exact odv_str0
        · exact odv_lst0 (r4 _ _ (r3 _ _ (r2 _ _ e1)))
        · exact odv_tup0 (r4 _ _ (r3 _ _ e2))
        · exact odv_dct0 (r4 _ _ e3)
      refine ⟨_, rfl, ⟨_, SqL.of e4'⟩, for_list (xs := O) (fun i' σ G' => ∃ w4' w5 w6, σ = [some (.ref a), some (.int c), some (.ref d), some (.ref pa), w4', w5, w6, some (.ref b)] ∧ ExtN L4 G' ∧ Tabs (lamT K) G') ⟨_, _, _, rfl, ExtN.refl _, tL⟩ ?_ ?_ ?_⟩
      · rintro i' σ G' _ ⟨w4', w5, w6, rfl, fz, _⟩
        exact SqL.of (fz _ _ e4' fun _ z => nomatch z)
      · rintro i' x σ G' hx ⟨w4', w5, w6, rfl, fz, tz⟩
        have ho := hO x (List.mem_of_getElem? hx)
        walk_at "rd"
        intro M1 g1' tM
        unfold TT_law_number
        intro Q2 hQ2
        have fM : ExtN L4 M1 := fz.trans g1'
        have hoM := ho.ext fM
        obtain ⟨dd, hd⟩ := hoM.s
        obtain ⟨dx, tt, hb1, hb2⟩ := id hsL
        have hsM : SetAt K M1 b p := ⟨dx, tt, fM _ _ hb1 fun _ z => (nomatch z), fM _ _ hb2 fun _ z => (nomatch z)⟩
        walk_at "rd"
        refine use_tkr hsM ok hoM.o (fun z ez h0 h1 => absurd ⟨h0, h1⟩ (hoM.b z ez)) fun _ d' M2 nd s2' hd' => ?_
        refine ⟨rfl, d', x, rfl, hd', fun r M3 nr s3' hr' => ?_⟩
        have f3 : ExtN M1 M3 := (s2'.trans s3').extN
        refine repr_one hr' (hd.ext f3) ?_
        walk_at "rd"
        intro rr nq4
        generalize eM4 : upd _ rr _ = M4
        obtain ⟨sq4, cq4⟩ := gen_new nq4 eM4
        clear eM4
        refine repr_one cq4 ((hd.ext f3).ext sq4.extN) ?_
        walk_at "rd"
        refine iteNeS ?_
        walk_at "rd"
        first
          | exact ⟨_, _, _, rfl, fz.trans ((g1'.trans f3).trans sq4.extN), (tM.ext (s2'.trans s3')).ext sq4⟩
          | exact ⟨fz.trans ((g1'.trans f3).trans sq4.extN), (tM.ext (s2'.trans s3')).ext sq4⟩
          | exact (tM.ext (s2'.trans s3')).ext sq4
      · rintro σ G' ⟨w4', w5, w6, rfl, fz, tz⟩
        walk_at "rd"
        exact ⟨_, _, _, _, _, _, _, rfl, fL.trans fz, tz⟩
    · rintro σ G ⟨v1, v2, v3, v4, v5, v6, v7, rfl, f, _⟩
      walk_at "rd"
      exact k _

end
end KR
open PySem PySem.W PySem.Calls PyProof.Rows in
set_option maxRecDepth 100000 in
set_option maxHeartbeats 0 in
theorem PySem.Challenge.cw_keeprows_k38_places_of_records_holds : PySem.Challenge.rw_keeprows_k38_places_of_records.Holds := by
  w_on; o_law
  refine HandSHeadRun.head_any (r := OpenLaw.row PySem.Challenge.rw_keeprows_k38_places_of_records) (q := view (OpenLaw.row PySem.Challenge.rw_keeprows_k38_places_of_records).prog [35]) (H := KR.hk) (ob := KR.ob) (M := 4000) (loose := KR.looseN) (d := HandSHeadRun.topDef (OpenLaw.row PySem.Challenge.rw_keeprows_k38_places_of_records).prog 35) (kwd := []) KR.ob_eq
    (by kernel_rfl) (fun s => by kernel_rfl) KR.run (by kernel_rfl) (by kernel_rfl) (by kernel_rfl) (by rfl) (by first | assumption | decide +kernel) (by decide +kernel) ⟨rfl, rfl, rfl, rfl, rfl, by decide +kernel⟩ ?hw ?hc
  case hw => w_witness2
  case hc =>
    refine KR.walkG (l := PySem.Challenge.rw_keeprows_k38_places_of_records) (n := 63) (k := 7) (x := "script") rfl (by decide) (by kernel_rfl) ⟨rfl, by decide, by decide⟩ ?F
    intro w mg fa h Y G hmg0
    obtain ⟨K, KX, c⟩ := Y
    have hmg : mg ("law" : PySem.Str) = some (.ref fa) := by
      have e : (HandSHeadRun.topDef (OpenLaw.row PySem.Challenge.rw_keeprows_k38_places_of_records).prog 35).name = ("law" : PySem.Str) := by kernel_rfl
      rw [← e]
      exact hmg0
    obtain ⟨D, T⟩ := KR.txt_of KX G c.d c.more
    have e1 := hmg.symm.trans T.g_law
    cases e1
    refine ⟨K, KX, D KR.D_law, KR.tfl.map (He.cT K), KR.sp_law K, fun p hp => ?_, fun s v => L2.FunD.bindsA (ps := ["script"]) T.d_law (fun _ _ _ _ _ _ us hl => match us, hl with | [_], _ => rfl) s [v] rfl, fun H a ns hl hH hS => ?_, fun base _ _ hT => KR.ok_law ⟨T, hT⟩⟩
    · obtain ⟨q, hq, rfl⟩ := List.mem_map.mp hp
      exact ⟨c.hd q hq, c.out q hq, c.empty q hq⟩
    · unfold KR.sp_law
      exact ⟨a, ns, rfl, hS, hl, KR.tabs_start hH, fun _ => rfl⟩
