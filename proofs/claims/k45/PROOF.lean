import PyProof.Rows.All
import Wide.All
import OpenK.AllK
import Wide.FinOn
import HandS.ForMost
import HandS.Wide
import HandS.Style
import HandS.Star
import HandS.Conv
import HandS.IsInst
import HandS.Walk
import PyProof.ReprReads
import HandS.NoneIn
import HandS.Sort
import HandS.SortInts
import HandS.SortRule
import HandS.Steps
import HandS.SetFor
import HandS.More
import HandS.RaiseMore
import HandS.Iter
import HandS.Deep
import HandS.DictComp
import HandS.Strs
import KE.LtData
import KE.KDictZip
import HandS.SortOrd
import HandS.Set
import HandS.Zip
import PySem.Challenge.RW_leadboard_k45_orders_by_lead
set_option Elab.async false
set_option linter.all false
set_option maxRecDepth 100000
set_option maxHeartbeats 2000000
set_option exponentiation.threshold 600
/-! what is known of the heap, as a list of places with what holds of each -/
namespace LB
open PySem PySem.Spec PyProof.Rows L2

abbrev HP := HO → Prop
abbrev SH := List (Addr × HP)
/-- the object is o -/
def ob (o : HO) : HP := fun u => u = o
/-- a list of ints -/
abbrev iL (ns : List Int) : HP := ob (.lst (ns.map V.int))
structure Sym (L : SH) (H : Hp) : Prop where
  at_ : ∀ p ∈ L, ∃ o, H p.1 = some o ∧ p.2 o
  nd : (L.map Prod.fst).Nodup
def At (L : SH) (a : Addr) (P : HP) : Prop := (a, P) ∈ L
theorem At.hd {L : SH} {a : Addr} {P : HP} : At ((a, P) :: L) a P := List.mem_cons_self
theorem At.tl {L : SH} {a : Addr} {P : HP} {x : Addr × HP} (h : At L a P) : At (x :: L) a P := List.mem_cons_of_mem _ h
/-- R is L without one entry -/
inductive Pick : SH → Addr → HP → SH → Prop where
  | hd {a : Addr} {P : HP} {R : SH} : Pick ((a, P) :: R) a P R
  | tl {a : Addr} {P : HP} {R R' : SH} {x : Addr × HP} : Pick R a P R' → Pick (x :: R) a P (x :: R')
theorem Pick.at_ {L R : SH} {a : Addr} {P : HP} (h : Pick L a P R) : At L a P := by
  induction h with
  | hd => exact At.hd
  | tl _ ih => exact At.tl ih
theorem Pick.perm {L R : SH} {a : Addr} {P : HP} (h : Pick L a P R) : L.Perm ((a, P) :: R) := by
  induction h with
  | hd => exact .refl _
  | tl _ ih => exact (List.Perm.cons _ ih).trans (List.Perm.swap _ _ _)
theorem Sym.perm {L M : SH} {H : Hp} (h : Sym L H) (p : L.Perm M) : Sym M H :=
  ⟨fun x hx => h.at_ x (p.mem_iff.mpr hx), (p.map Prod.fst).nodup_iff.mp h.nd⟩
theorem Sym.tail {x : Addr × HP} {L : SH} {H : Hp} (h : Sym (x :: L) H) : Sym L H :=
  ⟨fun p hp => h.at_ p (List.mem_cons_of_mem _ hp), (List.nodup_cons.mp h.nd).2⟩
theorem Sym.cons {a : Addr} {P : HP} {L : SH} {H : Hp} (h : Sym L H) (hn : a ∉ L.map Prod.fst) (ha : ∃ o, H a = some o ∧ P o) : Sym ((a, P) :: L) H :=
  ⟨fun p hp => by
    rcases List.mem_cons.mp hp with e | hp
    · subst e; exact ha
    · exact h.at_ p hp, List.nodup_cons.mpr ⟨hn, h.nd⟩⟩
theorem Sym.pick {L R : SH} {H : Hp} {a : Addr} {P : HP} (h : Sym L H) (p : Pick L a P R) : Sym ((a, P) :: R) H := h.perm p.perm
theorem Sym.get {L : SH} {H : Hp} {a : Addr} {P : HP} (h : Sym L H) (m : At L a P) : ∃ o, H a = some o ∧ P o := h.at_ _ m
theorem Sym.ob {L : SH} {H : Hp} {a : Addr} {o : HO} (h : Sym L H) (m : At L a (LB.ob o)) : H a = some o := by
  obtain ⟨u, e, q⟩ := h.at_ _ m
  exact e.trans (congrArg some q)
theorem Sym.nin {L : SH} {H : Hp} {p : Addr} (h : Sym L H) (np : H p = none) : p ∉ L.map Prod.fst := fun hm => by
  obtain ⟨x, hx, e⟩ := List.mem_map.mp hm
  obtain ⟨o, q, _⟩ := h.at_ x hx
  rw [e, np] at q
  cases q
/-- a new object -/
theorem Sym.new {L : SH} {H : Hp} {p : Addr} (h : Sym L H) (np : H p = none) (o : HO) : Sym ((p, LB.ob o) :: L) (upd H p o) := by
  have n := h.nin np
  refine Sym.cons ⟨fun x hx => ?_, h.nd⟩ n ⟨o, upd_same, rfl⟩
  obtain ⟨u, e, q⟩ := h.at_ x hx
  refine ⟨u, ?_, q⟩
  rw [upd_ne (ne_of_none e np)]
  exact e
/-- an object of ours is changed -/
theorem Sym.put {L R : SH} {H : Hp} {a : Addr} {P : HP} (h : Sym L H) (p : Pick L a P R) (o : HO) : Sym ((a, LB.ob o) :: R) (upd H a o) := by
  have h' := h.pick p
  have n : a ∉ R.map Prod.fst := (List.nodup_cons.mp h'.nd).1
  refine Sym.cons ⟨fun x hx => ?_, h'.tail.nd⟩ n ⟨o, upd_same, rfl⟩
  obtain ⟨u, e, q⟩ := h'.tail.at_ x hx
  refine ⟨u, ?_, q⟩
  have hn : x.1 ∈ R.map Prod.fst := List.mem_map_of_mem hx
  have hne : x.1 ≠ a := fun z => n (by rw [← z]; exact hn)
  rw [upd_ne hne]
  exact e
theorem Sym.imp {L R : SH} {H : Hp} {a : Addr} {P P' : HP} (h : Sym L H) (p : Pick L a P R) (q : ∀ o, P o → P' o) : Sym ((a, P') :: R) H := by
  have h' := h.pick p
  obtain ⟨o, e, r⟩ := h'.get At.hd
  exact h'.tail.cons (List.nodup_cons.mp h'.nd).1 ⟨o, e, q o r⟩
/-- what stands at a is told exactly -/
theorem Sym.open {L R : SH} {H : Hp} {a : Addr} {P : HP} (h : Sym L H) (p : Pick L a P R) : ∃ o, P o ∧ Sym ((a, LB.ob o) :: R) H := by
  have h' := h.pick p
  obtain ⟨o, e, r⟩ := h'.get At.hd
  exact ⟨o, r, h'.tail.cons (List.nodup_cons.mp h'.nd).1 ⟨o, e, rfl⟩⟩
theorem Sym.same {L : SH} {H H' : Hp} (h : Sym L H) (s : Same H H') : Sym L H' :=
  ⟨fun p hp => let ⟨o, e, q⟩ := h.at_ p hp; ⟨o, s _ _ e, q⟩, h.nd⟩
theorem Sym.same1 {L : SH} {H H' : Hp} {p : Addr} {o : HO} (h : Sym L H) (s : Same H H') (np : H p = none) (hp : H' p = some o) : Sym ((p, LB.ob o) :: L) H' :=
  (h.same s).cons (h.nin np) ⟨o, hp, rfl⟩
theorem Sym.nil {H : Hp} : Sym [] H := ⟨fun _ h => absurd h (by simp), List.nodup_nil⟩
theorem Sym.one {H : Hp} {a : Addr} {o : HO} (h : H a = some o) : Sym [(a, LB.ob o)] H := Sym.nil.cons (by simp) ⟨o, h, rfl⟩
theorem Sym.ne {L R : SH} {H : Hp} {a b : Addr} {P P' : HP} (h : Sym L H) (p : Pick L a P R) (m : At R b P') : b ≠ a := fun z => by
  have n := (List.nodup_cons.mp (h.pick p).nd).1
  have hn : b ∈ R.map Prod.fst := List.mem_map.mpr ⟨_, m, rfl⟩
  exact n (z ▸ hn)
/-- fewer entries, in another sequence -/
inductive Sub : SH → SH → Prop where
  | refl {L : SH} : Sub L L
  | nil {L : SH} : Sub [] L
  | drop {L M : SH} {x : Addr × HP} : Sub L M → Sub L (x :: M)
  | cons {L M R : SH} {a : Addr} {P : HP} : Pick M a P R → Sub L R → Sub ((a, P) :: L) M
  | weak {L M R : SH} {a : Addr} {P P' : HP} : Pick M a P R → (∀ o, P o → P' o) → Sub L R → Sub ((a, P') :: L) M
theorem Sub.sym {L M : SH} (s : Sub L M) : ∀ {H : Hp}, Sym M H → Sym L H := by
  induction s with
  | refl => exact fun h => h
  | nil => exact fun _ => Sym.nil
  | drop _ ih => exact fun h => ih h.tail
  | @cons L M R a P p s ih =>
    intro H h
    have h' := h.pick p
    have hl := ih h'.tail
    refine hl.cons (fun hm => ?_) (h'.get At.hd)
    have n := (List.nodup_cons.mp h'.nd).1
    have sub : ∀ {L M : SH}, Sub L M → ∀ x, x ∈ L.map Prod.fst → x ∈ M.map Prod.fst := by
      intro L M s
      induction s with
      | refl => exact fun _ h => h
      | nil => exact fun _ h => absurd h (by simp)
      | drop _ ih => exact fun x h => List.mem_cons_of_mem _ (ih x h)
      | cons p _ ih =>
        intro x h
        have e := (p.perm.map Prod.fst).mem_iff (a := x)
        refine e.mpr ?_
        rcases List.mem_cons.mp h with z | z
        · exact z ▸ List.mem_cons_self
        · exact List.mem_cons_of_mem _ (ih x z)
      | weak p _ _ ih =>
        intro x h
        have e := (p.perm.map Prod.fst).mem_iff (a := x)
        refine e.mpr ?_
        rcases List.mem_cons.mp h with z | z
        · exact z ▸ List.mem_cons_self
        · exact List.mem_cons_of_mem _ (ih x z)
    exact n (sub s a hm)
  | @weak L M R a P P' p q s ih =>
    intro H h
    have h' := h.pick p
    have hl := ih h'.tail
    obtain ⟨o, e, r⟩ := h'.get At.hd
    refine hl.cons (fun hm => ?_) ⟨o, e, q o r⟩
    have n := (List.nodup_cons.mp h'.nd).1
    have sub : ∀ {L M : SH}, Sub L M → ∀ x, x ∈ L.map Prod.fst → x ∈ M.map Prod.fst := by
      intro L M s
      induction s with
      | refl => exact fun _ h => h
      | nil => exact fun _ h => absurd h (by simp)
      | drop _ ih => exact fun x h => List.mem_cons_of_mem _ (ih x h)
      | cons p _ ih =>
        intro x h
        have e := (p.perm.map Prod.fst).mem_iff (a := x)
        refine e.mpr ?_
        rcases List.mem_cons.mp h with z | z
        · exact z ▸ List.mem_cons_self
        · exact List.mem_cons_of_mem _ (ih x z)
      | weak p _ _ ih =>
        intro x h
        have e := (p.perm.map Prod.fst).mem_iff (a := x)
        refine e.mpr ?_
        rcases List.mem_cons.mp h with z | z
        · exact z ▸ List.mem_cons_self
        · exact List.mem_cons_of_mem _ (ih x z)
    exact n (sub s a hm)
theorem Sym.sub {L M : SH} {H : Hp} (h : Sym M H) (s : Sub L M) : Sym L H := s.sym h

/-! ### a list that is read -/
/-- a list of xs is to be read at a -/
def Ls (K : PySem.W.Frag) (L : SH) (a : Addr) (xs : List V) : Prop :=
  (∃ P, At L a P ∧ ∀ o, P o → o = .lst xs ∨ ∃ ob, o = .frz ob (.lst xs)) ∨
    ∃ (o : Obj) (its : Array Value) (n : Nat), K.lookup a = some o ∧ o.cls = .type "list" ∧ o.dict = none ∧ o.data = .seq its n ∧ its.size ≤ sizeLine ∧ Vals xs its.toList
theorem Ls.of {K : PySem.W.Frag} {L : SH} {a : Addr} {xs : List V} (h : At L a (LB.ob (.lst xs))) : Ls K L a xs := .inl ⟨_, h, fun _ e => .inl e⟩
theorem Ls.tl {K : PySem.W.Frag} {L : SH} {a : Addr} {xs : List V} {x : Addr × HP} (h : Ls K L a xs) : Ls K (x :: L) a xs := by
  rcases h with ⟨P, m, q⟩ | h
  · exact .inl ⟨P, m.tl, q⟩
  · exact .inr h
theorem Ls.sq {K : PySem.W.Frag} {L : SH} {H : Hp} {a : Addr} {xs : List V} (h : Ls K L a xs) (s : Sym L H) : SqL K H a xs := by
  rcases h with ⟨P, m, q⟩ | h
  · obtain ⟨o, e, r⟩ := s.get m
    rcases q o r with z | ⟨ob, z⟩
    · exact .inl (.inl (e.trans (congrArg some z)))
    · exact .inl (.inr ⟨ob, e.trans (congrArg some z)⟩)
  · exact .inr h
/-- a tuple that is read -/
def Ts (K : PySem.W.Frag) (L : SH) (a : Addr) (xs : List V) : Prop := At L a (LB.ob (.tup xs))
theorem Ts.sq {K : PySem.W.Frag} {L : SH} {H : Hp} {a : Addr} {xs : List V} (h : At L a (LB.ob (.tup xs))) (s : Sym L H) : SqT K H a xs := .inl (.inl (s.ob h))
theorem ls_of_sq {K : PySem.W.Frag} {H : Hp} {a : Addr} {xs : List V} (h : SqL K H a xs) : ∃ L, Sym L H ∧ Ls K L a xs ∧ ∀ x ∈ L, x.1 = a := by
  rcases h with (h | ⟨ob, h⟩) | h
  · exact ⟨[(a, LB.ob (.lst xs))], Sym.one h, Ls.of At.hd, by simp⟩
  · exact ⟨[(a, LB.ob (.frz ob (.lst xs)))], Sym.one h, .inl ⟨_, At.hd, fun _ e => .inr ⟨ob, e⟩⟩, by simp⟩
  · exact ⟨[], Sym.nil, .inr h, by simp⟩

theorem sz {n : Nat} (h : n ≤ 1000000) : n ≤ sizeLine := Nat.le_trans h (by decide)
theorem szl {n : Nat} (h : n < 1000000) : n < sizeLine := Nat.lt_of_lt_of_le h (by decide)
/-! ### places -/
section
variable {L : SH} {H : Hp} {σ : L2.St}
/-- a new list, a new tuple -/
theorem r_lst {xs : List V} {Q : VK} (hS : Sym L H) (hz : xs.length ≤ 1000000) (k : ∀ p H', Sym ((p, LB.ob (.lst xs)) :: L) H' → Q (.ref p) H') : xs.length ≤ sizeLine ∧ ∀ p, H p = none → Q (.ref p) (upd H p (.lst xs)) :=
  ⟨sz hz, fun p np => k p _ (hS.new np _)⟩
theorem r_tup {xs : List V} {Q : VK} (hS : Sym L H) (hz : xs.length ≤ 1000000) (k : ∀ p H', Sym ((p, LB.ob (.tup xs)) :: L) H' → Q (.ref p) H') : xs.length ≤ sizeLine ∧ ∀ p, H p = none → Q (.ref p) (upd H p (.tup xs)) :=
  ⟨sz hz, fun p np => k p _ (hS.new np _)⟩
theorem r_new {o : HO} {Q : VK} (hS : Sym L H) (k : ∀ p H', Sym ((p, LB.ob o) :: L) H' → Q (.ref p) H') : ∀ p, H p = none → Q (.ref p) (upd H p o) :=
  fun p np => k p _ (hS.new np _)
end

/-! ### numbers -/
/-- both below ten to the hundredth -/
def Mid (i : Int) : Prop := i.natAbs < 10 ^ 100
theorem Mid.bits {i : Int} (h : Mid i) : Builtin.Int.intBits i ≤ 400 := by
  unfold Builtin.Int.intBits
  split
  · exact Nat.zero_le _
  · rename_i hz
    have h2 : i.natAbs < 2 ^ 399 := Nat.lt_of_lt_of_le h (by decide)
    have h3 : i.natAbs.log2 < 399 := PySem.Flt.log2_lt_of (by decide) h2
    omega
theorem mid_of {i : Int} (h : -(10 ^ 99) < i ∧ i < 10 ^ 99) : Mid i := by
  unfold Mid
  have e : (10 : Nat) ^ 100 = 10 * 10 ^ 99 := by decide
  have e2 : ((10 : Nat) ^ 99 : Int) = (10 : Int) ^ 99 := by decide
  omega
section
variable {X : Cx}
theorem mulok {i j : Int} (h : Mid i ∧ Mid j) : IntMulOk i j := by
  have h1 := h.1.bits
  have h2 := h.2.bits
  have e : bitsLine = 134217728 := by decide
  unfold IntMulOk
  intro z
  rw [Bool.and_eq_true] at z
  have z2 := z.2
  unfold Builtin.Int.intTooBig at z2
  have z3 := of_decide_eq_true z2
  rw [e] at z3
  omega
theorem op_mulM : OpR X (binaryOp .Mult) (rI (fun i j => Mid i ∧ Mid j) fun i j => .int (i * j)) := opI fun _ _ _ _ _ _ _ hc q => mul_int q (mulok hc)
theorem op_powM : OpR X (binaryOp .Pow) (rI (fun i j => Mid i ∧ 0 ≤ j ∧ j ≤ 1000) fun i j => .int (i ^ j.toNat)) := opI fun i j _ _ _ _ _ hc q => by
  have h1 := hc.1.bits
  have h2 : (0 : Int) ≤ Builtin.Int.intBits i := Int.natCast_nonneg _
  refine pow_int hc.2.1 ?_ q
  have h3 : (Builtin.Int.intBits i : Int) * j ≤ 400 * 1000 := Int.mul_le_mul (by omega) hc.2.2 hc.2.1 (by decide)
  exact Int.le_trans h3 (by decide)
theorem op_fdivM : OpR X (binaryOp .FloorDiv) (rI (fun _ j => 0 < j ∧ Mid j) fun i j => .int (i / j)) := opI fun i j _ _ _ _ _ hc q => by
  have h1 : (0 : Int) < j := hc.1
  have h2 : j.natAbs < 2 ^ 399 := Nat.lt_of_lt_of_le hc.2 (by decide)
  have h3 : j.natAbs.log2 < 9000 := Nat.lt_of_lt_of_le (PySem.Flt.log2_lt_of (by decide) h2) (by decide)
  exact floordiv_int (by omega) (by rw [Int.fdiv_eq_ediv_of_nonneg i (by omega)]; exact q) (.inl (PyProof.noPylong_of_log2 h3))
end
end LB
set_option Elab.async false
set_option linter.all false
set_option maxRecDepth 100000
set_option maxHeartbeats 2000000
set_option exponentiation.threshold 600
/-! rules of our own over the hand layer: defs with the state of the guards told, calls, constants, repr -/
namespace LB
open PySem PySem.Spec PyProof.Rows L2

/-! ### defs: room, and no container is being shown -/
structure Rm (k : Nat) (A : Around) : Prop where
  r : Room k A
  g : A.guards = some []
theorem Rm.mono {j k : Nat} {A : Around} (h : Rm k A) (l : j ≤ k) : Rm j A := ⟨h.r.mono l, h.g⟩
theorem Rm.u64 {k : Nat} {A : Around} (h : Rm k A) : A.units + 64 < cLine := by have := h.r.un; omega
theorem Rm.hu {k : Nat} {A : Around} (h : Rm k A) : A.units + 1 < cLine := by have := h.r.un; omega

section
variable {P : Program} {w : World} {K : PySem.W.Frag} {mg : Str → Option Value} {base : Heap}
/-- the def at f keeps the promise sp where there is room and nothing is being shown -/
structure FnG (P : Program) (w : World) (K : PySem.W.Frag) (mg : Str → Option Value) (base : Heap) (CX : CXT) (k : Nat) (f : Addr) (fd : FuncData) (ps : List Str) (sp : Sp) : Prop where
  len : ∀ vs H Q E, sp vs H Q E → vs.length = ps.length
  run : ∀ {A : Around} {outer : List Env} {s : Shared} {H : Hp} {args : Args} {us : List Value} {vs : List V} {Q : VK} {E : XK},
    Rm k A → Env0 P w K mg base A outer s H → BindsTo s fd args (ps.zip us) → Vals vs us → sp vs H Q E →
      codeAny (model P w) A (.call (.ref f) args) (CR CX outer P w H s Q E) s
theorem okG {CX : CXT} {x qual : Str} {st : Stmt} {f : Addr} {fd : FuncData} {N ps : List Str} {k : Nat} {sp : Sp} (F : Fun K x qual st f fd) (S : FnScope N ps (defScope st))
    (len : ∀ vs H Q E, sp vs H Q E → vs.length = ps.length)
    (body : ∀ (cdv : Value) (A : Around) (outer : List Env) (s : Shared) (H : Hp) (vs : List V) (Q : VK) (E : XK),
      Rm k (A.deeper (envOfC qual (defScope st) s.heap.objs.size f cdv)) → sp vs H Q E →
        ∃ t, PSs (cxOf CX P w K mg base N qual (defScope st) f cdv A outer s H E) (defBody st) t ∧ t { nx := fun _ H' => Q .non H', rt := Q } (start N vs) H) :
    FnG P w K mg base CX (k + 1) f fd ps sp := by
  obtain ⟨oc, od, kV, doc, pm, an, cdv, ct, osl, rfl, lk, hcd⟩ := F.ex
  constructor
  · exact len
  intro A outer s H args us vs Q E hr e0 hb r hsp
  have hin : ∀ b o, base.get? b = some o → s.heap.get? b = some o := fun b o e => (e0.bs b o e).1
  have KX := e0.mod.kin.keeps hin
  have kinds : ∀ y ∈ ps.zip us, (defScope st).names.lookup y.1 = some .local ∨
      ((defScope st).names.lookup y.1 = some .cell ∧ ((cellsFrom (s.heap.objs.size + 1) (defScope st).names []).lookup y.1).isSome = true) := by
    rintro ⟨n, v⟩ hy
    rcases S.par n (List.of_mem_zip hy).1 with q | q
    · exact Or.inl q
    · exact Or.inr ⟨q, PySem.W.cellsFrom_some _ _ _ (Or.inl q)⟩
  apply codeAny_call_function hr.r.depth (KX _ _ lk) rfl S.co S.gen rfl (PySem.W.codeRec_of KX hcd) (hb _ _ _ _ _)
  refine wpAny_newFunctionEnv_cells S.kind kinds ?_
  rintro env rfl s1 x
  refine ⟨(e0.mod.nolimit.keeps hin).keeps x.toInCall.keep, codeAny_func ?_⟩
  obtain ⟨t, ht, hq⟩ := body cdv A outer s H vs Q E ⟨hr.r.deeper _, hr.g⟩ hsp
  have I := inv_start (CX := CX) (E := E) S hr.r.hd e0 (len _ _ _ _ hsp) r x
  refine wpAny_mono (ht.run [] s1 (start N vs) H _ I hq) ?_ fun e s' z => z
  intro fl s' z
  cases fl with
  | brk => obtain ⟨_, _, _, q⟩ := z; exact q.elim
  | cont => obtain ⟨_, _, _, q⟩ := z; exact q.elim
  | next => obtain ⟨σ', H', J, q⟩ := z; exact ⟨V.non, H', J.os, J.bare, J.base, J.hok, rfl, q⟩
  | ret u => obtain ⟨v, σ', H', J, rv, q⟩ := z; exact ⟨v, H', J.os, J.bare, J.base, J.hok, rv, q⟩

/-- the same where nothing leaves the def's body -/
theorem okG0 {x qual : Str} {st : Stmt} {f : Addr} {fd : FuncData} {N ps : List Str} {k : Nat} {sp : Sp} (F : Fun K x qual st f fd) (S : FnScope N ps (defScope st))
    (len : ∀ vs H Q E, sp vs H Q E → vs.length = ps.length)
    (body : ∀ (cdv : Value) (A : Around) (outer : List Env) (s : Shared) (H : Hp) (vs : List V) (Q : VK) (E : XK),
      Rm k (A.deeper (envOfC qual (defScope st) s.heap.objs.size f cdv)) → sp vs H Q E →
        ∃ t, PSs (cxOf CX0 P w K mg base N qual (defScope st) f cdv A outer s H E).nox (defBody st) t ∧ t { nx := fun _ H' => Q .non H', rt := Q } (start N vs) H) :
    FnG P w K mg base CX0 (k + 1) f fd ps sp := okG F S len fun cdv A outer s H vs Q E hr h => by
  obtain ⟨t, p, q⟩ := body cdv A outer s H vs Q E hr h
  exact ⟨t, p.nox, q⟩
/-- all that a caller wants to know of the def that the module's name x holds -/
structure Has (P : Program) (w : World) (K : PySem.W.Frag) (mg : Str → Option Value) (base : Heap) (CX : CXT) (x : Str) (ps : List Str) (k : Nat) (sp : Sp) : Prop where
  ex : ∃ f fd, FnG P w K mg base CX k f fd ps sp ∧ mg x = some (.ref f) ∧ PySem.W.keepIn K (.ref f) = true ∧ Binds K fd ps []
theorem has_of {CX : CXT} {x : Str} {st : Stmt} {f : Addr} {fd : FuncData} {ps : List Str} {k : Nat} {sp : Sp} (F : Fun K x x st f fd) (G : FnG P w K mg base CX k f fd ps sp) (gm : mg x = some (.ref f))
    (h : ∀ (kV doc pm : Value) (an : Option Addr) (cdv ct : Value) (us : List Value), us.length = ps.length → bindArgs (PySem.W.fnOf x x (defArgs st) (defBody st) (defScope st) .none kV doc pm an cdv ct) ⟨us, []⟩ = pure (ps.zip us)) :
    Has P w K mg base CX x ps k sp := ⟨f, fd, G, gm, F.kp, F.binds h⟩
theorem Has.imp {CX : CXT} {x : Str} {ps : List Str} {k : Nat} {sp sp' : Sp} (h : Has P w K mg base CX x ps k sp) (q : ∀ vs H Q E, sp' vs H Q E → sp vs H Q E) : Has P w K mg base CX x ps k sp' := by
  obtain ⟨f, fd, G, a, b, c⟩ := h.ex
  exact ⟨f, fd, ⟨fun vs H Q E z => G.len vs H Q E (q _ _ _ _ z), fun hr e0 hb r hs => G.run hr e0 hb r (q _ _ _ _ hs)⟩, a, b, c⟩
end

section
variable {X : Cx} {CX : CXT} {k : Nat} {ps : List Str} {sp : Sp} {E : XK} {x : Str} {p pos : Pos} {e : Expr} {es : List Expr} {t : TA}
theorem run_G {f : Addr} {fd : FuncData} {pins : List (Addr × Obj)} {σ : L2.St} {H : Hp} {s : Shared} {Q : VK} {us : List Value} {vs : List V} (F : FnG X.prog X.w X.K X.mg X.base CX k f fd ps sp) (hr : Rm k X.A) (hb : Binds X.K fd ps []) (hx : Passes CX X E)
    (I : Inv X pins σ H s) (r : Vals vs us) (h : sp vs H Q E) : wpAny (model X.prog X.w) X.A (call (.ref f) us) (EP X pins σ Q) X.xe s := by
  have hl : (us ++ []).length = ps.length := by rw [List.append_nil, ← r.length]; exact F.len _ _ _ _ h
  have hbs := hb s us I.kIn hl
  rw [List.append_nil] at hbs
  apply wpAny_call
  refine codeAny_mono (F.run hr I.env0 hbs r h) ?_
  intro res s' hq
  match res, hq with
  | .error e, hq => exact hx pins σ H s e s' I hq
  | .ok (.ret u), hq => exact I.after hq
/-- f(e, ..), nothing is raised -/
theorem pe_callHE (h : Has X.prog X.w X.K X.mg X.base CX x ps k sp) (hr : Rm k X.A) (hg : Gl X x) (hx : Passes CX X E) (ha : PA X (e :: es) t) (hdb : (x == ("__debug__" : Str)) = false := by decide)
    (he : starEach (e :: es) X.env = (false, eval e X.env) :: starEach es X.env := by rfl) (hpl : (backTo pos (starEach es X.env)).any (·.1) = false := by rfl) :
    PE X (.Call (.Name x p) (e :: es) [] pos) (tCall sp [] E t) := by
  obtain ⟨f, fd, G, gm, hk, hb⟩ := h.ex
  constructor
  intro pins s σ H Q I q
  refine wpAny_Call_Name_kw (ld_glob I hg gm ?_ hdb)
  refine PySem.W.callWith_K (h₀ := X.base) I.ok.mod.kin hk (thn (ha.run pos pins s σ H _ I q) ?_) he hpl
  rintro us s1 ⟨vs, H1, I1, r, z⟩
  rw [List.append_nil] at z
  exact ⟨I1.kIn, run_G G hr hb hx I1 r z⟩
theorem pe_callH (h : Has X.prog X.w X.K X.mg X.base CX0 x ps k sp) (hr : Rm k X.A) (hg : Gl X x) (ha : PA X (e :: es) t) (hdb : (x == ("__debug__" : Str)) = false := by decide)
    (he : starEach (e :: es) X.env = (false, eval e X.env) :: starEach es X.env := by rfl) (hpl : (backTo pos (starEach es X.env)).any (·.1) = false := by rfl) :
    PE X (.Call (.Name x p) (e :: es) [] pos) (tCall sp [] E0 t) := pe_callHE h hr hg pass0 ha hdb he hpl
end

/-! ### constants -/
section
variable {X : Cx} {a b : Expr} {i j v : Int} {pos : Pos}
theorem pe_same {e : Expr} {t t' : TE} (h : PE X e t) (q : ∀ σ H Q, t' σ H Q → t σ H Q) : PE X e t' := ⟨fun pins s σ H Q I z => h.run pins s σ H Q I (q _ _ _ z)⟩
theorem pe_globI {x : Str} (hg : Gl X x) (hm : ∃ t, X.mg x = some (.int v t)) (hd : (x == ("__debug__" : Str)) = false := by decide) : PE X (.Name x pos) (tC (.int v)) := by
  obtain ⟨t, e⟩ := hm
  exact pe_glob hg e ⟨t, rfl⟩ hd
theorem pe_addC (ha : PE X a (tC (.int i))) (hb : PE X b (tC (.int j))) (e : i + j = v) : PE X (.BinOp a .Add b pos) (tC (.int v)) :=
  pe_same (pe_op op_add ha hb) fun _ _ _ z => by subst e; exact ⟨i, j, rfl, rfl, z⟩
theorem pe_subC (ha : PE X a (tC (.int i))) (hb : PE X b (tC (.int j))) (e : i - j = v) : PE X (.BinOp a .Sub b pos) (tC (.int v)) :=
  pe_same (pe_op op_sub ha hb) fun _ _ _ z => by subst e; exact ⟨i, j, rfl, rfl, z⟩
theorem pe_mulC (ha : PE X a (tC (.int i))) (hb : PE X b (tC (.int j))) (m : Mid i ∧ Mid j) (e : i * j = v) : PE X (.BinOp a .Mult b pos) (tC (.int v)) :=
  pe_same (pe_op op_mulM ha hb) fun _ _ _ z => by subst e; exact ⟨i, j, rfl, rfl, m, z⟩
theorem pe_powC (ha : PE X a (tC (.int i))) (hb : PE X b (tC (.int j))) (m : Mid i ∧ 0 ≤ j ∧ j ≤ 1000) (e : i ^ j.toNat = v) : PE X (.BinOp a .Pow b pos) (tC (.int v)) :=
  pe_same (pe_op op_powM ha hb) fun _ _ _ z => by subst e; exact ⟨i, j, rfl, rfl, m, z⟩
theorem pe_negC (ha : PE X a (tC (.int i))) {v : Int} (e : -i = v) : PE X (.UnaryOp .USub a pos) (tC (.int v)) :=
  pe_same (pe_un un_neg ha) fun _ _ _ z => by subst e; exact ⟨i, rfl, z⟩
end
def midB (i : Int) : Bool := decide (i.natAbs < 10 ^ 100)
theorem mid_b {i : Int} (h : midB i = true) : Mid i := of_decide_eq_true (p := i.natAbs < 10 ^ 100) h
theorem mid2 {i j : Int} (h : (midB i && midB j) = true) : Mid i ∧ Mid j := by
  rw [Bool.and_eq_true] at h
  exact ⟨mid_b h.1, mid_b h.2⟩
theorem midp {i j : Int} (h : (midB i && decide (0 ≤ j) && decide (j ≤ 1000)) = true) : Mid i ∧ 0 ≤ j ∧ j ≤ 1000 := by
  rw [Bool.and_eq_true, Bool.and_eq_true] at h
  exact ⟨mid_b h.1.1, of_decide_eq_true h.1.2, of_decide_eq_true h.2⟩

/-! ### x *= e -/
section
variable {X : Cx}
theorem ip_mulM : PIp X .Mult (fun x y H Q => ∃ i j, x = .int i ∧ y = .int j ∧ (Mid i ∧ Mid j) ∧ Q (.int (i * j)) H) := by
  intro pins s σ H x y v u Q I r1 r2 h
  obtain ⟨i, j, rfl, rfl, m, q⟩ := h
  obtain ⟨t, rfl⟩ := r1
  obtain ⟨t', rfl⟩ := r2
  exact imul_int ⟨.int _, H, I.tok _, ⟨_, rfl⟩, q⟩ (mulok m)
end

/-! ### calls with keywords -/
/-- as Has, for one way of giving keywords -/
structure HasK (P : Program) (w : World) (K : PySem.W.Frag) (mg : Str → Option Value) (base : Heap) (CX : CXT) (x : Str) (ps ks : List Str) (g : List Value → List Value → List Value) (gV : List V → List V → List V) (k : Nat) (sp : Sp) : Prop where
  ex : ∃ f fd, FnG P w K mg base CX k f fd ps sp ∧ mg x = some (.ref f) ∧ PySem.W.keepIn K (.ref f) = true ∧ KBinds K fd ps ks g gV
section
variable {X : Cx} {CX : CXT} {k : Nat} {ps ks : List Str} {sp : Sp} {E : XK} {x : Str} {p pos : Pos} {e : Expr} {es : List Expr} {t tk : TA} {kws : List Keyword} {g : List Value → List Value → List Value} {gV : List V → List V → List V}
theorem run_GK {f : Addr} {fd : FuncData} {pins : List (Addr × Obj)} {σ : L2.St} {H : Hp} {s : Shared} {Q : VK} {us ws : List Value} {vs zs : List V} (F : FnG X.prog X.w X.K X.mg X.base CX k f fd ps sp) (hr : Rm k X.A) (hb : KBinds X.K fd ps ks g gV) (hx : Passes CX X E)
    (I : Inv X pins σ H s) (r : Vals vs us) (rz : Vals zs ws) (h : sp (gV vs zs) H Q E) : wpAny (model X.prog X.w) X.A (call (.ref f) us (ks.zip ws)) (EP X pins σ Q) X.xe s := by
  have r2 := hb.rel r rz
  have hl : (g us ws).length = ps.length := by rw [← r2.length]; exact F.len _ _ _ _ h
  apply wpAny_call
  refine codeAny_mono (F.run hr I.env0 (hb.to s us ws I.kIn hl) r2 h) ?_
  intro res s' hq
  match res, hq with
  | .error e, hq => exact hx pins σ H s e s' I hq
  | .ok (.ret u), hq => exact I.after hq
theorem pe_callHKE (h : HasK X.prog X.w X.K X.mg X.base CX x ps ks g gV k sp) (hr : Rm k X.A) (hg : Gl X x) (hx : Passes CX X E) (ha : PA X (e :: es) t) (hkw : PK X kws tk)
    (hall : (backToKw pos (keywordEach kws X.env)).all (·.1.isSome) = true := by rfl) (hks : (backToKw pos (keywordEach kws X.env)).filterMap (·.1) = ks := by rfl)
    (hdb : (x == ("__debug__" : Str)) = false := by decide) (he : starEach (e :: es) X.env = (false, eval e X.env) :: starEach es X.env := by rfl)
    (hpl : ((backTo pos (starEach (e :: es) X.env)).any (·.1) || (backToKw pos (keywordEach kws X.env)).any (·.1.isNone)) = false := by rfl) :
    PE X (.Call (.Name x p) (e :: es) kws pos) (tCallK sp gV E t tk) := by
  obtain ⟨f, fd, G, gm, hk, hb⟩ := h.ex
  constructor
  intro pins s σ H Q I q
  refine wpAny_Call_Name_kw (ld_glob I hg gm ?_ hdb)
  refine PySem.W.callWith_KW (h₀ := X.base) I.ok.mod.kin hk hall (thn (ha.run pos pins s σ H _ I q) ?_) hpl he
  rintro us s1 ⟨vs, H1, I1, r, q1⟩
  refine thn (hkw.run pos pins s1 σ H1 _ I1 q1) ?_
  rintro ws s2 ⟨zs, H2, I2, rz, q2⟩
  rw [hks]
  exact ⟨I2.kIn, run_GK G hr hb hx I2 r rz q2⟩
theorem pe_callHK (h : HasK X.prog X.w X.K X.mg X.base CX0 x ps ks g gV k sp) (hr : Rm k X.A) (hg : Gl X x) (ha : PA X (e :: es) t) (hkw : PK X kws tk)
    (hall : (backToKw pos (keywordEach kws X.env)).all (·.1.isSome) = true := by rfl) (hks : (backToKw pos (keywordEach kws X.env)).filterMap (·.1) = ks := by rfl)
    (hdb : (x == ("__debug__" : Str)) = false := by decide) (he : starEach (e :: es) X.env = (false, eval e X.env) :: starEach es X.env := by rfl)
    (hpl : ((backTo pos (starEach (e :: es) X.env)).any (·.1) || (backToKw pos (keywordEach kws X.env)).any (·.1.isNone)) = false := by rfl) :
    PE X (.Call (.Name x p) (e :: es) kws pos) (tCallK sp gV E0 t tk) := pe_callHKE h hr hg pass0 ha hkw hall hks hdb he hpl
end

/-! ### repr of data -/
section
variable {X : Cx}
theorem dp_nodict {K : PySem.W.Frag} {H : Hp} : ∀ {v : V} {d : PyData}, Dp K H v d → d.hasDict = false := by
  intro v d h
  refine Dp.rec (motive_1 := fun _ d _ => d.hasDict = false) (motive_2 := fun _ ds _ => PyData.hasDictAll ds = false) rfl (fun _ => rfl) (fun _ => rfl) (fun _ => rfl) (fun _ _ ih => ?_) (fun _ _ ih => ?_) rfl (fun _ _ a b => ?_) h
  · simpa only [PyData.hasDict] using ih
  · simpa only [PyData.hasDict] using ih
  · simp only [PyData.hasDictAll, a, b, Bool.or_self]
def rRepr (K : PySem.W.Frag) : List V → Hp → VK → Prop := fun xs H Q => ∃ a d, xs = [.ref a] ∧ Dp K H (.ref a) d ∧ d.showable = true ∧ d.depth ≤ 60 ∧ d.shown.length ≤ sizeLine ∧ Q (.str d.shown) H
theorem call_repr {k : Nat} (hr : Rm k X.A) : CallR X (.builtin "repr") (rRepr X.K) := by
  intro pins s σ H xs us Q I r h
  obtain ⟨a, d, rfl, hd, sh, dp, sz, q⟩ := h
  obtain ⟨u, rfl, rx⟩ := vals1 r
  cases rx
  obtain ⟨as, rd⟩ := Dp.reads I d (.ref a) _ hd rfl
  have hun := hr.r.un
  refine repr_of_reads' rd sh (fun z => by rw [dp_nodict hd] at z; cases z) hr.g (by omega) (fun _ _ e => e) ?_ sz
  intro h' u tk hk
  exact ⟨.str d.shown, H, I.kept hk, ⟨_, rfl⟩, q⟩
end

/-! ### xs[::c], c is 1 or -1 -/
theorem pick_one (its : List Value) : slicePick its.toArray none none (some 1) = its.toArray := by
  have h := slicePick_cut its none none
  have e : slicePick its.toArray none none (some 1) = slicePick its.toArray none none none := rfl
  rw [e, h, HT.sIx_none, HT.sIx_none]
  simp
section
variable {X : Cx}
def tStepL (K : PySem.W.Frag) (te tc : TE) : TE := fun σ H Q => te σ H fun x H1 => tPart tc σ H1 fun o H2 => ∃ a xs c, x = .ref a ∧ o = some c ∧ SqL K H2 a xs ∧
  ((c = 1 ∧ ∀ p, H2 p = none → Q (.ref p) (upd H2 p (.lst xs))) ∨ (c = -1 ∧ ∀ p, H2 p = none → Q (.ref p) (upd H2 p (.lst xs.reverse))))
theorem pe_stepL {e c : Expr} {te tc : TE} {p3 pos : Pos} (he : PE X e te) (hc : PE X c tc) : PE X (.Subscript e (.Slice none none (some c) p3) pos) (tStepL X.K te tc) := by
  constructor
  intro pins s σ H Q I h
  refine Subscript_ (thn (he.run pins s σ H _ I h) ?_)
  rintro v s1 ⟨x, H1, I1, r1, q1⟩
  refine wpAny_Slice (thn (po_none.run pins s1 σ H1 (fun o H2 => o = none ∧ H2 = H1) I1 ⟨rfl, rfl⟩) ?_)
  rintro vl s2 ⟨l, H2, I2, pl, rfl, rfl⟩
  refine thn (po_none.run pins s2 σ _ (fun o H3 => o = none ∧ H3 = _) I2 ⟨rfl, rfl⟩) ?_
  rintro vu s3 ⟨u, H3, I3, pu, rfl, rfl⟩
  refine thn ((po_some hc).run pins s3 σ _ _ I3 q1) ?_
  rintro vs s4 ⟨o, H4, I4, ps, a, xs, cc, rfl, rfl, hx, q⟩
  cases r1
  have I5 : Inv X pins σ H4 { s4 with heap := s4.heap.push { cls := .type "slice", data := .fields #[vl, vu, vs] } } := I4.kept (t' := s4.toks) fun b o e => Heap.get?_push_of_some _ e
  obtain ⟨its, r, ht, hz⟩ := I5.list hx
  have hlen := r.length
  have hne : (some cc : Option Int) ≠ some 0 := by
    intro z
    cases z
    rcases q with ⟨z, _⟩ | ⟨z, _⟩ <;> cases z
  show wpAny _ _ (subscriptTail e _ (.ref a) (.ref s4.heap.objs.size)) _ _ _
  refine tail_any (ops := [.ref a, .ref s4.heap.objs.size]) ht.isList.typeIs (PySem.slot_list_getitem.lookup) ?_ (by with_unfolding_all rfl)
  refine wpAny_getItem_list_slice ht.isList (Heap.IsSliceOf.new _ vl vu vs) pl pu ps hne ?_ (by rw [List.size_toArray]; omega)
  rcases q with ⟨rfl, q⟩ | ⟨rfl, q⟩
  · rw [pick_one]
    exact ⟨.ref _, _, I5.laid (t' := s4.toks) (o := .lst xs) (fun b o e => Heap.get?_push_of_some _ e) (Nat.le_refl _) ⟨hz, _, 0, r, Heap.get?_push_size _ rfl⟩, rfl, q _ (I5.hok.fresh (Nat.le_refl _))⟩
  · rw [PySem.W.krv_pick]
    exact ⟨.ref _, _, I5.laid (t' := s4.toks) (o := .lst xs.reverse) (fun b o e => Heap.get?_push_of_some _ e) (Nat.le_refl _) ⟨by rw [List.length_reverse]; exact hz, _, 0, r.reverse, Heap.get?_push_size _ rfl⟩, rfl, q _ (I5.hok.fresh (Nat.le_refl _))⟩
end
end LB
set_option Elab.async false
set_option linter.all false
set_option maxRecDepth 100000
set_option maxHeartbeats 2000000
/-! the rules whose reading speaks of the written part, that part under a letter (within a comprehension's block it must not hang on the block) -/
namespace LB
open PySem PySem.Spec PyProof.Rows L2
section
variable {X : Cx} {K : PySem.W.Frag} (hK : X.K = K)
include hK
theorem k_ixL : IxR X (rIxL K) := by subst hK; exact ix_list
theorem k_ixT : IxR X (rIxT K) := by subst hK; exact ix_tup
theorem k_slL : SlR X (rSlL K) := by subst hK; exact sl_list
theorem k_slT : SlR X (rSlT K) := by subst hK; exact sl_tup
theorem k_isi : CallR X (.builtin "isinstance") (rIsi K) := by subst hK; exact call_isi
theorem k_isiT : CallR X (.builtin "isinstance") (rIsiT K) := by subst hK; exact call_isiT
theorem k_sum (hc : X.calm = true) : CallR X (.builtin "sum") (rSum K) := by subst hK; exact cr_sum hc
theorem k_max (hc : X.calm = true) : CallR X (.builtin "max") (rMax K) := by subst hK; exact cr_max hc
theorem k_min (hc : X.calm = true) : CallR X (.builtin "min") (rMin K) := by subst hK; exact cr_min hc
theorem k_all (hc : X.calm = true) : CallR X (.builtin "all") (rAll K) := by subst hK; exact cr_all hc
theorem k_any (hc : X.calm = true) : CallR X (.builtin "any") (rAny K) := by subst hK; exact cr_any hc
theorem k_sorted : CallR X (.builtin "sorted") (rSorted K) := by subst hK; exact cr_sorted
theorem k_eqD (hu : X.A.units + 64 < cLine) : OpR X (compareOp .Eq) (rEqD K) := by subst hK; exact op_eqD hu
theorem k_neD (hu : X.A.units + 64 < cLine) : OpR X (compareOp .NotEq) (rNeD K) := by subst hK; exact op_neD hu
theorem k_in : OpR X (compareOp .In) (rIn K false) := by subst hK; exact op_in_seq
theorem k_notIn : OpR X (compareOp .NotIn) (rIn K true) := by subst hK; exact op_notIn_seq
theorem k_catT : OpR X (binaryOp .Add) (rCatT K) := by subst hK; exact op_catT
theorem k_index : MtR X "list.index" (rIndex K) := by subst hK; exact mt_index
theorem k_repr {k : Nat} (hr : Rm k X.A) : CallR X (.builtin "repr") (rRepr K) := by subst hK; exact call_repr hr
section
variable {tg l e e2 a o : Expr} {es elts : List Expr} {tl te ta tc to : TE} {t tt : TA} {p pos tpos p1 p2 p3 apos cpos : Pos} {kk n : Nat} {gs : TGs}
theorem k_piL (hl : PE X l tl) : PI X tg l (iList K tl) := by subst hK; exact pi_list hl
theorem k_piT (hl : PE X l tl) : PI X tg l (iTup K tl) := by subst hK; exact pi_tup hl
theorem k_enum (hg : Gl X "enumerate") (hm : X.mg "enumerate" = none) (ha : PA X [e] t) (hs : starEach [e] X.env = [(false, eval e X.env)] := by rfl) :
    PI X (.Tuple elts kk tpos) (.Call (.Name "enumerate" p) [e] [] pos) (iEnum K t) := by subst hK; exact pi_enum hg hm ha hs
theorem k_zip (hg : Gl X "zip") (hm : X.mg "zip" = none) (ha : PA X [e, e2] t) (hs : starEach [e, e2] X.env = (false, eval e X.env) :: starEach [e2] X.env := by rfl)
    (hpl : (backTo pos (starEach [e2] X.env)).any (·.1) = false := by rfl) : PI X (.Tuple elts kk tpos) (.Call (.Name "zip" p) [e, e2] [] pos) (iZip K t) := by subst hK; exact pi_zip hg hm ha hs hpl
theorem k_gt (hc : X.calm = true) (h : PGs X es gs) (hn : (assignEach es X.env).length = n := by rfl) (hst : (assignEach es X.env).findIdx? (·.1) = none := by rfl) :
    PG X (.Tuple es kk pos) (gTup K n gs) := by subst hK; exact pg_tup hc h hn hst
theorem k_gl (hc : X.calm = true) (h : PGs X es gs) (hn : (assignEach es X.env).length = n := by rfl) (hst : (assignEach es X.env).findIdx? (·.1) = none := by rfl) :
    PG X (.Tuple es kk pos) (gUnl K n gs) := by subst hK; exact pg_unl hc h hn hst
theorem k_truth (ha : PE X a ta) (he : ∀ whole, isTrue a X.env whole = (do let v ← whole; standAt a.pos; holding [v] (truthy v))) : PT X a (tTru K ta) := by subst hK; exact pt_truth ha he
theorem k_star (he : PE X e te) (hr : PA X es t) (hs : starEach (.Starred e p :: es) X.env = (true, eval e X.env) :: starEach es X.env := by rfl) : PA X (.Starred e p :: es) (StX.tStar K te t) := by
  subst hK; exact StX.pa_star he hr hs
theorem k_step {c : Expr} (he : PE X e te) (hc : PE X c tc) : PE X (.Subscript e (.Slice none none (some c) p3) pos) (tStepL K te tc) := by subst hK; exact pe_stepL he hc
theorem k_rev (he : PE X e te) : PE X (.Subscript e (.Slice none none (some (.UnaryOp .USub (.Constant (.int 1) kk p1) p2)) p3) pos) (tRevL K te) := by subst hK; exact pe_revL he
theorem k_bm0 {T name id} {r : V → List V → Hp → VK → Prop} (pa : PlainAttrs T) (slot : Slot T name id) (hty : typeOf (.builtin id) = pure (.type "method_descriptor")) (hm : MtR X id r) (ho : PE X o to)
    (hbase : attributeBase o name X.env (eval o X.env) = eval o X.env := by rfl) (hline : (apos.endLine == cpos.line) = true := by rfl) : PE X (.Call (.Attribute o name apos) [] [] cpos) (tBM0 K T r to) := by
  subst hK; exact pe_bm0 pa slot hty hm ho hbase hline
theorem k_bm {T name id} {r : V → List V → Hp → VK → Prop} (pa : PlainAttrs T) (slot : Slot T name id) (hty : typeOf (.builtin id) = pure (.type "method_descriptor")) (hm : MtR X id r) (ho : PE X o to) (ha : PA X (e :: es) t)
    (hbase : attributeBase o name X.env (eval o X.env) = eval o X.env := by rfl)
    (hfew : ((backTo cpos (starEach (e :: es) X.env)).all (fun x => !x.1) && (backToKw cpos (keywordEach [] X.env)).all (fun x => x.1.isSome)
      && decide ((e :: es).length + ([] : List Keyword).length + (if ([] : List Keyword).isEmpty then 0 else 1) < 30)) = true := by rfl)
    (hline : (apos.endLine == cpos.line) = true := by rfl) (hs : starEach (e :: es) X.env = (false, eval e X.env) :: starEach es X.env := by rfl) (hplain : (backTo cpos (starEach es X.env)).any (·.1) = false := by rfl) :
    PE X (.Call (.Attribute o name apos) (e :: es) [] cpos) (tBM K T r to t) := by
  subst hK; exact pe_bm pa slot hty hm ho ha hbase hfew hline hs hplain
end
end
end LB
set_option Elab.async false
set_option linter.all false
set_option maxRecDepth 100000
set_option maxHeartbeats 2000000
/-! the law's own call, for a def that keeps its promise where nothing is being shown -/
namespace LB
open PySem PySem.Spec PyProof.Rows L2
/-- the heap behind a law's call -/
theorem after_call {P : Program} {w : World} {H : Hp} {s₁ s' : Shared} {res : Result} (only : ∀ b u, H b = some u → ∃ o v, u = .frz o v ∧ s₁.heap.get? b = some o)
    (h : CR CX0 [] P w H s₁ (fun v _ => v = .bl true) E0 res s') :
    res = .ok (.ret (.bool true)) ∧ OldK s₁.heap s'.heap ∧ s'.os = s₁.os ∧ AllBare s'.gens := by
  match res, h with
  | .ok (.ret u), h =>
    obtain ⟨v, H', os, bare, un, hok, rv, rfl⟩ := h
    cases rv
    refine ⟨rfl, OldK.of_keep ?_, os, bare⟩
    intro b o e
    have nil : ∀ c : Addr, c ∉ ([] : List Addr) := fun c z => by cases z
    cases hb : H b with
    | none => exact un.keep b o e hb (nil b) (nil b)
    | some u =>
      obtain ⟨ob, v, rfl, e2⟩ := only b u hb
      have q := hok b _ (un.frzs b ob v hb)
      rw [e] at e2
      cases e2
      exact q.1
theorem script_call {P : Program} {w : World} {K : PySem.W.Frag} {mg mb : Str → Option Value} {k : Nat} {fa a : Addr} {fd : FuncData} {x : Str} {sp : Sp} {s₁ : Shared} {vs : List Value} {ns : List Int}
    (KX : K.In s₁.heap) (T : s₁.heap.Ns mainGlobals mg ∧ s₁.heap.Ns builtinsNs mb ∧ (∀ y : Str, y ≠ "__name__" → mb y = bootBuiltins y) ∧ s₁.heap.NoLimit) (hg : s₁.gens = #[])
    (ha : s₁.heap.get? a = some { cls := .type "list", data := .seq vs.toArray }) (hi : IntsAre vs ns) (hl : ns.length ≤ sizeLine) (hr : Room k callerA)
    (F : ∀ base : Heap, K.In base → base.Ns mainGlobals mg → FnG P w K mg base CX0 k fa fd [x] sp) (hbind : ∀ (s : Shared) (u : Value), BindsTo s fd ⟨[u], []⟩ [(x, u)])
    (hsp : ∀ H : Hp, SqL K H a (ns.map V.int) → sp [.ref a] H (fun v _ => v = .bl true) E0) :
    codeAny (model P w) callerA (.call (.ref fa) ⟨[.ref a], []⟩) (fun r s' => r = .ok (.ret (.bool true)) ∧ OldK s₁.heap s'.heap ∧ s'.os = s₁.os ∧ AllBare s'.gens) s₁ := by
  obtain ⟨Tg, Tb, Tn, Tl⟩ := T
  have rv := vals_ints hi
  have step : ∀ H : Hp, SqL K H a (ns.map V.int) → HOk P w H s₁.heap → (∀ b u, H b = some u → b = a ∧ ∃ v, u = .frz { cls := .type "list", data := .seq vs.toArray } v) → (H a ≠ none → K.lookup a = none) →
      codeAny (model P w) callerA (.call (.ref fa) ⟨[.ref a], []⟩) (fun r s' => r = .ok (.ret (.bool true)) ∧ OldK s₁.heap s'.heap ∧ s'.os = s₁.os ∧ AllBare s'.gens) s₁ := by
    intro H hS hok hA hK
    have free : ∀ {b : Addr} {o : Obj}, s₁.heap.get? b = some o → (b = a → o.data ≠ .seq vs.toArray) → H b = none := by
      intro b o e d
      cases q : H b with
      | none => rfl
      | some u =>
        obtain ⟨rfl, _⟩ := hA b u q
        rw [ha] at e
        cases e
        exact absurd rfl (d rfl)
    have ns : ∀ {b : Addr} {m : Str → Option Value}, s₁.heap.Ns b m → (hidT s₁.heap H).Ns b m := by
      rintro b m ⟨o, es, ep, e, d, r⟩
      refine ⟨o, es, ep, hidT_get e (free e fun _ z => ?_), d, r⟩
      rw [d] at z
      cases z
    have kin : K.In (hidT s₁.heap H) := by
      intro b o e
      refine hidT_get (KX b o e) ?_
      cases q : H b with
      | none => rfl
      | some u =>
        obtain ⟨rfl, _⟩ := hA b u q
        rw [hK (by rw [q]; exact Option.some_ne_none u)] at e
        cases e
    obtain ⟨mc, l1, l2⟩ := Tl
    have e0 : Env0 P w K mg (hidT s₁.heap H) callerA [] s₁ H :=
      { frames := rfl, mod := ⟨kin, ns Tg, ⟨mb, ns Tb, Tn⟩, ⟨mc, ns l1, l2⟩⟩, bs := fun b o e => of_hidT e, bsz := Nat.le_of_eq (hidT_size _ _), funs := trivial,
        frf := (fun b hb => absurd (show b ∈ ([] : List Addr) from hb) List.not_mem_nil), hok := hok, bare := .of_eq hg }
    refine codeAny_mono ((F _ kin (ns Tg)).run (us := [.ref a]) (vs := [.ref a]) ⟨hr, rfl⟩ e0 (hbind s₁ (.ref a)) (.cons rfl .nil) (hsp H hS)) fun r s' h => after_call ?_ h
    intro b u q
    obtain ⟨rfl, v, rfl⟩ := hA b u q
    exact ⟨_, v, rfl, ha⟩
  cases hk : K.lookup a with
  | some o =>
    have e := KX a o hk
    rw [ha] at e
    cases e
    exact step (fun _ => none) (.inr ⟨_, vs.toArray, _, hk, rfl, rfl, rfl, by rw [List.size_toArray, hi.length]; exact hl, by simpa using rv⟩) (fun b u z => nomatch z) (fun b u z => nomatch z) fun z => absurd rfl z
  | none =>
    let o : Obj := { cls := .type "list", data := .seq vs.toArray }
    have at_ : ∀ b u, (if b = a then some (HO.frz o (.lst (ns.map V.int))) else none) = some u → b = a ∧ u = .frz o (.lst (ns.map V.int)) := by
      intro b u z
      by_cases hb : b = a
      · rw [if_pos hb] at z
        exact ⟨hb, (Option.some.inj z).symm⟩
      · rw [if_neg hb] at z
        cases z
    refine step (fun b => if b = a then some (.frz o (.lst (ns.map V.int))) else none) (.inl (.inr ⟨o, if_pos rfl⟩)) ?_ ?_ fun _ => hk
    · intro b u z
      obtain ⟨rfl, rfl⟩ := at_ b u z
      exact ⟨ha, by rw [List.length_map]; exact hl, vs, _, rv, ha⟩
    · intro b u z
      obtain ⟨rfl, rfl⟩ := at_ b u z
      exact ⟨rfl, _, rfl⟩
/-- what k_head leaves, from the promise of the law's def -/
theorem walkG {l : PySem.W.OpenLaw} {n k : Nat} {q : Program} {loose : List Str} {XP : (Str → Option Value) → Heap → Prop} {YP : World → Heap → Prop} {d : DefRec} {K : Params → PySem.W.Frag} {sp : PySem.W.Frag → Sp} {x : Str}
    (hn : l.most = some n) (hn2 : n ≤ sizeLine) (hdf : d.params.defaults = []) (hr : Room k callerA)
    (hY : ∀ (w : World) (h : Heap), YP w h → (K w.params).In h)
    (F : ∀ (w : World) (mg : Str → Option Value) (fa : Addr) (h : Heap), (K w.params).In h → h.Ns mainGlobals mg → mg d.name = some (.ref fa) →
      ∃ fd : FuncData, (∀ (s : Shared) (u : Value), BindsTo s fd ⟨[u], []⟩ [(x, u)]) ∧
        ∀ base : Heap, (K w.params).In base → base.Ns mainGlobals mg → FnG l.prog w (K w.params) mg base CX0 k fa fd [x] (sp (K w.params)))
    (hsp : ∀ (K : PySem.W.Frag) (H : Hp) (a : Addr) (ns : List Int), ns.length ≤ n → SqL K H a (ns.map V.int) → sp K [.ref a] H (fun v _ => v = .bl true) E0) :
    PySem.W.WalkO q loose XP YP l.row.toRowW d [] (fun f vs => PySem.call f vs) := by
  refine Att.attach_call hn hdf ?_
  intro w s₀ s₁ mg mb fa o pm cd doc a vs ns G Y ho hd hcd hmg hobj hints hlen hg
  have KX := hY w _ Y
  obtain ⟨fd, hb, hF⟩ := F w mg fa _ KX G.T.g hmg
  exact script_call KX ⟨G.T.g, G.T.b, G.T.builtins, G.T.nolimit⟩ hg hobj hints (Nat.le_trans hlen hn2) hr hF hb fun H hS => hsp _ H a ns hlen hS
end LB
set_option Elab.async false
set_option linter.all false
set_option maxRecDepth 100000
set_option maxHeartbeats 2000000
/-! readings, one step each: names for what a rule asks, and how it is met from a list of places -/
namespace LB
open PySem PySem.Spec PyProof.Rows L2
section
variable {σ : L2.St} {H : Hp} {Q : VK} {v : V} {K : PySem.W.Frag} {L : SH} {a b : Addr} {i j : Int} {xs ys : List V} {ns : List Int}
theorem w_v0 (h : Q v H) : tVar 0 (some v :: σ) H Q := ⟨v, rfl, h⟩
theorem w_g0 {x : Option V} {R : L2.St → Hp → Prop} (h : R (some v :: σ) H) : gName 0 v (x :: σ) H R := h
theorem w_a0 {te : TE} {ti : TIp} {D : Ends} (h : te (some v :: σ) H fun y H1 => ti v y H1 fun z H2 => D.nx (some z :: σ) H2) : tAug 0 te ti D (some v :: σ) H := ⟨v, rfl, h⟩
theorem w_v1 {x0 : Option V} (h : Q v H) : tVar 1 (x0 :: some v :: σ) H Q := ⟨v, rfl, h⟩
theorem w_g1 {x0 : Option V} {x : Option V} {R : L2.St → Hp → Prop} (h : R (x0 :: some v :: σ) H) : gName 1 v (x0 :: x :: σ) H R := h
theorem w_a1 {x0 : Option V} {te : TE} {ti : TIp} {D : Ends} (h : te (x0 :: some v :: σ) H fun y H1 => ti v y H1 fun z H2 => D.nx (x0 :: some z :: σ) H2) : tAug 1 te ti D (x0 :: some v :: σ) H := ⟨v, rfl, h⟩
theorem w_v2 {x0 : Option V} {x1 : Option V} (h : Q v H) : tVar 2 (x0 :: x1 :: some v :: σ) H Q := ⟨v, rfl, h⟩
theorem w_g2 {x0 : Option V} {x1 : Option V} {x : Option V} {R : L2.St → Hp → Prop} (h : R (x0 :: x1 :: some v :: σ) H) : gName 2 v (x0 :: x1 :: x :: σ) H R := h
theorem w_a2 {x0 : Option V} {x1 : Option V} {te : TE} {ti : TIp} {D : Ends} (h : te (x0 :: x1 :: some v :: σ) H fun y H1 => ti v y H1 fun z H2 => D.nx (x0 :: x1 :: some z :: σ) H2) : tAug 2 te ti D (x0 :: x1 :: some v :: σ) H := ⟨v, rfl, h⟩
theorem w_v3 {x0 : Option V} {x1 : Option V} {x2 : Option V} (h : Q v H) : tVar 3 (x0 :: x1 :: x2 :: some v :: σ) H Q := ⟨v, rfl, h⟩
theorem w_g3 {x0 : Option V} {x1 : Option V} {x2 : Option V} {x : Option V} {R : L2.St → Hp → Prop} (h : R (x0 :: x1 :: x2 :: some v :: σ) H) : gName 3 v (x0 :: x1 :: x2 :: x :: σ) H R := h
theorem w_a3 {x0 : Option V} {x1 : Option V} {x2 : Option V} {te : TE} {ti : TIp} {D : Ends} (h : te (x0 :: x1 :: x2 :: some v :: σ) H fun y H1 => ti v y H1 fun z H2 => D.nx (x0 :: x1 :: x2 :: some z :: σ) H2) : tAug 3 te ti D (x0 :: x1 :: x2 :: some v :: σ) H := ⟨v, rfl, h⟩
theorem w_v4 {x0 : Option V} {x1 : Option V} {x2 : Option V} {x3 : Option V} (h : Q v H) : tVar 4 (x0 :: x1 :: x2 :: x3 :: some v :: σ) H Q := ⟨v, rfl, h⟩
theorem w_g4 {x0 : Option V} {x1 : Option V} {x2 : Option V} {x3 : Option V} {x : Option V} {R : L2.St → Hp → Prop} (h : R (x0 :: x1 :: x2 :: x3 :: some v :: σ) H) : gName 4 v (x0 :: x1 :: x2 :: x3 :: x :: σ) H R := h
theorem w_a4 {x0 : Option V} {x1 : Option V} {x2 : Option V} {x3 : Option V} {te : TE} {ti : TIp} {D : Ends} (h : te (x0 :: x1 :: x2 :: x3 :: some v :: σ) H fun y H1 => ti v y H1 fun z H2 => D.nx (x0 :: x1 :: x2 :: x3 :: some z :: σ) H2) : tAug 4 te ti D (x0 :: x1 :: x2 :: x3 :: some v :: σ) H := ⟨v, rfl, h⟩
theorem w_v5 {x0 : Option V} {x1 : Option V} {x2 : Option V} {x3 : Option V} {x4 : Option V} (h : Q v H) : tVar 5 (x0 :: x1 :: x2 :: x3 :: x4 :: some v :: σ) H Q := ⟨v, rfl, h⟩
theorem w_g5 {x0 : Option V} {x1 : Option V} {x2 : Option V} {x3 : Option V} {x4 : Option V} {x : Option V} {R : L2.St → Hp → Prop} (h : R (x0 :: x1 :: x2 :: x3 :: x4 :: some v :: σ) H) : gName 5 v (x0 :: x1 :: x2 :: x3 :: x4 :: x :: σ) H R := h
theorem w_a5 {x0 : Option V} {x1 : Option V} {x2 : Option V} {x3 : Option V} {x4 : Option V} {te : TE} {ti : TIp} {D : Ends} (h : te (x0 :: x1 :: x2 :: x3 :: x4 :: some v :: σ) H fun y H1 => ti v y H1 fun z H2 => D.nx (x0 :: x1 :: x2 :: x3 :: x4 :: some z :: σ) H2) : tAug 5 te ti D (x0 :: x1 :: x2 :: x3 :: x4 :: some v :: σ) H := ⟨v, rfl, h⟩
theorem w_v6 {x0 : Option V} {x1 : Option V} {x2 : Option V} {x3 : Option V} {x4 : Option V} {x5 : Option V} (h : Q v H) : tVar 6 (x0 :: x1 :: x2 :: x3 :: x4 :: x5 :: some v :: σ) H Q := ⟨v, rfl, h⟩
theorem w_g6 {x0 : Option V} {x1 : Option V} {x2 : Option V} {x3 : Option V} {x4 : Option V} {x5 : Option V} {x : Option V} {R : L2.St → Hp → Prop} (h : R (x0 :: x1 :: x2 :: x3 :: x4 :: x5 :: some v :: σ) H) : gName 6 v (x0 :: x1 :: x2 :: x3 :: x4 :: x5 :: x :: σ) H R := h
theorem w_a6 {x0 : Option V} {x1 : Option V} {x2 : Option V} {x3 : Option V} {x4 : Option V} {x5 : Option V} {te : TE} {ti : TIp} {D : Ends} (h : te (x0 :: x1 :: x2 :: x3 :: x4 :: x5 :: some v :: σ) H fun y H1 => ti v y H1 fun z H2 => D.nx (x0 :: x1 :: x2 :: x3 :: x4 :: x5 :: some z :: σ) H2) : tAug 6 te ti D (x0 :: x1 :: x2 :: x3 :: x4 :: x5 :: some v :: σ) H := ⟨v, rfl, h⟩
theorem w_v7 {x0 : Option V} {x1 : Option V} {x2 : Option V} {x3 : Option V} {x4 : Option V} {x5 : Option V} {x6 : Option V} (h : Q v H) : tVar 7 (x0 :: x1 :: x2 :: x3 :: x4 :: x5 :: x6 :: some v :: σ) H Q := ⟨v, rfl, h⟩
theorem w_g7 {x0 : Option V} {x1 : Option V} {x2 : Option V} {x3 : Option V} {x4 : Option V} {x5 : Option V} {x6 : Option V} {x : Option V} {R : L2.St → Hp → Prop} (h : R (x0 :: x1 :: x2 :: x3 :: x4 :: x5 :: x6 :: some v :: σ) H) : gName 7 v (x0 :: x1 :: x2 :: x3 :: x4 :: x5 :: x6 :: x :: σ) H R := h
theorem w_a7 {x0 : Option V} {x1 : Option V} {x2 : Option V} {x3 : Option V} {x4 : Option V} {x5 : Option V} {x6 : Option V} {te : TE} {ti : TIp} {D : Ends} (h : te (x0 :: x1 :: x2 :: x3 :: x4 :: x5 :: x6 :: some v :: σ) H fun y H1 => ti v y H1 fun z H2 => D.nx (x0 :: x1 :: x2 :: x3 :: x4 :: x5 :: x6 :: some z :: σ) H2) : tAug 7 te ti D (x0 :: x1 :: x2 :: x3 :: x4 :: x5 :: x6 :: some v :: σ) H := ⟨v, rfl, h⟩
theorem w_v8 {x0 : Option V} {x1 : Option V} {x2 : Option V} {x3 : Option V} {x4 : Option V} {x5 : Option V} {x6 : Option V} {x7 : Option V} (h : Q v H) : tVar 8 (x0 :: x1 :: x2 :: x3 :: x4 :: x5 :: x6 :: x7 :: some v :: σ) H Q := ⟨v, rfl, h⟩
theorem w_g8 {x0 : Option V} {x1 : Option V} {x2 : Option V} {x3 : Option V} {x4 : Option V} {x5 : Option V} {x6 : Option V} {x7 : Option V} {x : Option V} {R : L2.St → Hp → Prop} (h : R (x0 :: x1 :: x2 :: x3 :: x4 :: x5 :: x6 :: x7 :: some v :: σ) H) : gName 8 v (x0 :: x1 :: x2 :: x3 :: x4 :: x5 :: x6 :: x7 :: x :: σ) H R := h
theorem w_a8 {x0 : Option V} {x1 : Option V} {x2 : Option V} {x3 : Option V} {x4 : Option V} {x5 : Option V} {x6 : Option V} {x7 : Option V} {te : TE} {ti : TIp} {D : Ends} (h : te (x0 :: x1 :: x2 :: x3 :: x4 :: x5 :: x6 :: x7 :: some v :: σ) H fun y H1 => ti v y H1 fun z H2 => D.nx (x0 :: x1 :: x2 :: x3 :: x4 :: x5 :: x6 :: x7 :: some z :: σ) H2) : tAug 8 te ti D (x0 :: x1 :: x2 :: x3 :: x4 :: x5 :: x6 :: x7 :: some v :: σ) H := ⟨v, rfl, h⟩
theorem w_v9 {x0 : Option V} {x1 : Option V} {x2 : Option V} {x3 : Option V} {x4 : Option V} {x5 : Option V} {x6 : Option V} {x7 : Option V} {x8 : Option V} (h : Q v H) : tVar 9 (x0 :: x1 :: x2 :: x3 :: x4 :: x5 :: x6 :: x7 :: x8 :: some v :: σ) H Q := ⟨v, rfl, h⟩
theorem w_g9 {x0 : Option V} {x1 : Option V} {x2 : Option V} {x3 : Option V} {x4 : Option V} {x5 : Option V} {x6 : Option V} {x7 : Option V} {x8 : Option V} {x : Option V} {R : L2.St → Hp → Prop} (h : R (x0 :: x1 :: x2 :: x3 :: x4 :: x5 :: x6 :: x7 :: x8 :: some v :: σ) H) : gName 9 v (x0 :: x1 :: x2 :: x3 :: x4 :: x5 :: x6 :: x7 :: x8 :: x :: σ) H R := h
theorem w_a9 {x0 : Option V} {x1 : Option V} {x2 : Option V} {x3 : Option V} {x4 : Option V} {x5 : Option V} {x6 : Option V} {x7 : Option V} {x8 : Option V} {te : TE} {ti : TIp} {D : Ends} (h : te (x0 :: x1 :: x2 :: x3 :: x4 :: x5 :: x6 :: x7 :: x8 :: some v :: σ) H fun y H1 => ti v y H1 fun z H2 => D.nx (x0 :: x1 :: x2 :: x3 :: x4 :: x5 :: x6 :: x7 :: x8 :: some z :: σ) H2) : tAug 9 te ti D (x0 :: x1 :: x2 :: x3 :: x4 :: x5 :: x6 :: x7 :: x8 :: some v :: σ) H := ⟨v, rfl, h⟩
theorem w_v10 {x0 : Option V} {x1 : Option V} {x2 : Option V} {x3 : Option V} {x4 : Option V} {x5 : Option V} {x6 : Option V} {x7 : Option V} {x8 : Option V} {x9 : Option V} (h : Q v H) : tVar 10 (x0 :: x1 :: x2 :: x3 :: x4 :: x5 :: x6 :: x7 :: x8 :: x9 :: some v :: σ) H Q := ⟨v, rfl, h⟩
theorem w_g10 {x0 : Option V} {x1 : Option V} {x2 : Option V} {x3 : Option V} {x4 : Option V} {x5 : Option V} {x6 : Option V} {x7 : Option V} {x8 : Option V} {x9 : Option V} {x : Option V} {R : L2.St → Hp → Prop} (h : R (x0 :: x1 :: x2 :: x3 :: x4 :: x5 :: x6 :: x7 :: x8 :: x9 :: some v :: σ) H) : gName 10 v (x0 :: x1 :: x2 :: x3 :: x4 :: x5 :: x6 :: x7 :: x8 :: x9 :: x :: σ) H R := h
theorem w_a10 {x0 : Option V} {x1 : Option V} {x2 : Option V} {x3 : Option V} {x4 : Option V} {x5 : Option V} {x6 : Option V} {x7 : Option V} {x8 : Option V} {x9 : Option V} {te : TE} {ti : TIp} {D : Ends} (h : te (x0 :: x1 :: x2 :: x3 :: x4 :: x5 :: x6 :: x7 :: x8 :: x9 :: some v :: σ) H fun y H1 => ti v y H1 fun z H2 => D.nx (x0 :: x1 :: x2 :: x3 :: x4 :: x5 :: x6 :: x7 :: x8 :: x9 :: some z :: σ) H2) : tAug 10 te ti D (x0 :: x1 :: x2 :: x3 :: x4 :: x5 :: x6 :: x7 :: x8 :: x9 :: some v :: σ) H := ⟨v, rfl, h⟩
theorem w_v11 {x0 : Option V} {x1 : Option V} {x2 : Option V} {x3 : Option V} {x4 : Option V} {x5 : Option V} {x6 : Option V} {x7 : Option V} {x8 : Option V} {x9 : Option V} {x10 : Option V} (h : Q v H) : tVar 11 (x0 :: x1 :: x2 :: x3 :: x4 :: x5 :: x6 :: x7 :: x8 :: x9 :: x10 :: some v :: σ) H Q := ⟨v, rfl, h⟩
theorem w_g11 {x0 : Option V} {x1 : Option V} {x2 : Option V} {x3 : Option V} {x4 : Option V} {x5 : Option V} {x6 : Option V} {x7 : Option V} {x8 : Option V} {x9 : Option V} {x10 : Option V} {x : Option V} {R : L2.St → Hp → Prop} (h : R (x0 :: x1 :: x2 :: x3 :: x4 :: x5 :: x6 :: x7 :: x8 :: x9 :: x10 :: some v :: σ) H) : gName 11 v (x0 :: x1 :: x2 :: x3 :: x4 :: x5 :: x6 :: x7 :: x8 :: x9 :: x10 :: x :: σ) H R := h
theorem w_a11 {x0 : Option V} {x1 : Option V} {x2 : Option V} {x3 : Option V} {x4 : Option V} {x5 : Option V} {x6 : Option V} {x7 : Option V} {x8 : Option V} {x9 : Option V} {x10 : Option V} {te : TE} {ti : TIp} {D : Ends} (h : te (x0 :: x1 :: x2 :: x3 :: x4 :: x5 :: x6 :: x7 :: x8 :: x9 :: x10 :: some v :: σ) H fun y H1 => ti v y H1 fun z H2 => D.nx (x0 :: x1 :: x2 :: x3 :: x4 :: x5 :: x6 :: x7 :: x8 :: x9 :: x10 :: some z :: σ) H2) : tAug 11 te ti D (x0 :: x1 :: x2 :: x3 :: x4 :: x5 :: x6 :: x7 :: x8 :: x9 :: x10 :: some v :: σ) H := ⟨v, rfl, h⟩
theorem w_v12 {x0 : Option V} {x1 : Option V} {x2 : Option V} {x3 : Option V} {x4 : Option V} {x5 : Option V} {x6 : Option V} {x7 : Option V} {x8 : Option V} {x9 : Option V} {x10 : Option V} {x11 : Option V} (h : Q v H) : tVar 12 (x0 :: x1 :: x2 :: x3 :: x4 :: x5 :: x6 :: x7 :: x8 :: x9 :: x10 :: x11 :: some v :: σ) H Q := ⟨v, rfl, h⟩
theorem w_g12 {x0 : Option V} {x1 : Option V} {x2 : Option V} {x3 : Option V} {x4 : Option V} {x5 : Option V} {x6 : Option V} {x7 : Option V} {x8 : Option V} {x9 : Option V} {x10 : Option V} {x11 : Option V} {x : Option V} {R : L2.St → Hp → Prop} (h : R (x0 :: x1 :: x2 :: x3 :: x4 :: x5 :: x6 :: x7 :: x8 :: x9 :: x10 :: x11 :: some v :: σ) H) : gName 12 v (x0 :: x1 :: x2 :: x3 :: x4 :: x5 :: x6 :: x7 :: x8 :: x9 :: x10 :: x11 :: x :: σ) H R := h
theorem w_a12 {x0 : Option V} {x1 : Option V} {x2 : Option V} {x3 : Option V} {x4 : Option V} {x5 : Option V} {x6 : Option V} {x7 : Option V} {x8 : Option V} {x9 : Option V} {x10 : Option V} {x11 : Option V} {te : TE} {ti : TIp} {D : Ends} (h : te (x0 :: x1 :: x2 :: x3 :: x4 :: x5 :: x6 :: x7 :: x8 :: x9 :: x10 :: x11 :: some v :: σ) H fun y H1 => ti v y H1 fun z H2 => D.nx (x0 :: x1 :: x2 :: x3 :: x4 :: x5 :: x6 :: x7 :: x8 :: x9 :: x10 :: x11 :: some z :: σ) H2) : tAug 12 te ti D (x0 :: x1 :: x2 :: x3 :: x4 :: x5 :: x6 :: x7 :: x8 :: x9 :: x10 :: x11 :: some v :: σ) H := ⟨v, rfl, h⟩
theorem w_v13 {x0 : Option V} {x1 : Option V} {x2 : Option V} {x3 : Option V} {x4 : Option V} {x5 : Option V} {x6 : Option V} {x7 : Option V} {x8 : Option V} {x9 : Option V} {x10 : Option V} {x11 : Option V} {x12 : Option V} (h : Q v H) : tVar 13 (x0 :: x1 :: x2 :: x3 :: x4 :: x5 :: x6 :: x7 :: x8 :: x9 :: x10 :: x11 :: x12 :: some v :: σ) H Q := ⟨v, rfl, h⟩
theorem w_g13 {x0 : Option V} {x1 : Option V} {x2 : Option V} {x3 : Option V} {x4 : Option V} {x5 : Option V} {x6 : Option V} {x7 : Option V} {x8 : Option V} {x9 : Option V} {x10 : Option V} {x11 : Option V} {x12 : Option V} {x : Option V} {R : L2.St → Hp → Prop} (h : R (x0 :: x1 :: x2 :: x3 :: x4 :: x5 :: x6 :: x7 :: x8 :: x9 :: x10 :: x11 :: x12 :: some v :: σ) H) : gName 13 v (x0 :: x1 :: x2 :: x3 :: x4 :: x5 :: x6 :: x7 :: x8 :: x9 :: x10 :: x11 :: x12 :: x :: σ) H R := h
theorem w_a13 {x0 : Option V} {x1 : Option V} {x2 : Option V} {x3 : Option V} {x4 : Option V} {x5 : Option V} {x6 : Option V} {x7 : Option V} {x8 : Option V} {x9 : Option V} {x10 : Option V} {x11 : Option V} {x12 : Option V} {te : TE} {ti : TIp} {D : Ends} (h : te (x0 :: x1 :: x2 :: x3 :: x4 :: x5 :: x6 :: x7 :: x8 :: x9 :: x10 :: x11 :: x12 :: some v :: σ) H fun y H1 => ti v y H1 fun z H2 => D.nx (x0 :: x1 :: x2 :: x3 :: x4 :: x5 :: x6 :: x7 :: x8 :: x9 :: x10 :: x11 :: x12 :: some z :: σ) H2) : tAug 13 te ti D (x0 :: x1 :: x2 :: x3 :: x4 :: x5 :: x6 :: x7 :: x8 :: x9 :: x10 :: x11 :: x12 :: some v :: σ) H := ⟨v, rfl, h⟩
theorem w_v14 {x0 : Option V} {x1 : Option V} {x2 : Option V} {x3 : Option V} {x4 : Option V} {x5 : Option V} {x6 : Option V} {x7 : Option V} {x8 : Option V} {x9 : Option V} {x10 : Option V} {x11 : Option V} {x12 : Option V} {x13 : Option V} (h : Q v H) : tVar 14 (x0 :: x1 :: x2 :: x3 :: x4 :: x5 :: x6 :: x7 :: x8 :: x9 :: x10 :: x11 :: x12 :: x13 :: some v :: σ) H Q := ⟨v, rfl, h⟩
theorem w_g14 {x0 : Option V} {x1 : Option V} {x2 : Option V} {x3 : Option V} {x4 : Option V} {x5 : Option V} {x6 : Option V} {x7 : Option V} {x8 : Option V} {x9 : Option V} {x10 : Option V} {x11 : Option V} {x12 : Option V} {x13 : Option V} {x : Option V} {R : L2.St → Hp → Prop} (h : R (x0 :: x1 :: x2 :: x3 :: x4 :: x5 :: x6 :: x7 :: x8 :: x9 :: x10 :: x11 :: x12 :: x13 :: some v :: σ) H) : gName 14 v (x0 :: x1 :: x2 :: x3 :: x4 :: x5 :: x6 :: x7 :: x8 :: x9 :: x10 :: x11 :: x12 :: x13 :: x :: σ) H R := h
theorem w_a14 {x0 : Option V} {x1 : Option V} {x2 : Option V} {x3 : Option V} {x4 : Option V} {x5 : Option V} {x6 : Option V} {x7 : Option V} {x8 : Option V} {x9 : Option V} {x10 : Option V} {x11 : Option V} {x12 : Option V} {x13 : Option V} {te : TE} {ti : TIp} {D : Ends} (h : te (x0 :: x1 :: x2 :: x3 :: x4 :: x5 :: x6 :: x7 :: x8 :: x9 :: x10 :: x11 :: x12 :: x13 :: some v :: σ) H fun y H1 => ti v y H1 fun z H2 => D.nx (x0 :: x1 :: x2 :: x3 :: x4 :: x5 :: x6 :: x7 :: x8 :: x9 :: x10 :: x11 :: x12 :: x13 :: some z :: σ) H2) : tAug 14 te ti D (x0 :: x1 :: x2 :: x3 :: x4 :: x5 :: x6 :: x7 :: x8 :: x9 :: x10 :: x11 :: x12 :: x13 :: some v :: σ) H := ⟨v, rfl, h⟩
theorem w_v15 {x0 : Option V} {x1 : Option V} {x2 : Option V} {x3 : Option V} {x4 : Option V} {x5 : Option V} {x6 : Option V} {x7 : Option V} {x8 : Option V} {x9 : Option V} {x10 : Option V} {x11 : Option V} {x12 : Option V} {x13 : Option V} {x14 : Option V} (h : Q v H) : tVar 15 (x0 :: x1 :: x2 :: x3 :: x4 :: x5 :: x6 :: x7 :: x8 :: x9 :: x10 :: x11 :: x12 :: x13 :: x14 :: some v :: σ) H Q := ⟨v, rfl, h⟩
theorem w_g15 {x0 : Option V} {x1 : Option V} {x2 : Option V} {x3 : Option V} {x4 : Option V} {x5 : Option V} {x6 : Option V} {x7 : Option V} {x8 : Option V} {x9 : Option V} {x10 : Option V} {x11 : Option V} {x12 : Option V} {x13 : Option V} {x14 : Option V} {x : Option V} {R : L2.St → Hp → Prop} (h : R (x0 :: x1 :: x2 :: x3 :: x4 :: x5 :: x6 :: x7 :: x8 :: x9 :: x10 :: x11 :: x12 :: x13 :: x14 :: some v :: σ) H) : gName 15 v (x0 :: x1 :: x2 :: x3 :: x4 :: x5 :: x6 :: x7 :: x8 :: x9 :: x10 :: x11 :: x12 :: x13 :: x14 :: x :: σ) H R := h
theorem w_a15 {x0 : Option V} {x1 : Option V} {x2 : Option V} {x3 : Option V} {x4 : Option V} {x5 : Option V} {x6 : Option V} {x7 : Option V} {x8 : Option V} {x9 : Option V} {x10 : Option V} {x11 : Option V} {x12 : Option V} {x13 : Option V} {x14 : Option V} {te : TE} {ti : TIp} {D : Ends} (h : te (x0 :: x1 :: x2 :: x3 :: x4 :: x5 :: x6 :: x7 :: x8 :: x9 :: x10 :: x11 :: x12 :: x13 :: x14 :: some v :: σ) H fun y H1 => ti v y H1 fun z H2 => D.nx (x0 :: x1 :: x2 :: x3 :: x4 :: x5 :: x6 :: x7 :: x8 :: x9 :: x10 :: x11 :: x12 :: x13 :: x14 :: some z :: σ) H2) : tAug 15 te ti D (x0 :: x1 :: x2 :: x3 :: x4 :: x5 :: x6 :: x7 :: x8 :: x9 :: x10 :: x11 :: x12 :: x13 :: x14 :: some v :: σ) H := ⟨v, rfl, h⟩

theorem d_map {α β : Type _} (f : α → β) (a : α) (l : List α) : List.map f (a :: l) = f a :: List.map f l := rfl
theorem d_map0 {α β : Type _} (f : α → β) : List.map f [] = [] := rfl
theorem d_set {α : Type _} (a b : α) (n : Nat) (l : List α) : List.set (a :: l) (n + 1) b = a :: List.set l n b := rfl
theorem d_set0 {α : Type _} (a b : α) (l : List α) : List.set (a :: l) 0 b = b :: l := rfl
theorem d_app {α : Type _} (a : α) (l m : List α) : (a :: l) ++ m = a :: (l ++ m) := rfl
theorem d_app0 {α : Type _} (l : List α) : [] ++ l = l := rfl
theorem d_wipe (σ : L2.St) (v : Nat) (vs : List Nat) : wipe σ (v :: vs) = (wipe σ vs).set v none := rfl
theorem d_wipe0 (σ : L2.St) : wipe σ [] = σ := rfl
theorem w_I0 {g : Int → Int → V} (h : Q (g i j) H) : rI0 g (.int i) (.int j) H Q := ⟨i, j, rfl, rfl, h⟩
theorem w_I {C : Int → Int → Prop} {g : Int → Int → V} (c : C i j) (h : Q (g i j) H) : rI C g (.int i) (.int j) H Q := ⟨i, j, rfl, rfl, c, h⟩
theorem w_U {g : Int → V} (h : Q (g i) H) : rU g (.int i) H Q := ⟨i, rfl, h⟩
theorem w_ip {f : Int → Int → Int} (h : Q (.int (f i j)) H) : ipI f (.int i) (.int j) H Q := ⟨i, j, rfl, rfl, h⟩
theorem w_eq {x y : V} (s : scal x y = true) (h : Q (.bl (decide (x = y))) H) : rEq x y H Q := ⟨s, h⟩
theorem w_ne {x y : V} (s : scal x y = true) (h : Q (.bl (!decide (x = y))) H) : rNe x y H Q := ⟨s, h⟩
theorem w_eqI (h : Q (.bl (decide (i = j))) H) : rEq (.int i) (.int j) H Q := ⟨rfl, by
  have e : decide (V.int i = V.int j) = decide (i = j) := by simp
  rw [e]; exact h⟩
theorem w_neI (h : Q (.bl (!decide (i = j))) H) : rNe (.int i) (.int j) H Q := ⟨rfl, by
  have e : decide (V.int i = V.int j) = decide (i = j) := by simp
  rw [e]; exact h⟩
theorem w_eqB {c d : Bool} (h : Q (.bl (decide (c = d))) H) : rEq (.bl c) (.bl d) H Q := ⟨rfl, by
  have e : decide (V.bl c = V.bl d) = decide (c = d) := by simp
  rw [e]; exact h⟩
theorem w_neB {c d : Bool} (h : Q (.bl (!decide (c = d))) H) : rNe (.bl c) (.bl d) H Q := ⟨rfl, by
  have e : decide (V.bl c = V.bl d) = decide (c = d) := by simp
  rw [e]; exact h⟩
theorem w_isB {c d : Bool} (h : Q (.bl (decide (c = d))) H) : rIsB (.bl c) (.bl d) H Q := ⟨c, d, rfl, rfl, h⟩
theorem w_notB {c d : Bool} (h : Q (.bl (!decide (c = d))) H) : rNotB (.bl c) (.bl d) H Q := ⟨c, d, rfl, rfl, h⟩
/-! isinstance -/
theorem w_isi {x : V} {T c : String} {r : Bool} (ty : TyX K H x (.type T)) (k : kitB T c = some r) (h : Q (.bl r) H) : rIsi K [x, .ty c] H Q := ⟨x, .ty c, _, _, r, rfl, .ty c, ty, kit_ty k, h⟩
theorem w_isi_int_int (h : Q (.bl true) H) : rIsi K [.int i, .ty "int"] H Q := w_isi (T := "int") (.base (.int i)) (by decide +kernel) h
theorem w_isi_int_bool (h : Q (.bl false) H) : rIsi K [.int i, .ty "bool"] H Q := w_isi (T := "int") (.base (.int i)) (by decide +kernel) h
theorem w_isi_int_str (h : Q (.bl false) H) : rIsi K [.int i, .ty "str"] H Q := w_isi (T := "int") (.base (.int i)) (by decide +kernel) h
theorem w_isi_int_list (h : Q (.bl false) H) : rIsi K [.int i, .ty "list"] H Q := w_isi (T := "int") (.base (.int i)) (by decide +kernel) h
theorem w_isi_int_tuple (h : Q (.bl false) H) : rIsi K [.int i, .ty "tuple"] H Q := w_isi (T := "int") (.base (.int i)) (by decide +kernel) h
theorem w_isi_bool_int {z : Bool} (h : Q (.bl true) H) : rIsi K [.bl z, .ty "int"] H Q := w_isi (T := "bool") (.base (.bl z)) (by decide +kernel) h
theorem w_isi_bool_bool {z : Bool} (h : Q (.bl true) H) : rIsi K [.bl z, .ty "bool"] H Q := w_isi (T := "bool") (.base (.bl z)) (by decide +kernel) h
theorem w_isi_bool_str {z : Bool} (h : Q (.bl false) H) : rIsi K [.bl z, .ty "str"] H Q := w_isi (T := "bool") (.base (.bl z)) (by decide +kernel) h
theorem w_isi_bool_list {z : Bool} (h : Q (.bl false) H) : rIsi K [.bl z, .ty "list"] H Q := w_isi (T := "bool") (.base (.bl z)) (by decide +kernel) h
theorem w_isi_bool_tuple {z : Bool} (h : Q (.bl false) H) : rIsi K [.bl z, .ty "tuple"] H Q := w_isi (T := "bool") (.base (.bl z)) (by decide +kernel) h
theorem w_isi_str_int {z : Str} (h : Q (.bl false) H) : rIsi K [.str z, .ty "int"] H Q := w_isi (T := "str") (.base (.str z)) (by decide +kernel) h
theorem w_isi_str_bool {z : Str} (h : Q (.bl false) H) : rIsi K [.str z, .ty "bool"] H Q := w_isi (T := "str") (.base (.str z)) (by decide +kernel) h
theorem w_isi_str_str {z : Str} (h : Q (.bl true) H) : rIsi K [.str z, .ty "str"] H Q := w_isi (T := "str") (.base (.str z)) (by decide +kernel) h
theorem w_isi_str_list {z : Str} (h : Q (.bl false) H) : rIsi K [.str z, .ty "list"] H Q := w_isi (T := "str") (.base (.str z)) (by decide +kernel) h
theorem w_isi_str_tuple {z : Str} (h : Q (.bl false) H) : rIsi K [.str z, .ty "tuple"] H Q := w_isi (T := "str") (.base (.str z)) (by decide +kernel) h
theorem w_isi_NoneType_int (h : Q (.bl false) H) : rIsi K [.non, .ty "int"] H Q := w_isi (T := "NoneType") (.base .non) (by decide +kernel) h
theorem w_isi_NoneType_bool (h : Q (.bl false) H) : rIsi K [.non, .ty "bool"] H Q := w_isi (T := "NoneType") (.base .non) (by decide +kernel) h
theorem w_isi_NoneType_str (h : Q (.bl false) H) : rIsi K [.non, .ty "str"] H Q := w_isi (T := "NoneType") (.base .non) (by decide +kernel) h
theorem w_isi_NoneType_list (h : Q (.bl false) H) : rIsi K [.non, .ty "list"] H Q := w_isi (T := "NoneType") (.base .non) (by decide +kernel) h
theorem w_isi_NoneType_tuple (h : Q (.bl false) H) : rIsi K [.non, .ty "tuple"] H Q := w_isi (T := "NoneType") (.base .non) (by decide +kernel) h

theorem sq_ty (h : SqL K H a xs) : TyX K H (.ref a) (.type "list") := by
  rcases h with (h | ⟨o, h⟩) | ⟨o, its, n, h1, h2, _⟩
  · exact .base (.lst h)
  · exact .base (.frz h)
  · exact .kList h1 h2
theorem w_isi_list_int (hS : Sym L H) (m : Ls K L a xs) (h : Q (.bl false) H) : rIsi K [.ref a, .ty "int"] H Q := w_isi (T := "list") (sq_ty (m.sq hS)) (by decide +kernel) h
theorem w_isi_list_bool (hS : Sym L H) (m : Ls K L a xs) (h : Q (.bl false) H) : rIsi K [.ref a, .ty "bool"] H Q := w_isi (T := "list") (sq_ty (m.sq hS)) (by decide +kernel) h
theorem w_isi_list_str (hS : Sym L H) (m : Ls K L a xs) (h : Q (.bl false) H) : rIsi K [.ref a, .ty "str"] H Q := w_isi (T := "list") (sq_ty (m.sq hS)) (by decide +kernel) h
theorem w_isi_list_list (hS : Sym L H) (m : Ls K L a xs) (h : Q (.bl true) H) : rIsi K [.ref a, .ty "list"] H Q := w_isi (T := "list") (sq_ty (m.sq hS)) (by decide +kernel) h
theorem w_isi_list_tuple (hS : Sym L H) (m : Ls K L a xs) (h : Q (.bl false) H) : rIsi K [.ref a, .ty "tuple"] H Q := w_isi (T := "list") (sq_ty (m.sq hS)) (by decide +kernel) h
theorem w_isi_tuple_int (hS : Sym L H) (m : At L a (ob (.tup xs))) (h : Q (.bl false) H) : rIsi K [.ref a, .ty "int"] H Q := w_isi (T := "tuple") (.base (.tup (hS.ob m))) (by decide +kernel) h
theorem w_isi_tuple_bool (hS : Sym L H) (m : At L a (ob (.tup xs))) (h : Q (.bl false) H) : rIsi K [.ref a, .ty "bool"] H Q := w_isi (T := "tuple") (.base (.tup (hS.ob m))) (by decide +kernel) h
theorem w_isi_tuple_str (hS : Sym L H) (m : At L a (ob (.tup xs))) (h : Q (.bl false) H) : rIsi K [.ref a, .ty "str"] H Q := w_isi (T := "tuple") (.base (.tup (hS.ob m))) (by decide +kernel) h
theorem w_isi_tuple_list (hS : Sym L H) (m : At L a (ob (.tup xs))) (h : Q (.bl false) H) : rIsi K [.ref a, .ty "list"] H Q := w_isi (T := "tuple") (.base (.tup (hS.ob m))) (by decide +kernel) h
theorem w_isi_tuple_tuple (hS : Sym L H) (m : At L a (ob (.tup xs))) (h : Q (.bl true) H) : rIsi K [.ref a, .ty "tuple"] H Q := w_isi (T := "tuple") (.base (.tup (hS.ob m))) (by decide +kernel) h
/-! lists -/
def rNewL : List V → Hp → VK → Prop := fun xs H Q => xs.length ≤ sizeLine ∧ ∀ p, H p = none → Q (.ref p) (upd H p (.lst xs))
def rNewT : List V → Hp → VK → Prop := fun xs H Q => xs.length ≤ sizeLine ∧ ∀ p, H p = none → Q (.ref p) (upd H p (.tup xs))
theorem tLst_is (t : TA) : tLst t = fun σ H Q => t σ H fun xs H1 => rNewL xs H1 Q := rfl
theorem tTup_is (t : TA) : tTup t = fun σ H Q => t σ H fun xs H1 => rNewT xs H1 Q := rfl
theorem w_newL (hS : Sym L H) (hz : xs.length ≤ 1000000) (k : ∀ p H', Sym ((p, ob (.lst xs)) :: L) H' → Q (.ref p) H') : rNewL xs H Q := r_lst hS hz k
theorem w_newT (hS : Sym L H) (hz : xs.length ≤ 1000000) (k : ∀ p H', Sym ((p, ob (.tup xs)) :: L) H' → Q (.ref p) H') : rNewT xs H Q := r_tup hS hz k
def rRgL (x y : Int) (H : Hp) (Q : VK) : Prop := RgOk x y ∧ ∀ q, H q = none → Q (.ref q) (upd H q (.lst (rgV x y)))
theorem tLstRg_is (te : L2.St → Hp → (Int → Int → Hp → Prop) → Prop) : tLstRg te = fun σ H Q => te σ H fun x y H1 => rRgL x y H1 Q := rfl
def rRev (K : PySem.W.Frag) (x : V) (H : Hp) (Q : VK) : Prop := ∃ a xs, x = .ref a ∧ SqL K H a xs ∧ ∀ p, H p = none → Q (.ref p) (upd H p (.lst xs.reverse))
theorem tRevL_is (te : TE) : tRevL K te = fun σ H Q => te σ H fun x H1 => rRev K x H1 Q := rfl
def rStep (K : PySem.W.Frag) (x : V) (o : Option Int) (H : Hp) (Q : VK) : Prop := ∃ a xs c, x = .ref a ∧ o = some c ∧ SqL K H a xs ∧ ((c = 1 ∧ ∀ p, H p = none → Q (.ref p) (upd H p (.lst xs))) ∨ (c = -1 ∧ ∀ p, H p = none → Q (.ref p) (upd H p (.lst xs.reverse))))
theorem tStepL_is (te tc : TE) : tStepL K te tc = fun σ H Q => te σ H fun x H1 => tPart tc σ H1 fun o H2 => rStep K x o H2 Q := rfl
def rLenS (K : PySem.W.Frag) : List V → Hp → VK → Prop := fun xs H Q => ∃ p ys, xs = [.ref p] ∧ (SqL K H p ys ∨ SqT K H p ys) ∧ Q (.int ys.length) H
def rListS (K : PySem.W.Frag) : List V → Hp → VK → Prop := fun xs H Q => ∃ p ys, xs = [.ref p] ∧ (SqL K H p ys ∨ SqT K H p ys) ∧ ∀ l, H l = none → Q (.ref l) (upd H l (.lst ys))
def rTupS (K : PySem.W.Frag) : List V → Hp → VK → Prop := fun xs H Q => ∃ p ys, xs = [.ref p] ∧ ((SqL K H p ys ∧ ∀ l, H l = none → Q (.ref l) (upd H l (.tup ys))) ∨ SqT K H p ys ∧ Q (.ref p) H)
def rAbs : List V → Hp → VK → Prop := fun xs H Q => ∃ i, xs = [.int i] ∧ Q (.int (if i < 0 then -i else i)) H
def rMax2 : List V → Hp → VK → Prop := fun xs H Q => ∃ i j, xs = [.int i, .int j] ∧ Q (.int (if j > i then j else i)) H
def rMin2 : List V → Hp → VK → Prop := fun xs H Q => ∃ i j, xs = [.int i, .int j] ∧ Q (.int (if j < i then j else i)) H
def rInt1 : List V → Hp → VK → Prop := fun xs H Q => (∃ i, xs = [.int i] ∧ Q (.int i) H) ∨ ∃ k, xs = [.bl k] ∧ Q (.int (b2i k)) H
section
variable {X : Cx}
theorem c_len {K : PySem.W.Frag} (hK : X.K = K) : CallR X (.builtin "len") (rLenS K) := by subst hK; exact call_len_seq
theorem c_list {K : PySem.W.Frag} (hK : X.K = K) : CallR X (.type "list") (rListS K) := by subst hK; exact call_list_of
theorem c_tup {K : PySem.W.Frag} (hK : X.K = K) : CallR X (.type "tuple") (rTupS K) := by subst hK; exact call_tuple_of
theorem c_abs : CallR X (.builtin "abs") rAbs := call_abs
theorem c_max2 (hc : X.calm = true) : CallR X (.builtin "max") rMax2 := call_max2 hc
theorem c_min2 (hc : X.calm = true) : CallR X (.builtin "min") rMin2 := call_min2 hc
theorem c_int1 : CallR X (.type "int") rInt1 := call_int1
end
theorem w_len (hS : Sym L H) (m : Ls K L a xs) (h : Q (.int xs.length) H) : rLenS K [.ref a] H Q := ⟨a, xs, rfl, .inl (m.sq hS), h⟩
theorem w_lenI (hS : Sym L H) (m : Ls K L a (ns.map V.int)) (h : Q (.int ns.length) H) : rLenS K [.ref a] H Q := ⟨a, _, rfl, .inl (m.sq hS), by rw [List.length_map]; exact h⟩
theorem w_list (hS : Sym L H) (m : Ls K L a xs) (k : ∀ p H', Sym ((p, ob (.lst xs)) :: L) H' → Q (.ref p) H') : rListS K [.ref a] H Q := ⟨a, xs, rfl, .inl (m.sq hS), r_new hS k⟩
theorem w_listT (hS : Sym L H) (m : At L a (ob (.tup xs))) (k : ∀ p H', Sym ((p, ob (.lst xs)) :: L) H' → Q (.ref p) H') : rListS K [.ref a] H Q := ⟨a, xs, rfl, .inr (Ts.sq m hS), r_new hS k⟩
theorem w_tup (hS : Sym L H) (m : Ls K L a xs) (k : ∀ p H', Sym ((p, ob (.tup xs)) :: L) H' → Q (.ref p) H') : rTupS K [.ref a] H Q := ⟨a, xs, rfl, .inl ⟨m.sq hS, r_new hS k⟩⟩
theorem w_abs (h : Q (.int (if i < 0 then -i else i)) H) : rAbs [.int i] H Q := ⟨i, rfl, h⟩
theorem w_max2 (h : Q (.int (if j > i then j else i)) H) : rMax2 [.int i, .int j] H Q := ⟨i, j, rfl, h⟩
theorem w_min2 (h : Q (.int (if j < i then j else i)) H) : rMin2 [.int i, .int j] H Q := ⟨i, j, rfl, h⟩
theorem w_intI (h : Q (.int i) H) : rInt1 [.int i] H Q := .inl ⟨i, rfl, h⟩
theorem w_intB {k : Bool} (h : Q (.int (b2i k)) H) : rInt1 [.bl k] H Q := .inr ⟨k, rfl, h⟩
/-- the item at a place, 0 where there is none -/
def gi (ns : List Int) (i : Int) : Int := ns.getD i.toNat 0
theorem atI_gi (h0 : 0 ≤ i) (h1 : i < ns.length) : atI (ns.map V.int) i = some (.int (gi ns i)) := by
  obtain ⟨n, rfl⟩ := Int.eq_ofNat_of_zero_le h0
  have h2 : n < ns.length := by omega
  rw [atI_nat (j := n) (by rw [List.getElem?_map, List.getElem?_eq_getElem h2]; rfl)]
  unfold gi
  simp [h2]
theorem w_ix {v : V} (hS : Sym L H) (m : Ls K L a xs) (e : atI xs i = some v) (h : Q v H) : rIxL K (.ref a) (.int i) H Q := ⟨a, xs, i, v, rfl, rfl, m.sq hS, e, h⟩
theorem w_ixI (hS : Sym L H) (m : Ls K L a (ns.map V.int)) (h0 : 0 ≤ i) (h1 : i < ns.length) (h : Q (.int (gi ns i)) H) : rIxL K (.ref a) (.int i) H Q := ⟨a, _, i, _, rfl, rfl, m.sq hS, atI_gi h0 h1, h⟩
theorem w_ixT {v : V} (hS : Sym L H) (m : At L a (ob (.tup xs))) (e : atI xs i = some v) (h : Q v H) : rIxT K (.ref a) (.int i) H Q := ⟨a, xs, i, v, rfl, rfl, Ts.sq m hS, e, h⟩
theorem w_cat (hS : Sym L H) (m : At L a (ob (.lst xs))) (m' : At L b (ob (.lst ys))) (hz : xs.length + ys.length ≤ 1000000) (k : ∀ p H', Sym ((p, ob (.lst (xs ++ ys))) :: L) H' → Q (.ref p) H') : rCat (.ref a) (.ref b) H Q :=
  ⟨a, b, xs, ys, rfl, rfl, hS.ob m, hS.ob m', sz hz, r_new hS k⟩
theorem w_rep {c : Int} (hS : Sym L H) (m : At L a (ob (.lst xs))) (h1 : -(2 ^ 63) ≤ c ∧ c < 2 ^ 63) (hz : xs.length * c.toNat ≤ 1000000) (k : ∀ p H', Sym ((p, ob (.lst (List.replicate c.toNat xs).flatten)) :: L) H' → Q (.ref p) H') : rRep (.ref a) (.int c) H Q :=
  ⟨a, c, xs, rfl, rfl, hS.ob m, h1.1, h1.2, sz hz, r_new hS k⟩
theorem w_sl {lo hi : Option Int} (hS : Sym L H) (m : Ls K L a xs) (k : ∀ p H', Sym ((p, ob (.lst (cutV xs lo hi))) :: L) H' → Q (.ref p) H') : rSlL K (.ref a) lo hi H Q := ⟨a, xs, rfl, m.sq hS, r_new hS k⟩
theorem w_rgL {x y : Int} (hS : Sym L H) (h : RgOk x y) (k : ∀ p H', Sym ((p, ob (.lst (rgV x y))) :: L) H' → Q (.ref p) H') : rRgL x y H Q := ⟨h, r_new hS k⟩
theorem w_rev (hS : Sym L H) (m : Ls K L a xs) (k : ∀ p H', Sym ((p, ob (.lst xs.reverse)) :: L) H' → Q (.ref p) H') : rRev K (.ref a) H Q := ⟨a, xs, rfl, m.sq hS, r_new hS k⟩
theorem w_step1 (hS : Sym L H) (m : Ls K L a xs) {c : Int} (e : c = 1) (k : ∀ p H', Sym ((p, ob (.lst xs)) :: L) H' → Q (.ref p) H') : rStep K (.ref a) (some c) H Q := ⟨a, xs, c, rfl, rfl, m.sq hS, .inl ⟨e, r_new hS k⟩⟩
theorem w_step2 (hS : Sym L H) (m : Ls K L a xs) {c : Int} (e : c = -1) (k : ∀ p H', Sym ((p, ob (.lst xs.reverse)) :: L) H' → Q (.ref p) H') : rStep K (.ref a) (some c) H Q := ⟨a, xs, c, rfl, rfl, m.sq hS, .inr ⟨e, r_new hS k⟩⟩
theorem w_app {R : SH} {y : V} (hS : Sym L H) (m : Pick L a (ob (.lst xs)) R) (hz : xs.length < 1000000) (k : ∀ H', Sym ((a, ob (.lst (xs ++ [y]))) :: R) H' → Q .non H') : tyV K "list" (.ref a) H ∧ rAppend (.ref a) [y] H Q := by
  have e := hS.ob m.at_
  exact ⟨.inl ⟨rfl, _, SqL.of e⟩, a, xs, y, rfl, rfl, e, szl hz, k _ (hS.put m _)⟩
/-- ==, != of data -/
theorem w_eqD {x y : V} {d e : PyData} (h1 : Dp K H x d) (h2 : Dp K H y e) (s1 : SeqAt.shaped d = true) (s2 : SeqAt.shaped e = true) (h : Q (.bl (PyData.eqv d e)) H) : rEqD K x y H Q := ⟨d, e, h1, h2, s1, s2, h⟩
theorem w_neD {x y : V} {d e : PyData} (h1 : Dp K H x d) (h2 : Dp K H y e) (s1 : SeqAt.shaped d = true) (s2 : SeqAt.shaped e = true) (h : Q (.bl (!PyData.eqv d e)) H) : rNeD K x y H Q := ⟨d, e, h1, h2, s1, s2, h⟩
/-- the slots written out -/
theorem st0 {t : TS} {D : Ends} {σ σ' : L2.St} {H : Hp} (e : σ = σ') (h : t D σ' H) : t D σ H := by subst e; exact h
/-- a statement and what stands behind it, that one under a name -/
theorem w_seq {t u : TS} {D : Ends} {σ : L2.St} {H : Hp} (h : ∀ R : L2.St → Hp → Prop, (∀ σ H, u D σ H → R σ H) → t { D with nx := R } σ H) : tSeq t u D σ H := h _ fun _ _ z => z
section
variable {p : Prop} [Decidable p] {A B : Prop}
theorem w_nt (h : B) : if (!true) = true then A else B := by rw [if_neg (by decide)]; exact h
theorem w_nf (h : A) : if (!false) = true then A else B := by rw [if_pos (by decide)]; exact h
theorem w_ifd (h1 : p → A) (h2 : ¬ p → B) : if decide p = true then A else B := by
  by_cases h : p
  · rw [if_pos (decide_eq_true h)]; exact h1 h
  · rw [if_neg (by rw [decide_eq_false h]; decide)]; exact h2 h
theorem w_ifn (h1 : ¬ p → A) (h2 : p → B) : if (!decide p) = true then A else B := by
  by_cases h : p
  · rw [if_neg (by rw [decide_eq_true h]; decide)]; exact h2 h
  · rw [if_pos (by rw [decide_eq_false h]; rfl)]; exact h1 h
theorem w_ifT (h : p) (k : A) : if decide p = true then A else B := w_ifd (fun _ => k) fun n => absurd h n
theorem w_ifF (h : ¬ p) (k : B) : if decide p = true then A else B := w_ifd (fun n => absurd n h) fun _ => k
theorem w_inT (h : ¬ p) (k : A) : if (!decide p) = true then A else B := w_ifn (fun _ => k) fun n => absurd n h
theorem w_inF (h : p) (k : B) : if (!decide p) = true then A else B := w_ifn (fun n => absurd h n) fun _ => k
theorem w_bfalse (h : A) : if decide (false = false) = true then A else B := w_ifT rfl h
theorem w_btrue (h : A) : if decide (true = true) = true then A else B := w_ifT rfl h
theorem w_n0int {i : Int} (h : B) : if decide (V.int i = V.non) = true then A else B := w_ifF (by intro z; cases z) h
theorem w_n1int {i : Int} (h : A) : if (!decide (V.int i = V.non)) = true then A else B := w_inT (by intro z; cases z) h
theorem w_n0ref {a : Addr} (h : B) : if decide (V.ref a = V.non) = true then A else B := w_ifF (by intro z; cases z) h
theorem w_n1ref {a : Addr} (h : A) : if (!decide (V.ref a = V.non)) = true then A else B := w_inT (by intro z; cases z) h
theorem w_n0bl {c : Bool} (h : B) : if decide (V.bl c = V.non) = true then A else B := w_ifF (by intro z; cases z) h
theorem w_n1bl {c : Bool} (h : A) : if (!decide (V.bl c = V.non)) = true then A else B := w_inT (by intro z; cases z) h
theorem w_n0str {c : Str} (h : B) : if decide (V.str c = V.non) = true then A else B := w_ifF (by intro z; cases z) h
theorem w_n1str {c : Str} (h : A) : if (!decide (V.str c = V.non)) = true then A else B := w_inT (by intro z; cases z) h
theorem w_n0non (h : A) : if decide (V.non = V.non) = true then A else B := w_ifT rfl h
theorem w_n1non (h : B) : if (!decide (V.non = V.non)) = true then A else B := w_inF rfl h
end
/-! tests -/
theorem w_t {c : Bool} {R : Bool → Prop} (h : R c) : ∃ k, V.bl c = .bl k ∧ R k := ⟨c, rfl, h⟩
end
end LB
set_option Elab.async false
set_option linter.all false
set_option maxRecDepth 100000
set_option maxHeartbeats 2000000
/-! loops and comprehensions over a list of places -/
namespace LB
open PySem PySem.Spec PyProof.Rows L2
section
variable {σ : L2.St} {H : Hp} {Q : VK} {v : V} {K : PySem.W.Frag} {L : SH} {a b : Addr} {xs ys : List V} {g : TG} {tb : TS} {D : Ends} {te : TE} {tt : TT} {ta : TA} {vs : List Nat}
/-! ### for -/
/-- what a for asks of its turns -/
def lp (J : It) (g : TG) (tb : TS) (D : Ends) (H : Hp) (σ : L2.St) : Prop := ∃ W : Nat → Nat → L2.St → Hp → Prop, (∃ m, W 0 m σ H) ∧ ∀ i m σ H, W i m σ H →
  (J.stop i H ∧ D.nx σ H) ∨ (J.go i H ∧ ∃ N : L2.St → Hp → Prop, (∀ σ' H', N σ' H' → ∃ m', m' < m ∧ W (i + 1) m' σ' H') ∧ ∀ x H', J.yld i H x H' → g x σ H' fun σ2 H2 => tb { D with nx := N, ct := N, bk := D.nx } σ2 H2)
def lpL (K : PySem.W.Frag) (a : Addr) (g : TG) (tb : TS) (D : Ends) (σ : L2.St) (H : Hp) : Prop := (∃ xs, SqL K H a xs) ∧ lp (Itl K a) g tb D H σ
def lpT (K : PySem.W.Frag) (a : Addr) (g : TG) (tb : TS) (D : Ends) (σ : L2.St) (H : Hp) : Prop := (∃ xs, SqT K H a xs) ∧ lp (Itt K a) g tb D H σ
def lpR (i : Int) (n : Nat) (g : TG) (tb : TS) (D : Ends) (σ : L2.St) (H : Hp) : Prop := lp (Itr i n) g tb D H σ
def lpE (K : PySem.W.Frag) (a : Addr) (g : TG) (tb : TS) (D : Ends) (σ : L2.St) (H : Hp) : Prop := ∃ xs, SqL K H a xs ∧ lp (Ite K a) g tb D H σ
def lpZ (K : PySem.W.Frag) (a b : Addr) (g : TG) (tb : TS) (D : Ends) (σ : L2.St) (H : Hp) : Prop := ∃ xs ys, SqL K H a xs ∧ SqL K H b ys ∧ lp (Itz K a b) g tb D H σ
theorem for_L : tFor (iList K te) g tb = fun D σ H => te σ H fun x H1 => ∃ a, x = .ref a ∧ lpL K a g tb D σ H1 := rfl
theorem for_T : tFor (iTup K te) g tb = fun D σ H => te σ H fun x H1 => ∃ a, x = .ref a ∧ lpT K a g tb D σ H1 := rfl
theorem for_R1 : tFor (iRng1 ta) g tb = fun D σ H => ta σ H fun vs H1 => ∃ j : Int, vs = [.int j] ∧ -(2 ^ 62) ≤ j ∧ j < 2 ^ 62 ∧ lpR 0 j.toNat g tb D σ H1 := rfl
theorem for_R2 : tFor (iRng2 ta) g tb = fun D σ H => ta σ H fun vs H1 => ∃ i j : Int, vs = [.int i, .int j] ∧ (-(2 ^ 62) ≤ i ∧ i < 2 ^ 62 ∧ -(2 ^ 62) ≤ j ∧ j < 2 ^ 62) ∧ lpR i (j - i).toNat g tb D σ H1 := rfl
/-- a for over anything, with what holds between two turns: J by the turn, the slots and the places -/
theorem lp_it {It' : It} {n : Nat} {G : Hp → Prop} {Y : Nat → Hp → V → Hp → Prop} (w : Walk It' n G Y) (J : Nat → L2.St → SH → Prop) (hS : Sym L H) (h0 : J 0 σ L) (hG : ∀ i σ L' H', J i σ L' → Sym L' H' → G H')
    (hs : ∀ i x σ L' H' H'', i < n → J i σ L' → Sym L' H' → Y i H' x H'' → g x σ H'' fun σ2 H2 => tb { D with nx := fun σ3 H3 => ∃ L3, J (i + 1) σ3 L3 ∧ Sym L3 H3, ct := fun σ3 H3 => ∃ L3, J (i + 1) σ3 L3 ∧ Sym L3 H3, bk := D.nx } σ2 H2)
    (hd : ∀ σ L' H', J n σ L' → Sym L' H' → D.nx σ H') : lp It' g tb D H σ :=
  for_it w (fun i σ H => ∃ L', J i σ L' ∧ Sym L' H) ⟨L, h0, hS⟩ (fun i σ H _ ⟨L', j, s⟩ => hG i σ L' H j s) (fun i x σ H H' hi ⟨L', j, s⟩ y => hs i x σ L' H H' hi j s y) fun σ H ⟨L', j, s⟩ => hd σ L' H j s
theorem lp_list (xs : List V) (J : Nat → L2.St → SH → Prop) (hS : Sym L H) (m : Ls K L a xs) (h0 : J 0 σ L) (hl : ∀ i σ L', J i σ L' → Ls K L' a xs)
    (hs : ∀ i x σ L' H', xs[i]? = some x → J i σ L' → Sym L' H' → g x σ H' fun σ2 H2 => tb { D with nx := fun σ3 H3 => ∃ L3, J (i + 1) σ3 L3 ∧ Sym L3 H3, ct := fun σ3 H3 => ∃ L3, J (i + 1) σ3 L3 ∧ Sym L3 H3, bk := D.nx } σ2 H2)
    (hd : ∀ σ L' H', J xs.length σ L' → Sym L' H' → D.nx σ H') : lpL K a g tb D σ H :=
  ⟨⟨xs, m.sq hS⟩, lp_it walk_list J hS h0 (fun i σ L' H' j s => (hl i σ L' j).sq s) (fun i x σ L' H' H'' _ j s y => by obtain ⟨rfl, e⟩ := y; exact hs i x σ L' _ e j s) hd⟩
theorem lp_tup (xs : List V) (J : Nat → L2.St → SH → Prop) (hS : Sym L H) (m : At L a (ob (.tup xs))) (h0 : J 0 σ L) (hl : ∀ i σ L', J i σ L' → At L' a (ob (.tup xs)))
    (hs : ∀ i x σ L' H', xs[i]? = some x → J i σ L' → Sym L' H' → g x σ H' fun σ2 H2 => tb { D with nx := fun σ3 H3 => ∃ L3, J (i + 1) σ3 L3 ∧ Sym L3 H3, ct := fun σ3 H3 => ∃ L3, J (i + 1) σ3 L3 ∧ Sym L3 H3, bk := D.nx } σ2 H2)
    (hd : ∀ σ L' H', J xs.length σ L' → Sym L' H' → D.nx σ H') : lpT K a g tb D σ H :=
  ⟨⟨xs, Ts.sq (K := K) m hS⟩, lp_it walk_tup J hS h0 (fun i σ L' H' j s => Ts.sq (K := K) (hl i σ L' j) s) (fun i x σ L' H' H'' _ j s y => by obtain ⟨rfl, e⟩ := y; exact hs i x σ L' _ e j s) hd⟩
theorem lp_range {lo : Int} {n : Nat} (J : Nat → L2.St → SH → Prop) (hS : Sym L H) (h0 : J 0 σ L)
    (hs : ∀ i σ L' H', i < n → J i σ L' → Sym L' H' → g (.int (lo + i)) σ H' fun σ2 H2 => tb { D with nx := fun σ3 H3 => ∃ L3, J (i + 1) σ3 L3 ∧ Sym L3 H3, ct := fun σ3 H3 => ∃ L3, J (i + 1) σ3 L3 ∧ Sym L3 H3, bk := D.nx } σ2 H2)
    (hd : ∀ σ L' H', J n σ L' → Sym L' H' → D.nx σ H') : lpR lo n g tb D σ H :=
  lp_it walk_range J hS h0 (fun _ _ _ _ _ _ => True.intro) (fun i x σ L' H' H'' hi j s y => by obtain ⟨rfl, rfl⟩ := y; exact hs i σ L' _ hi j s) hd
theorem lp_enum (xs : List V) (J : Nat → L2.St → SH → Prop) (hS : Sym L H) (m : Ls K L a xs) (h0 : J 0 σ L) (hl : ∀ i σ L', J i σ L' → Ls K L' a xs)
    (hs : ∀ i x T σ L' H', xs[i]? = some x → J i σ L' → Sym ((T, ob (.tup [.int i, x])) :: L') H' → g (.ref T) σ H' fun σ2 H2 => tb { D with nx := fun σ3 H3 => ∃ L3, J (i + 1) σ3 L3 ∧ Sym L3 H3, ct := fun σ3 H3 => ∃ L3, J (i + 1) σ3 L3 ∧ Sym L3 H3, bk := D.nx } σ2 H2)
    (hd : ∀ σ L' H', J xs.length σ L' → Sym L' H' → D.nx σ H') : lpE K a g tb D σ H :=
  ⟨xs, m.sq hS, lp_it walk_enum J hS h0 (fun i σ L' H' j s => (hl i σ L' j).sq s) (fun i x σ L' H' H'' _ j s y => by
    obtain ⟨T, u, z, rfl, np, rfl, e1, e2⟩ := y
    obtain rfl := Option.some.inj e1
    exact hs i z T σ L' _ e2 j (s.new np _)) hd⟩
theorem lp_zip (xs ys : List V) (J : Nat → L2.St → SH → Prop) (hS : Sym L H) (m : Ls K L a xs ∧ Ls K L b ys) (h0 : J 0 σ L) (hl : ∀ i σ L', J i σ L' → Ls K L' a xs ∧ Ls K L' b ys)
    (hs : ∀ i x y T σ L' H', xs[i]? = some x → ys[i]? = some y → J i σ L' → Sym ((T, ob (.tup [x, y])) :: L') H' → g (.ref T) σ H' fun σ2 H2 => tb { D with nx := fun σ3 H3 => ∃ L3, J (i + 1) σ3 L3 ∧ Sym L3 H3, ct := fun σ3 H3 => ∃ L3, J (i + 1) σ3 L3 ∧ Sym L3 H3, bk := D.nx } σ2 H2)
    (hd : ∀ σ L' H', J (min xs.length ys.length) σ L' → Sym L' H' → D.nx σ H') : lpZ K a b g tb D σ H :=
  ⟨xs, ys, m.1.sq hS, m.2.sq hS, lp_it (walk_zip rfl) J hS h0 (fun i σ L' H' j s => ⟨(hl i σ L' j).1.sq s, (hl i σ L' j).2.sq s⟩) (fun i x σ L' H' H'' _ j s y => by
    obtain ⟨T, u, z, rfl, np, rfl, e1, e2⟩ := y
    exact hs i u z T σ L' _ e1 e2 j (s.new np _)) hd⟩
theorem for_E : tFor (iEnum K ta) g tb D σ H = (ta σ H fun vs H1 => ∃ a xs, vs = [.ref a] ∧ SqL K H1 a xs ∧ lp (Ite K a) g tb D H1 σ) := rfl
theorem for_Z : tFor (iZip K ta) g tb D σ H = (ta σ H fun vs H1 => ∃ a b xs ys, vs = [.ref a, .ref b] ∧ SqL K H1 a xs ∧ SqL K H1 b ys ∧ lp (Itz K a b) g tb D H1 σ) := rfl
theorem w_lpE (h : lpE K a g tb D σ H) : ∃ a' xs, [V.ref a] = [.ref a'] ∧ SqL K H a' xs ∧ lp (Ite K a') g tb D H σ := by
  obtain ⟨xs, s, q⟩ := h
  exact ⟨a, xs, rfl, s, q⟩
theorem w_lpZ (h : lpZ K a b g tb D σ H) : ∃ a' b' xs ys, [V.ref a, V.ref b] = [.ref a', .ref b'] ∧ SqL K H a' xs ∧ SqL K H b' ys ∧ lp (Itz K a' b') g tb D H σ := by
  obtain ⟨xs, ys, s, t, q⟩ := h
  exact ⟨a, b, xs, ys, rfl, s, t, q⟩
theorem w_ref {R : Addr → Prop} (h : R a) : ∃ a', V.ref a = .ref a' ∧ R a' := ⟨a, rfl, h⟩
theorem w_int {i : Int} {R : Int → Prop} (h : R i) : ∃ i', V.int i = .int i' ∧ R i' := ⟨i, rfl, h⟩
theorem w_r1 {j : Int} {R : Int → Prop} (h : -(2 ^ 62) ≤ j ∧ j < 2 ^ 62) (k : R j) : ∃ j', [V.int j] = [.int j'] ∧ -(2 ^ 62) ≤ j' ∧ j' < 2 ^ 62 ∧ R j' := ⟨j, rfl, h.1, h.2, k⟩
theorem w_r2 {i j : Int} {R : Int → Int → Prop} (h : -(2 ^ 62) ≤ i ∧ i < 2 ^ 62 ∧ -(2 ^ 62) ≤ j ∧ j < 2 ^ 62) (k : R i j) : ∃ i' j', [V.int i, V.int j] = [.int i', .int j'] ∧ (-(2 ^ 62) ≤ i' ∧ i' < 2 ^ 62 ∧ -(2 ^ 62) ≤ j' ∧ j' < 2 ^ 62) ∧ R i' j' := ⟨i, j, rfl, h, k⟩
/-! ### targets -/
theorem w_gt {n : Nat} {t : TGs} {R : L2.St → Hp → Prop} (hS : Sym L H) (m : At L a (ob (.tup xs))) (e : xs.length = n) (h : t xs σ H R) : gTup K n t (.ref a) σ H R := ⟨a, xs, rfl, Ts.sq m hS, e, h⟩
theorem w_gc {t : TG} {u : TGs} {r : List V} {R : L2.St → Hp → Prop} (h : t v σ H fun σ' H' => u r σ' H' R) : gCons t u (v :: r) σ H R := ⟨v, r, rfl, h⟩
theorem w_gn {R : L2.St → Hp → Prop} (h : R σ H) : gNil [] σ H R := ⟨rfl, h⟩
theorem w_par {i j : Nat} {x y : V} {R : L2.St → Hp → Prop} (h : R ((σ.set i (some x)).set j (some y)) H) : ∃ v w, [x, y] = [v, w] ∧ R ((σ.set i (some v)).set j (some w)) H := ⟨x, y, rfl, h⟩
theorem w_par3 {i j l : Nat} {x y z : V} {R : L2.St → Hp → Prop} (h : R (((σ.set i (some x)).set j (some y)).set l (some z)) H) : ∃ u v w, [x, y, z] = [u, v, w] ∧ R (((σ.set i (some u)).set j (some v)).set l (some w)) H := ⟨x, y, z, rfl, h⟩
/-! ### while -/
def whN (J : Nat → L2.St → SH → Prop) (m : Nat) (tb : TS) (D : Ends) (σ : L2.St) (b : Bool) (H : Hp) : Prop :=
  if b = true then ∃ N : L2.St → Hp → Prop, (∀ σ' H', N σ' H' → ∃ m', m' < m ∧ ∃ L', J m' σ' L' ∧ Sym L' H') ∧ tb { D with nx := N, ct := N, bk := D.nx } σ H else D.nx σ H
theorem w_while {c : TT} (J : Nat → L2.St → SH → Prop) (m0 : Nat) (hS : Sym L H) (h0 : J m0 σ L) (hs : ∀ m σ L' H', J m σ L' → Sym L' H' → c σ H' (whN J m tb D σ)) : tWhile c tb D σ H :=
  ⟨fun m σ H => ∃ L', J m σ L' ∧ Sym L' H, ⟨m0, L, h0, hS⟩, fun m σ H ⟨L', j, s⟩ => hs m σ L' H j s⟩
theorem wh_t {J : Nat → L2.St → SH → Prop} {m : Nat} (h : tb { D with nx := fun σ' H' => ∃ m' L', m' < m ∧ J m' σ' L' ∧ Sym L' H', ct := fun σ' H' => ∃ m' L', m' < m ∧ J m' σ' L' ∧ Sym L' H', bk := D.nx } σ H) : whN J m tb D σ true H := by
  unfold whN
  rw [if_pos rfl]
  exact ⟨_, fun σ' H' ⟨m', L', l, j, s⟩ => ⟨m', l, L', j, s⟩, h⟩
theorem wh_f {J : Nat → L2.St → SH → Prop} {m : Nat} (h : D.nx σ H) : whN J m tb D σ false H := by
  unfold whN
  rw [if_neg (by decide)]
  exact h
theorem wh_d {J : Nat → L2.St → SH → Prop} {m : Nat} {p : Prop} [Decidable p] (h1 : p → whN J m tb D σ true H) (h2 : ¬ p → whN J m tb D σ false H) : whN J m tb D σ (decide p) H := by
  by_cases h : p
  · rw [decide_eq_true h]; exact h1 h
  · rw [decide_eq_false h]; exact h2 h
theorem wh_n {J : Nat → L2.St → SH → Prop} {m : Nat} {p : Prop} [Decidable p] (h1 : ¬ p → whN J m tb D σ true H) (h2 : p → whN J m tb D σ false H) : whN J m tb D σ (!decide p) H := by
  by_cases h : p
  · rw [decide_eq_true h]; exact h2 h
  · rw [decide_eq_false h]; exact h1 h
/-! ### comprehensions -/
def lcP (D : Addr) (N : Hp → Prop) (y : V) (H : Hp) : Prop := ∃ acc, H D = some (.lst acc) ∧ acc.length < sizeLine ∧ N (upd H D (.lst (acc ++ [y])))
/-- what a comprehension asks of its turns, the new list at D -/
def lc (J : It) (g : TG) (tt : TT) (te : TE) (vs : List Nat) (σ : L2.St) (H1 : Hp) (Q : VK) : Prop := ∀ D, H1 D = none → ∃ W : Nat → Nat → Hp → Prop, (∃ m, W 0 m (upd H1 D (.lst []))) ∧ ∀ i m H, W i m H →
  (J.stop i H ∧ Q (.ref D) H) ∨ (J.go i H ∧ ∃ Nx : Hp → Prop, (∀ H', Nx H' → ∃ m', m' < m ∧ W (i + 1) m' H') ∧ ∀ x H', J.yld i H x H' → g x (wipe σ vs) H' fun σ2 H2 => wipe σ2 vs = wipe σ vs ∧ tt σ2 H2 fun b H3 =>
    if b = true then te σ2 H3 (lcP D Nx) else Nx H3)
def lcL (K : PySem.W.Frag) (a : Addr) (g : TG) (tt : TT) (te : TE) (vs : List Nat) (σ : L2.St) (H : Hp) (Q : VK) : Prop := (∃ xs, SqL K H a xs) ∧ lc (Itl K a) g tt te vs σ H Q
def lcT (K : PySem.W.Frag) (a : Addr) (g : TG) (tt : TT) (te : TE) (vs : List Nat) (σ : L2.St) (H : Hp) (Q : VK) : Prop := (∃ xs, SqT K H a xs) ∧ lc (Itt K a) g tt te vs σ H Q
def lcR (lo : Int) (n : Nat) (g : TG) (tt : TT) (te : TE) (vs : List Nat) (σ : L2.St) (H : Hp) (Q : VK) : Prop := lc (Itr lo n) g tt te vs σ H Q
def lcE (K : PySem.W.Frag) (a : Addr) (g : TG) (tt : TT) (te : TE) (vs : List Nat) (σ : L2.St) (H : Hp) (Q : VK) : Prop := ∃ xs, SqL K H a xs ∧ lc (Ite K a) g tt te vs σ H Q
def lcZ (K : PySem.W.Frag) (a b : Addr) (g : TG) (tt : TT) (te : TE) (vs : List Nat) (σ : L2.St) (H : Hp) (Q : VK) : Prop := ∃ xs ys, SqL K H a xs ∧ SqL K H b ys ∧ lc (Itz K a b) g tt te vs σ H Q
variable {te2 : TE}
theorem lc_L : tLc (iList K te) g tt te2 vs = fun σ H Q => te σ H fun x H1 => ∃ a, x = .ref a ∧ lcL K a g tt te2 vs σ H1 Q := rfl
theorem lc_T : tLc (iTup K te) g tt te2 vs = fun σ H Q => te σ H fun x H1 => ∃ a, x = .ref a ∧ lcT K a g tt te2 vs σ H1 Q := rfl
theorem lc_R1 : tLc (iRng1 ta) g tt te2 vs = fun σ H Q => ta σ H fun us H1 => ∃ j : Int, us = [.int j] ∧ -(2 ^ 62) ≤ j ∧ j < 2 ^ 62 ∧ lcR 0 j.toNat g tt te2 vs σ H1 Q := rfl
theorem lc_R2 : tLc (iRng2 ta) g tt te2 vs = fun σ H Q => ta σ H fun us H1 => ∃ i j : Int, us = [.int i, .int j] ∧ (-(2 ^ 62) ≤ i ∧ i < 2 ^ 62 ∧ -(2 ^ 62) ≤ j ∧ j < 2 ^ 62) ∧ lcR i (j - i).toNat g tt te2 vs σ H1 Q := rfl
theorem lc_E : tLc (iEnum K ta) g tt te2 vs = fun σ H Q => ta σ H fun us H1 => ∃ a xs, us = [.ref a] ∧ SqL K H1 a xs ∧ lc (Ite K a) g tt te2 vs σ H1 Q := rfl
theorem lc_Z : tLc (iZip K ta) g tt te2 vs = fun σ H Q => ta σ H fun us H1 => ∃ a b xs ys, us = [.ref a, .ref b] ∧ SqL K H1 a xs ∧ SqL K H1 b ys ∧ lc (Itz K a b) g tt te2 vs σ H1 Q := rfl
theorem w_lcE (h : lcE K a g tt te vs σ H Q) : ∃ a' xs, [V.ref a] = [.ref a'] ∧ SqL K H a' xs ∧ lc (Ite K a') g tt te vs σ H Q := by
  obtain ⟨xs, s, q⟩ := h
  exact ⟨a, xs, rfl, s, q⟩
theorem w_lcZ (h : lcZ K a b g tt te vs σ H Q) : ∃ a' b' xs ys, [V.ref a, V.ref b] = [.ref a', .ref b'] ∧ SqL K H a' xs ∧ SqL K H b' ys ∧ lc (Itz K a' b') g tt te vs σ H Q := by
  obtain ⟨xs, ys, s, t, q⟩ := h
  exact ⟨a, b, xs, ys, rfl, s, t, q⟩
/-- between two turns: J by the turn, what is made so far, and the other places -/
def lcN (J : Nat → List V → SH → Prop) (D : Addr) (i : Nat) (H : Hp) : Prop := ∃ acc L', J i acc L' ∧ acc.length ≤ i ∧ Sym ((D, ob (.lst acc)) :: L') H
theorem lc_it' {It' : It} {n : Nat} {G : Hp → Prop} {Y : Nat → Hp → V → Hp → Prop} (w : Walk It' n G Y) (J : Nat → List V → SH → Prop) (hS : Sym L H) (h0 : J 0 [] L) (hG : ∀ i acc L' D H', J i acc L' → Sym ((D, ob (.lst acc)) :: L') H' → G H')
    (hs : ∀ i x acc D L' H' H'', i < n → J i acc L' → acc.length ≤ i → Sym ((D, ob (.lst acc)) :: L') H' → Y i H' x H'' → g x (wipe σ vs) H'' fun σ2 H2 => wipe σ2 vs = wipe σ vs ∧ tt σ2 H2 fun b H3 => if b = true then te σ2 H3 (lcP D (lcN J D (i + 1))) else lcN J D (i + 1) H3)
    (hd : ∀ acc D L' H', J n acc L' → Sym ((D, ob (.lst acc)) :: L') H' → Q (.ref D) H') : lc It' g tt te vs σ H Q := fun D nD =>
  L2.lc_it w (lcN J D) ⟨[], L, h0, Nat.le_refl _, hS.new nD _⟩ (fun i H _ ⟨acc, L', j, _, s⟩ => hG i acc L' D H j s) (fun i x H H' hi ⟨acc, L', j, l, s⟩ y => hs i x acc D L' H H' hi j l s y) fun H ⟨acc, L', j, _, s⟩ => hd acc D L' H j s
theorem lc_list (xs : List V) (J : Nat → List V → SH → Prop) (hS : Sym L H) (m : Ls K L a xs) (h0 : J 0 [] L) (hl : ∀ i acc L', J i acc L' → Ls K L' a xs)
    (hs : ∀ i x acc D L' H', xs[i]? = some x → J i acc L' → acc.length ≤ i → Sym ((D, ob (.lst acc)) :: L') H' → g x (wipe σ vs) H' fun σ2 H2 => wipe σ2 vs = wipe σ vs ∧ tt σ2 H2 fun b H3 => if b = true then te σ2 H3 (lcP D (lcN J D (i + 1))) else lcN J D (i + 1) H3)
    (hd : ∀ acc D L' H', J xs.length acc L' → Sym ((D, ob (.lst acc)) :: L') H' → Q (.ref D) H') : lcL K a g tt te vs σ H Q :=
  ⟨⟨xs, m.sq hS⟩, lc_it' walk_list J hS h0 (fun i acc L' D H' j s => (hl i acc L' j).tl.sq s) (fun i x acc D L' H' H'' _ j l s y => by obtain ⟨rfl, e⟩ := y; exact hs i x acc D L' _ e j l s) hd⟩
theorem lc_range {lo : Int} {n : Nat} (J : Nat → List V → SH → Prop) (hS : Sym L H) (h0 : J 0 [] L)
    (hs : ∀ i acc D L' H', i < n → J i acc L' → acc.length ≤ i → Sym ((D, ob (.lst acc)) :: L') H' → g (.int (lo + i)) (wipe σ vs) H' fun σ2 H2 => wipe σ2 vs = wipe σ vs ∧ tt σ2 H2 fun b H3 => if b = true then te σ2 H3 (lcP D (lcN J D (i + 1))) else lcN J D (i + 1) H3)
    (hd : ∀ acc D L' H', J n acc L' → Sym ((D, ob (.lst acc)) :: L') H' → Q (.ref D) H') : lcR lo n g tt te vs σ H Q :=
  lc_it' walk_range J hS h0 (fun _ _ _ _ _ _ _ => True.intro) (fun i x acc D L' H' H'' hi j l s y => by obtain ⟨rfl, rfl⟩ := y; exact hs i acc D L' _ hi j l s) hd
theorem lc_enum (xs : List V) (J : Nat → List V → SH → Prop) (hS : Sym L H) (m : Ls K L a xs) (h0 : J 0 [] L) (hl : ∀ i acc L', J i acc L' → Ls K L' a xs)
    (hs : ∀ i x acc D T L' H', xs[i]? = some x → J i acc L' → acc.length ≤ i → Sym ((T, ob (.tup [.int i, x])) :: (D, ob (.lst acc)) :: L') H' → g (.ref T) (wipe σ vs) H' fun σ2 H2 => wipe σ2 vs = wipe σ vs ∧ tt σ2 H2 fun b H3 => if b = true then te σ2 H3 (lcP D (lcN J D (i + 1))) else lcN J D (i + 1) H3)
    (hd : ∀ acc D L' H', J xs.length acc L' → Sym ((D, ob (.lst acc)) :: L') H' → Q (.ref D) H') : lcE K a g tt te vs σ H Q :=
  ⟨xs, m.sq hS, lc_it' walk_enum J hS h0 (fun i acc L' D H' j s => (hl i acc L' j).tl.sq s) (fun i x acc D L' H' H'' _ j l s y => by
    obtain ⟨T, u, z, rfl, np, rfl, e1, e2⟩ := y
    obtain rfl := Option.some.inj e1
    exact hs i z acc D T L' _ e2 j l (s.new np _)) hd⟩
theorem lc_zip (xs ys : List V) (J : Nat → List V → SH → Prop) (hS : Sym L H) (m : Ls K L a xs ∧ Ls K L b ys) (h0 : J 0 [] L) (hl : ∀ i acc L', J i acc L' → Ls K L' a xs ∧ Ls K L' b ys)
    (hs : ∀ i x y acc D T L' H', xs[i]? = some x → ys[i]? = some y → J i acc L' → acc.length ≤ i → Sym ((T, ob (.tup [x, y])) :: (D, ob (.lst acc)) :: L') H' → g (.ref T) (wipe σ vs) H' fun σ2 H2 => wipe σ2 vs = wipe σ vs ∧ tt σ2 H2 fun b H3 => if b = true then te σ2 H3 (lcP D (lcN J D (i + 1))) else lcN J D (i + 1) H3)
    (hd : ∀ acc D L' H', J (min xs.length ys.length) acc L' → Sym ((D, ob (.lst acc)) :: L') H' → Q (.ref D) H') : lcZ K a b g tt te vs σ H Q :=
  ⟨xs, ys, m.1.sq hS, m.2.sq hS, lc_it' (walk_zip rfl) J hS h0 (fun i acc L' D H' j s => ⟨(hl i acc L' j).1.tl.sq s, (hl i acc L' j).2.tl.sq s⟩) (fun i x acc D L' H' H'' _ j l s y => by
    obtain ⟨T, u, z, rfl, np, rfl, e1, e2⟩ := y
    exact hs i u z acc D T L' _ e1 e2 j l (s.new np _)) hd⟩
/-- an item goes to the new list -/
theorem lcp {J : Nat → List V → SH → Prop} {R L' : SH} {acc : List V} {d : Addr} {i : Nat} {y : V} (hS : Sym L H) (m : Pick L d (ob (.lst acc)) R) (l : acc.length ≤ i) (z : i < 1000000) (j : J (i + 1) (acc ++ [y]) L') (s : Sub L' R) : lcP d (lcN J d (i + 1)) y H := by
  refine ⟨acc, hS.ob m.at_, szl (by omega), acc ++ [y], L', j, by rw [List.length_append]; exact Nat.succ_le_succ l, ?_⟩
  have h := hS.put m (.lst (acc ++ [y]))
  have hn := h.nd
  have e := h.ob At.hd
  refine h.sub (.cons .hd s)
theorem lcn {J : Nat → List V → SH → Prop} {R L' : SH} {acc : List V} {d : Addr} {i : Nat} (hS : Sym L H) (m : Pick L d (ob (.lst acc)) R) (l : acc.length ≤ i) (j : J (i + 1) acc L') (s : Sub L' R) : lcN J d (i + 1) H :=
  ⟨acc, L', j, Nat.le_succ_of_le l, hS.sub (.cons m s)⟩
end
end LB
set_option Elab.async false
set_option linter.all false
set_option maxRecDepth 100000
set_option maxHeartbeats 2000000
/-! data: lists of ints -/
namespace LB
open PySem PySem.Spec PyProof.Rows L2
def pl (ns : List Int) : PyData := .list (ns.map PyData.int)
theorem eqvAll_ints : ∀ a b : List Int, PyData.eqvAll (a.map PyData.int) (b.map PyData.int) = decide (a = b)
  | [], [] => by simp [PyData.eqvAll]
  | [], _ :: _ => by simp [PyData.eqvAll]
  | _ :: _, [] => by simp [PyData.eqvAll]
  | x :: a, y :: b => by
    have ih := eqvAll_ints a b
    simp only [List.map_cons, PyData.eqvAll, PyData.eqv, ih, List.cons.injEq]
    by_cases h : x = y <;> by_cases h2 : a = b <;> simp [h, h2]
theorem eqv_pl (a b : List Int) : PyData.eqv (pl a) (pl b) = decide (a = b) := by
  unfold pl
  rw [PyData.eqv, eqvAll_ints]
theorem can_ints : ∀ a : List Int, PyData.canLayAll0 (a.map PyData.int) = true
  | [] => by simp [PyData.canLayAll0]
  | x :: a => by simp [PyData.canLayAll0, PyData.canLay0, can_ints a]
theorem can_pl (a : List Int) : PyData.canLay0 (pl a) = true := by
  unfold pl
  rw [PyData.canLay0, can_ints]
theorem depth_ints : ∀ a : List Int, PyData.depthAll (a.map PyData.int) = 0
  | [] => by simp [PyData.depthAll]
  | x :: a => by simp [PyData.depthAll, PyData.depth, depth_ints a]
theorem depth_pl (a : List Int) : PyData.depth (pl a) = 1 := by
  unfold pl
  rw [PyData.depth, depth_ints]
theorem shaped_of {d : PyData} (h : d.canLay0 = true) (h2 : d.depth ≤ 64) : SeqAt.shaped d = true := by
  unfold SeqAt.shaped
  rw [h, decide_eq_true h2]
  rfl
theorem shaped_pl (a : List Int) : SeqAt.shaped (pl a) = true := shaped_of (can_pl a) (by rw [depth_pl]; decide)
theorem int_at {ns : List Int} {i : Nat} {x : V} (h : (ns.map V.int)[i]? = some x) : ∃ z, x = V.int z := by
  rw [List.getElem?_map] at h
  cases e : ns[i]? with
  | none => rw [e] at h; cases h
  | some z => rw [e] at h; exact ⟨z, (Option.some.inj h).symm⟩
theorem int_get {ns : List Int} {i : Nat} {z : Int} (h : (ns.map V.int)[i]? = some (V.int z)) : ns[i]? = some z := by
  rw [List.getElem?_map] at h
  cases e : ns[i]? with
  | none => rw [e] at h; cases h
  | some y => rw [e] at h; rw [V.int.inj (Option.some.inj h)]
theorem int_lt {ns : List Int} {i : Nat} {x : V} (h : (ns.map V.int)[i]? = some x) : i < ns.length := by
  have q := (List.getElem?_eq_some_iff.mp h).1
  rw [List.length_map] at q
  exact q
theorem int_mem {ns : List Int} {i : Nat} {z : Int} (h : (ns.map V.int)[i]? = some (V.int z)) : z ∈ ns := List.mem_of_getElem? (int_get h)
theorem int_gi {ns : List Int} {i : Nat} {z : Int} (h : (ns.map V.int)[i]? = some (V.int z)) : z = gi ns i := by
  have q := int_get h
  unfold gi
  simp [q]
section
variable {H : Hp} {Q : VK} {K : PySem.W.Frag} {L : SH} {a b : Addr} {xs ys : List V} {ns ms : List Int} {i j : Int}
theorem dp_ints {K : PySem.W.Frag} {H : Hp} : ∀ ns : List Int, DpAll K H (ns.map V.int) (ns.map PyData.int)
  | [] => .nil
  | x :: a => .cons (.int x) (dp_ints a)
theorem dp_pl (hS : Sym L H) (m : Ls K L a (ns.map V.int)) : Dp K H (.ref a) (pl ns) := .lst (m.sq hS) (dp_ints ns)
theorem dp_nil (hS : Sym L H) (m : Ls K L a []) : Dp K H (.ref a) (pl []) := .lst (m.sq hS) .nil
/-- a list of data -/
theorem dp_lst {ds : List PyData} (hS : Sym L H) (m : Ls K L a xs) (h : DpAll K H xs ds) : Dp K H (.ref a) (.list ds) := .lst (m.sq hS) h
theorem w_eqII (hS : Sym L H) (m : Ls K L a (ns.map V.int)) (m' : Ls K L b (ms.map V.int)) (h : Q (.bl (decide (ns = ms))) H) : rEqD K (.ref a) (.ref b) H Q :=
  w_eqD (dp_pl hS m) (dp_pl hS m') (shaped_pl _) (shaped_pl _) (by rw [eqv_pl]; exact h)
theorem w_eqIN (hS : Sym L H) (m : Ls K L a (ns.map V.int)) (m' : Ls K L b []) (h : Q (.bl (decide (ns = []))) H) : rEqD K (.ref a) (.ref b) H Q :=
  w_eqD (dp_pl hS m) (dp_nil hS m') (shaped_pl _) (shaped_pl _) (by rw [eqv_pl]; exact h)
theorem w_neII (hS : Sym L H) (m : Ls K L a (ns.map V.int)) (m' : Ls K L b (ms.map V.int)) (h : Q (.bl (!decide (ns = ms))) H) : rNeD K (.ref a) (.ref b) H Q :=
  w_neD (dp_pl hS m) (dp_pl hS m') (shaped_pl _) (shaped_pl _) (by rw [eqv_pl]; exact h)
theorem w_neIN (hS : Sym L H) (m : Ls K L a (ns.map V.int)) (m' : Ls K L b []) (h : Q (.bl (!decide (ns = []))) H) : rNeD K (.ref a) (.ref b) H Q :=
  w_neD (dp_pl hS m) (dp_nil hS m') (shaped_pl _) (shaped_pl _) (by rw [eqv_pl]; exact h)
theorem w_eqDI (h : Q (.bl (decide (i = j))) H) : rEqD K (.int i) (.int j) H Q := w_eqD (.int i) (.int j) (shaped_of (by simp [PyData.canLay0]) (by simp [PyData.depth])) (shaped_of (by simp [PyData.canLay0]) (by simp [PyData.depth])) (by
  have e : PyData.eqv (.int i) (.int j) = decide (i = j) := by rw [PyData.eqv]; by_cases z : i = j <;> simp [z]
  rw [e]; exact h)
theorem w_neDI (h : Q (.bl (!decide (i = j))) H) : rNeD K (.int i) (.int j) H Q := w_neD (.int i) (.int j) (shaped_of (by simp [PyData.canLay0]) (by simp [PyData.depth])) (shaped_of (by simp [PyData.canLay0]) (by simp [PyData.depth])) (by
  have e : PyData.eqv (.int i) (.int j) = decide (i = j) := by rw [PyData.eqv]; by_cases z : i = j <;> simp [z]
  rw [e]; exact h)
theorem w_sortI (hS : Sym L H) (m : Ls K L a (ns.map V.int)) (hz : ns.length < 64) (k : ∀ (zs : List Int) (p : Addr) (H' : Hp), zs.Perm ns → zs.Pairwise (· ≤ ·) → Sym ((p, ob (.lst (zs.map V.int))) :: L) H' → Q (.ref p) H') : rSorted K [.ref a] H Q :=
  ⟨a, ns, rfl, m.sq hS, hz, fun zs p h1 h2 np => k zs p _ h1 h2 (hS.new np _)⟩
theorem w_all {bs : List Bool} (hS : Sym L H) (m : Ls K L a (bs.map V.bl)) (h : Q (.bl (bs.all id)) H) : rAll K [.ref a] H Q := ⟨a, bs, rfl, m.sq hS, h⟩
theorem w_any {bs : List Bool} (hS : Sym L H) (m : Ls K L a (bs.map V.bl)) (h : Q (.bl (bs.any id)) H) : rAny K [.ref a] H Q := ⟨a, bs, rfl, m.sq hS, h⟩
/-- the greatest | the least of a list that is not empty -/
def maxL : List Int → Int
  | [] => 0
  | [x] => x
  | x :: y :: r => max x (maxL (y :: r))
theorem maxL_mem : ∀ {l : List Int}, l ≠ [] → maxL l ∈ l
  | [], h => absurd rfl h
  | [x], _ => by simp [maxL]
  | x :: y :: r, _ => by
    have ih := maxL_mem (l := y :: r) (by simp)
    unfold maxL
    by_cases h : x ≤ maxL (y :: r)
    · rw [Int.max_eq_right h]; exact List.mem_cons_of_mem _ ih
    · rw [Int.max_eq_left (by omega)]; exact List.mem_cons_self
theorem maxL_le : ∀ {l : List Int} {x : Int}, x ∈ l → x ≤ maxL l
  | [y], x, h => by
    have e : x = y := by simpa using h
    rw [e]; exact Int.le_refl _
  | a :: y :: r, x, h => by
    unfold maxL
    rcases List.mem_cons.mp h with e | h
    · rw [e]; exact Int.le_max_left _ _
    · exact Int.le_trans (maxL_le h) (Int.le_max_right _ _)
theorem maxL_is {l : List Int} {m : Int} (h : m ∈ l) (h2 : ∀ y, y ∈ l → y ≤ m) : m = maxL l := by
  have h3 := maxL_mem (l := l) (by intro z; rw [z] at h; cases h)
  have h4 := h2 _ h3
  have h5 := maxL_le h
  omega
theorem w_max (hS : Sym L H) (m : Ls K L a (ns.map V.int)) (hz : 0 < ns.length) (k : Q (.int (maxL ns)) H) : rMax K [.ref a] H Q := ⟨a, ns, rfl, m.sq hS, hz, fun x h1 h2 => by
  rw [maxL_is h1 h2]; exact k⟩
theorem w_star {R : Addr → List V → Prop} (hS : Sym L H) (m : Ls K L a xs) (h : R a xs) : ∃ p ys, V.ref a = V.ref p ∧ (SqT K H p ys ∨ SqL K H p ys) ∧ R p ys := ⟨a, xs, rfl, .inr (m.sq hS), h⟩
theorem w_set {R : SH} {v : V} {k : Int} {j : Nat} {S : Hp → Prop} (hS : Sym L H) (m : Pick L a (ob (.lst xs)) R) (e : ixN xs.length k = some j) (h : ∀ H', Sym ((a, ob (.lst (xs.set j v))) :: R) H' → S H') : rSetL (.ref a) (.int k) v H S :=
  ⟨a, xs, k, j, rfl, rfl, hS.ob m.at_, e, h _ (hS.put m _)⟩
theorem w_popI {R : SH} {k : Int} (hS : Sym L H) (m : Pick L a (ob (.lst (ns.map V.int))) R) (h0 : 0 ≤ k) (h1 : k < ns.length) (hz : ns.length < 1000000) (h : ∀ H', Sym ((a, ob (.lst ((ns.eraseIdx k.toNat).map V.int))) :: R) H' → Q (.int (gi ns k)) H') : tyV K "list" (.ref a) H ∧ rPopAt (.ref a) [.int k] H Q := by
  have e := hS.ob m.at_
  obtain ⟨n, rfl⟩ := Int.eq_ofNat_of_zero_le h0
  have h2 : n < ns.length := by omega
  refine ⟨.inl ⟨rfl, _, SqL.of e⟩, a, _, (n : Int), n, .int (gi ns n), rfl, rfl, e, by omega, by omega, ?_, ?_, ?_⟩
  · unfold seqIndex?
    rw [List.length_map]
    simp
    omega
  · rw [List.getElem?_map, List.getElem?_eq_getElem h2]
    unfold gi
    simp [h2]
  · have h3 := h _ (hS.put m _)
    rw [show ((n : Int)).toNat = n from rfl] at h3
    rw [show (ns.map V.int).eraseIdx n = (ns.eraseIdx n).map V.int from (by simp [List.eraseIdx_eq_take_drop_succ])]
    exact h3
theorem w_revI {R : SH} (hS : Sym L H) (m : Pick L a (ob (.lst (ns.map V.int))) R) (h : ∀ H', Sym ((a, ob (.lst (ns.reverse.map V.int))) :: R) H' → Q .non H') : tyV K "list" (.ref a) H ∧ rReverse (.ref a) [] H Q := by
  have e := hS.ob m.at_
  refine ⟨.inl ⟨rfl, _, SqL.of e⟩, a, _, rfl, rfl, e, ?_⟩
  rw [← List.map_reverse]
  exact h _ (hS.put m _)
theorem rgV0 (n : Nat) : rgV 0 n = ((List.range n).map fun k : Nat => (k : Int)).map V.int := by
  unfold rgV
  rw [List.map_map]
  simp
theorem cut_to (xs : List V) (n : Nat) : cutV xs none (some n) = xs.take n := by
  unfold cutV
  rw [HT.sIx_none, show HT.sIx xs.length xs.length (some (n : Int)) = min n xs.length from HT.sIx_nat _ _ n]
  simp [List.take_take, Nat.min_comm]
theorem cut_from (xs : List V) (n : Nat) : cutV xs (some n) none = xs.drop n := by
  unfold cutV
  rw [HT.sIx_none, show HT.sIx xs.length 0 (some (n : Int)) = min n xs.length from HT.sIx_nat _ _ n]
  by_cases h : n ≤ xs.length
  · rw [Nat.min_eq_left h, List.take_of_length_le (by rw [List.length_drop]; omega)]
  · rw [Nat.min_eq_right (by omega)]
    rw [List.drop_of_length_le (Nat.le_refl _), List.drop_of_length_le (by omega)]
    simp
end
end LB
set_option Elab.async false
set_option linter.all false
set_option maxRecDepth 100000
set_option maxHeartbeats 2000000
/-! the numbers' source of a law, and isinstance with a pair of classes -/
namespace LB
open PySem PySem.Spec PyProof.Rows L2
/-- a source of drawn numbers, of which at most n were mixed so far -/
def isSrc (n : Int) : HP := fun o => ∃ x y z : Int, o = .lst [.int x, .int y, .int z] ∧ 0 ≤ x ∧ (0 ≤ y ∧ y < 10 ^ 70) ∧ 0 ≤ z ∧ z ≤ n
theorem isSrc.mono {n m : Int} {o : HO} (h : isSrc n o) (l : n ≤ m) : isSrc m o := by
  obtain ⟨x, y, z, e, h0, h1, h2, h3⟩ := h
  exact ⟨x, y, z, e, h0, h1, h2, Int.le_trans h3 l⟩
theorem Sub.src {L M R : SH} {a : Addr} {n m : Int} (p : Pick M a (isSrc n) R) (l : n ≤ m) (s : Sub L R) : Sub ((a, isSrc m) :: L) M := .weak p (fun _ h => h.mono l) s
theorem pow_nonneg' {a : Int} (h : 0 ≤ a) : ∀ n : Nat, 0 ≤ a ^ n
  | 0 => by simp
  | n + 1 => by rw [Int.pow_succ]; exact Int.mul_nonneg (pow_nonneg' h n) h
section
variable {H : Hp} {Q : VK} {K : PySem.W.Frag} {L : SH} {a b : Addr} {i : Int} {z : Bool} {xs : List V}
theorem w_isiT {x : V} {T : String} {r : Bool} (ty : TyX K H x (.type T)) (hS : Sym L H) (m : At L b (ob (.tup [.ty "list", .ty "tuple"]))) (k : PySem.W.kitAny K (.type T) [.type "list", .type "tuple"] = some r) (h : Q (.bl r) H) : rIsiT K [x, .ref b] H Q :=
  ⟨x, b, _, _, [.type "list", .type "tuple"], r, rfl, hS.ob m, .cons (.ty _) (.cons (.ty _) .nil), ty, k, h⟩
theorem kitAny_ty {T : String} {r1 r2 : Bool} (h1 : kitB T "list" = some r1) (h2 : kitB T "tuple" = some r2) : PySem.W.kitAny K (.type T) [.type "list", .type "tuple"] = some (r1 || r2) := by
  have a1 := kit_ty (K := K) h1
  have a2 := kit_ty (K := K) h2
  simp only [PySem.W.kitAny, a1, a2]
  cases r1 <;> cases r2 <;> rfl
theorem w_isiT_int (hS : Sym L H) (m : At L b (ob (.tup [.ty "list", .ty "tuple"]))) (h : Q (.bl false) H) : rIsiT K [.int i, .ref b] H Q :=
  w_isiT (.base (.int i)) hS m (kitAny_ty (r1 := false) (r2 := false) (by decide +kernel) (by decide +kernel)) h
theorem w_isiT_bl (hS : Sym L H) (m : At L b (ob (.tup [.ty "list", .ty "tuple"]))) (h : Q (.bl false) H) : rIsiT K [.bl z, .ref b] H Q :=
  w_isiT (.base (.bl z)) hS m (kitAny_ty (r1 := false) (r2 := false) (by decide +kernel) (by decide +kernel)) h
theorem w_isiT_non (hS : Sym L H) (m : At L b (ob (.tup [.ty "list", .ty "tuple"]))) (h : Q (.bl false) H) : rIsiT K [.non, .ref b] H Q :=
  w_isiT (.base .non) hS m (kitAny_ty (r1 := false) (r2 := false) (by decide +kernel) (by decide +kernel)) h
theorem w_isiT_list (hS : Sym L H) (m : At L b (ob (.tup [.ty "list", .ty "tuple"]))) (ma : Ls K L a xs) (h : Q (.bl true) H) : rIsiT K [.ref a, .ref b] H Q :=
  w_isiT (sq_ty (ma.sq hS)) hS m (kitAny_ty (r1 := true) (r2 := false) (by decide +kernel) (by decide +kernel)) h
theorem w_isiT_tuple (hS : Sym L H) (m : At L b (ob (.tup [.ty "list", .ty "tuple"]))) (ma : At L a (ob (.tup xs))) (h : Q (.bl true) H) : rIsiT K [.ref a, .ref b] H Q :=
  w_isiT (.base (.tup (hS.ob ma))) hS m (kitAny_ty (r1 := false) (r2 := true) (by decide +kernel) (by decide +kernel)) h
/-- an item of a short list at a drawn place -/
theorem atI_all {P : V → Prop} {xs : List V} {i : Int} (h0 : 0 ≤ i) (h1 : i < xs.length) (h : ∀ x ∈ xs, P x) : ∃ v, atI xs i = some v ∧ P v := by
  obtain ⟨n, rfl⟩ := Int.eq_ofNat_of_zero_le h0
  have h2 : n < xs.length := by omega
  exact ⟨xs[n], atI_nat (j := n) (by simp [h2]), h _ (List.getElem_mem h2)⟩
theorem w_pick {P : V → Prop} (hS : Sym L H) (m : Ls K L a xs) (h0 : 0 ≤ i) (h1 : i < xs.length) (h : ∀ x ∈ xs, P x) (k : ∀ v, P v → Q v H) : rIxL K (.ref a) (.int i) H Q := by
  obtain ⟨v, e, p⟩ := atI_all h0 h1 h
  exact w_ix hS m e (k v p)
/-- ints between two bounds -/
def isI (lo hi : Int) (v : V) : Prop := ∃ i, v = .int i ∧ lo ≤ i ∧ i ≤ hi
theorem w_pickI {lo hi : Int} (hS : Sym L H) (m : Ls K L a xs) (h0 : 0 ≤ i ∧ i < xs.length) (h : ∀ x ∈ xs, isI lo hi x) (k : ∀ j, lo ≤ j → j ≤ hi → Q (.int j) H) : rIxL K (.ref a) (.int i) H Q :=
  w_pick hS m h0.1 h0.2 h fun v ⟨j, e, l, u⟩ => by subst e; exact k j l u
theorem all_nil {P : V → Prop} : ∀ x ∈ ([] : List V), P x := fun _ h => absurd h List.not_mem_nil
theorem all_cons {P : V → Prop} {v : V} {r : List V} (h : P v) (t : ∀ x ∈ r, P x) : ∀ x ∈ v :: r, P x := fun x hx => by
  rcases List.mem_cons.mp hx with e | hx
  · rw [e]; exact h
  · exact t x hx
theorem isI_of {lo hi j : Int} (h : lo ≤ j ∧ j ≤ hi) : isI lo hi (.int j) := ⟨j, rfl, h.1, h.2⟩
end
section
variable {H : Hp} {Q : VK} {K : PySem.W.Frag} {L : SH} {a b : Addr} {xs ys : List V} {ns : List Int}
theorem map_snoc {z : Int} : (ns ++ [z]).map V.int = ns.map V.int ++ [V.int z] := by simp
/-- a list's own method -/
theorem w_ty {T : Prop} (hS : Sym L H) (m : Ls K L a xs) (h : T) : tyV K "list" (.ref a) H ∧ T := ⟨.inl ⟨rfl, _, m.sq hS⟩, h⟩
theorem w_app2 {R : SH} {y : V} (hS : Sym L H) (m : Pick L a (ob (.lst xs)) R) (hz : xs.length < 1000000) (k : ∀ H', Sym ((a, ob (.lst (xs ++ [y]))) :: R) H' → Q .non H') : rAppend (.ref a) [y] H Q := ⟨a, xs, y, rfl, rfl, hS.ob m.at_, szl hz, k _ (hS.put m _)⟩
theorem w_pop2 {R : SH} {k : Int} (hS : Sym L H) (m : Pick L a (ob (.lst (ns.map V.int))) R) (h0 : 0 ≤ k) (h1 : k < ns.length) (hz : ns.length < 1000000) (h : ∀ H', Sym ((a, ob (.lst ((ns.eraseIdx k.toNat).map V.int))) :: R) H' → Q (.int (gi ns k)) H') : rPopAt (.ref a) [.int k] H Q := by
  have e := hS.ob m.at_
  obtain ⟨n, rfl⟩ := Int.eq_ofNat_of_zero_le h0
  have h2 : n < ns.length := by omega
  refine ⟨a, _, (n : Int), n, .int (gi ns n), rfl, rfl, e, by omega, by omega, ?_, ?_, ?_⟩
  · unfold seqIndex?
    rw [List.length_map]
    simp
    omega
  · rw [List.getElem?_map, List.getElem?_eq_getElem h2]
    unfold gi
    simp [h2]
  · have h3 := h _ (hS.put m _)
    rw [show ((n : Int)).toNat = n from rfl] at h3
    rw [show (ns.map V.int).eraseIdx n = (ns.eraseIdx n).map V.int from (by simp [List.eraseIdx_eq_take_drop_succ])]
    exact h3
theorem w_rev2 {R : SH} (hS : Sym L H) (m : Pick L a (ob (.lst (ns.map V.int))) R) (h : ∀ H', Sym ((a, ob (.lst (ns.reverse.map V.int))) :: R) H' → Q .non H') : rReverse (.ref a) [] H Q := by
  refine ⟨a, _, rfl, rfl, hS.ob m.at_, ?_⟩
  rw [← List.map_reverse]
  exact h _ (hS.put m _)
end
section
variable {A B : Prop}
theorem w_ex2 {x y : V} {R : V → V → Prop} (h : R x y) : ∃ v w, [x, y] = [v, w] ∧ R v w := ⟨x, y, rfl, h⟩
theorem w_ex3 {x y z : V} {R : V → V → V → Prop} (h : R x y z) : ∃ u v w, [x, y, z] = [u, v, w] ∧ R u v w := ⟨x, y, z, rfl, h⟩
theorem w_btf (h : B) : if decide (true = false) = true then A else B := w_ifF (by decide) h
theorem w_bft (h : B) : if decide (false = true) = true then A else B := w_ifF (by decide) h
theorem w_nbtt (h : B) : if (!decide (true = true)) = true then A else B := w_inF rfl h
theorem w_nbff (h : B) : if (!decide (false = false)) = true then A else B := w_inF rfl h
theorem w_nbtf (h : A) : if (!decide (true = false)) = true then A else B := w_inT (by decide) h
theorem w_nbft (h : A) : if (!decide (false = true)) = true then A else B := w_inT (by decide) h
end
section
variable {H : Hp} {Q : VK} {K : PySem.W.Frag} {L : SH} {p q a b c d : Addr} {sc o sc' o' : List Int}
theorem eqv_pp (a b c d : List Int) : PyData.eqv (.list [pl a, pl b]) (.list [pl c, pl d]) = decide (a = c ∧ b = d) := by
  simp only [PyData.eqv, PyData.eqvAll, eqv_pl]
  by_cases h1 : a = c <;> by_cases h2 : b = d <;> simp [h1, h2]
theorem shaped_pp (a b : List Int) : SeqAt.shaped (.list [pl a, pl b]) = true := shaped_of (by simp [PyData.canLay0, PyData.canLayAll0, can_pl]) (by simp [PyData.depth, PyData.depthAll, depth_pl])
/-- two pairs of lists of ints -/
theorem w_neP2 (hS : Sym L H) (m : Ls K L p [.ref a, .ref b]) (ma : Ls K L a (sc.map V.int)) (mb : Ls K L b (o.map V.int)) (m' : Ls K L q [.ref c, .ref d]) (mc : Ls K L c (sc'.map V.int)) (md : Ls K L d (o'.map V.int))
    (h : Q (.bl (!decide (sc = sc' ∧ o = o'))) H) : rNeD K (.ref p) (.ref q) H Q :=
  w_neD (dp_lst hS m (.cons (dp_pl hS ma) (.cons (dp_pl hS mb) .nil))) (dp_lst hS m' (.cons (dp_pl hS mc) (.cons (dp_pl hS md) .nil))) (shaped_pp _ _) (shaped_pp _ _) (by rw [eqv_pp]; exact h)
end
/-- a mixed number of the source -/
theorem mix_bound {z : Int} (h : 0 ≤ z ∧ z ≤ 10 ^ 20) (c : Int) (hc : 0 ≤ c ∧ c ≤ 10 ^ 20) : 0 ≤ c * z * z ∧ c * z * z ≤ 10 ^ 60 := by
  have h1 : 0 ≤ c * z := Int.mul_nonneg hc.1 h.1
  have h2 : c * z ≤ 10 ^ 20 * 10 ^ 20 := Int.mul_le_mul hc.2 h.2 h.1 (by decide)
  have h3 : c * z * z ≤ (10 ^ 20 * 10 ^ 20) * 10 ^ 20 := Int.mul_le_mul h2 h.2 h.1 (by decide)
  exact ⟨Int.mul_nonneg h1 h.1, by omega⟩
end LB
set_option Elab.async false
set_option linter.all false
set_option maxRecDepth 100000
set_option maxHeartbeats 2000000
/-! steps that ask nothing, as rewriting rules -/
namespace LB
open PySem PySem.Spec PyProof.Rows L2
section
variable {σ : L2.St} {H : Hp} {Q : VK} {v : V} {a b : Addr} {i j : Int}
theorem e_v0 : (tVar 0 (some v :: σ) H Q) = (Q v H) := propext ⟨fun ⟨w, e, h⟩ => by cases e; exact h, w_v0⟩
theorem e_g0 {x : Option V} {R : L2.St → Hp → Prop} : (gName 0 v (x :: σ) H R) = (R (some v :: σ) H) := rfl
theorem e_v1 {x0 : Option V} : (tVar 1 (x0 :: some v :: σ) H Q) = (Q v H) := propext ⟨fun ⟨w, e, h⟩ => by cases e; exact h, w_v1⟩
theorem e_g1 {x0 : Option V} {x : Option V} {R : L2.St → Hp → Prop} : (gName 1 v (x0 :: x :: σ) H R) = (R (x0 :: some v :: σ) H) := rfl
theorem e_v2 {x0 : Option V} {x1 : Option V} : (tVar 2 (x0 :: x1 :: some v :: σ) H Q) = (Q v H) := propext ⟨fun ⟨w, e, h⟩ => by cases e; exact h, w_v2⟩
theorem e_g2 {x0 : Option V} {x1 : Option V} {x : Option V} {R : L2.St → Hp → Prop} : (gName 2 v (x0 :: x1 :: x :: σ) H R) = (R (x0 :: x1 :: some v :: σ) H) := rfl
theorem e_v3 {x0 : Option V} {x1 : Option V} {x2 : Option V} : (tVar 3 (x0 :: x1 :: x2 :: some v :: σ) H Q) = (Q v H) := propext ⟨fun ⟨w, e, h⟩ => by cases e; exact h, w_v3⟩
theorem e_g3 {x0 : Option V} {x1 : Option V} {x2 : Option V} {x : Option V} {R : L2.St → Hp → Prop} : (gName 3 v (x0 :: x1 :: x2 :: x :: σ) H R) = (R (x0 :: x1 :: x2 :: some v :: σ) H) := rfl
theorem e_v4 {x0 : Option V} {x1 : Option V} {x2 : Option V} {x3 : Option V} : (tVar 4 (x0 :: x1 :: x2 :: x3 :: some v :: σ) H Q) = (Q v H) := propext ⟨fun ⟨w, e, h⟩ => by cases e; exact h, w_v4⟩
theorem e_g4 {x0 : Option V} {x1 : Option V} {x2 : Option V} {x3 : Option V} {x : Option V} {R : L2.St → Hp → Prop} : (gName 4 v (x0 :: x1 :: x2 :: x3 :: x :: σ) H R) = (R (x0 :: x1 :: x2 :: x3 :: some v :: σ) H) := rfl
theorem e_v5 {x0 : Option V} {x1 : Option V} {x2 : Option V} {x3 : Option V} {x4 : Option V} : (tVar 5 (x0 :: x1 :: x2 :: x3 :: x4 :: some v :: σ) H Q) = (Q v H) := propext ⟨fun ⟨w, e, h⟩ => by cases e; exact h, w_v5⟩
theorem e_g5 {x0 : Option V} {x1 : Option V} {x2 : Option V} {x3 : Option V} {x4 : Option V} {x : Option V} {R : L2.St → Hp → Prop} : (gName 5 v (x0 :: x1 :: x2 :: x3 :: x4 :: x :: σ) H R) = (R (x0 :: x1 :: x2 :: x3 :: x4 :: some v :: σ) H) := rfl
theorem e_v6 {x0 : Option V} {x1 : Option V} {x2 : Option V} {x3 : Option V} {x4 : Option V} {x5 : Option V} : (tVar 6 (x0 :: x1 :: x2 :: x3 :: x4 :: x5 :: some v :: σ) H Q) = (Q v H) := propext ⟨fun ⟨w, e, h⟩ => by cases e; exact h, w_v6⟩
theorem e_g6 {x0 : Option V} {x1 : Option V} {x2 : Option V} {x3 : Option V} {x4 : Option V} {x5 : Option V} {x : Option V} {R : L2.St → Hp → Prop} : (gName 6 v (x0 :: x1 :: x2 :: x3 :: x4 :: x5 :: x :: σ) H R) = (R (x0 :: x1 :: x2 :: x3 :: x4 :: x5 :: some v :: σ) H) := rfl
theorem e_v7 {x0 : Option V} {x1 : Option V} {x2 : Option V} {x3 : Option V} {x4 : Option V} {x5 : Option V} {x6 : Option V} : (tVar 7 (x0 :: x1 :: x2 :: x3 :: x4 :: x5 :: x6 :: some v :: σ) H Q) = (Q v H) := propext ⟨fun ⟨w, e, h⟩ => by cases e; exact h, w_v7⟩
theorem e_g7 {x0 : Option V} {x1 : Option V} {x2 : Option V} {x3 : Option V} {x4 : Option V} {x5 : Option V} {x6 : Option V} {x : Option V} {R : L2.St → Hp → Prop} : (gName 7 v (x0 :: x1 :: x2 :: x3 :: x4 :: x5 :: x6 :: x :: σ) H R) = (R (x0 :: x1 :: x2 :: x3 :: x4 :: x5 :: x6 :: some v :: σ) H) := rfl
theorem e_v8 {x0 : Option V} {x1 : Option V} {x2 : Option V} {x3 : Option V} {x4 : Option V} {x5 : Option V} {x6 : Option V} {x7 : Option V} : (tVar 8 (x0 :: x1 :: x2 :: x3 :: x4 :: x5 :: x6 :: x7 :: some v :: σ) H Q) = (Q v H) := propext ⟨fun ⟨w, e, h⟩ => by cases e; exact h, w_v8⟩
theorem e_g8 {x0 : Option V} {x1 : Option V} {x2 : Option V} {x3 : Option V} {x4 : Option V} {x5 : Option V} {x6 : Option V} {x7 : Option V} {x : Option V} {R : L2.St → Hp → Prop} : (gName 8 v (x0 :: x1 :: x2 :: x3 :: x4 :: x5 :: x6 :: x7 :: x :: σ) H R) = (R (x0 :: x1 :: x2 :: x3 :: x4 :: x5 :: x6 :: x7 :: some v :: σ) H) := rfl
theorem e_v9 {x0 : Option V} {x1 : Option V} {x2 : Option V} {x3 : Option V} {x4 : Option V} {x5 : Option V} {x6 : Option V} {x7 : Option V} {x8 : Option V} : (tVar 9 (x0 :: x1 :: x2 :: x3 :: x4 :: x5 :: x6 :: x7 :: x8 :: some v :: σ) H Q) = (Q v H) := propext ⟨fun ⟨w, e, h⟩ => by cases e; exact h, w_v9⟩
theorem e_g9 {x0 : Option V} {x1 : Option V} {x2 : Option V} {x3 : Option V} {x4 : Option V} {x5 : Option V} {x6 : Option V} {x7 : Option V} {x8 : Option V} {x : Option V} {R : L2.St → Hp → Prop} : (gName 9 v (x0 :: x1 :: x2 :: x3 :: x4 :: x5 :: x6 :: x7 :: x8 :: x :: σ) H R) = (R (x0 :: x1 :: x2 :: x3 :: x4 :: x5 :: x6 :: x7 :: x8 :: some v :: σ) H) := rfl
theorem e_v10 {x0 : Option V} {x1 : Option V} {x2 : Option V} {x3 : Option V} {x4 : Option V} {x5 : Option V} {x6 : Option V} {x7 : Option V} {x8 : Option V} {x9 : Option V} : (tVar 10 (x0 :: x1 :: x2 :: x3 :: x4 :: x5 :: x6 :: x7 :: x8 :: x9 :: some v :: σ) H Q) = (Q v H) := propext ⟨fun ⟨w, e, h⟩ => by cases e; exact h, w_v10⟩
theorem e_g10 {x0 : Option V} {x1 : Option V} {x2 : Option V} {x3 : Option V} {x4 : Option V} {x5 : Option V} {x6 : Option V} {x7 : Option V} {x8 : Option V} {x9 : Option V} {x : Option V} {R : L2.St → Hp → Prop} : (gName 10 v (x0 :: x1 :: x2 :: x3 :: x4 :: x5 :: x6 :: x7 :: x8 :: x9 :: x :: σ) H R) = (R (x0 :: x1 :: x2 :: x3 :: x4 :: x5 :: x6 :: x7 :: x8 :: x9 :: some v :: σ) H) := rfl
theorem e_v11 {x0 : Option V} {x1 : Option V} {x2 : Option V} {x3 : Option V} {x4 : Option V} {x5 : Option V} {x6 : Option V} {x7 : Option V} {x8 : Option V} {x9 : Option V} {x10 : Option V} : (tVar 11 (x0 :: x1 :: x2 :: x3 :: x4 :: x5 :: x6 :: x7 :: x8 :: x9 :: x10 :: some v :: σ) H Q) = (Q v H) := propext ⟨fun ⟨w, e, h⟩ => by cases e; exact h, w_v11⟩
theorem e_g11 {x0 : Option V} {x1 : Option V} {x2 : Option V} {x3 : Option V} {x4 : Option V} {x5 : Option V} {x6 : Option V} {x7 : Option V} {x8 : Option V} {x9 : Option V} {x10 : Option V} {x : Option V} {R : L2.St → Hp → Prop} : (gName 11 v (x0 :: x1 :: x2 :: x3 :: x4 :: x5 :: x6 :: x7 :: x8 :: x9 :: x10 :: x :: σ) H R) = (R (x0 :: x1 :: x2 :: x3 :: x4 :: x5 :: x6 :: x7 :: x8 :: x9 :: x10 :: some v :: σ) H) := rfl
theorem e_v12 {x0 : Option V} {x1 : Option V} {x2 : Option V} {x3 : Option V} {x4 : Option V} {x5 : Option V} {x6 : Option V} {x7 : Option V} {x8 : Option V} {x9 : Option V} {x10 : Option V} {x11 : Option V} : (tVar 12 (x0 :: x1 :: x2 :: x3 :: x4 :: x5 :: x6 :: x7 :: x8 :: x9 :: x10 :: x11 :: some v :: σ) H Q) = (Q v H) := propext ⟨fun ⟨w, e, h⟩ => by cases e; exact h, w_v12⟩
theorem e_g12 {x0 : Option V} {x1 : Option V} {x2 : Option V} {x3 : Option V} {x4 : Option V} {x5 : Option V} {x6 : Option V} {x7 : Option V} {x8 : Option V} {x9 : Option V} {x10 : Option V} {x11 : Option V} {x : Option V} {R : L2.St → Hp → Prop} : (gName 12 v (x0 :: x1 :: x2 :: x3 :: x4 :: x5 :: x6 :: x7 :: x8 :: x9 :: x10 :: x11 :: x :: σ) H R) = (R (x0 :: x1 :: x2 :: x3 :: x4 :: x5 :: x6 :: x7 :: x8 :: x9 :: x10 :: x11 :: some v :: σ) H) := rfl
theorem e_v13 {x0 : Option V} {x1 : Option V} {x2 : Option V} {x3 : Option V} {x4 : Option V} {x5 : Option V} {x6 : Option V} {x7 : Option V} {x8 : Option V} {x9 : Option V} {x10 : Option V} {x11 : Option V} {x12 : Option V} : (tVar 13 (x0 :: x1 :: x2 :: x3 :: x4 :: x5 :: x6 :: x7 :: x8 :: x9 :: x10 :: x11 :: x12 :: some v :: σ) H Q) = (Q v H) := propext ⟨fun ⟨w, e, h⟩ => by cases e; exact h, w_v13⟩
theorem e_g13 {x0 : Option V} {x1 : Option V} {x2 : Option V} {x3 : Option V} {x4 : Option V} {x5 : Option V} {x6 : Option V} {x7 : Option V} {x8 : Option V} {x9 : Option V} {x10 : Option V} {x11 : Option V} {x12 : Option V} {x : Option V} {R : L2.St → Hp → Prop} : (gName 13 v (x0 :: x1 :: x2 :: x3 :: x4 :: x5 :: x6 :: x7 :: x8 :: x9 :: x10 :: x11 :: x12 :: x :: σ) H R) = (R (x0 :: x1 :: x2 :: x3 :: x4 :: x5 :: x6 :: x7 :: x8 :: x9 :: x10 :: x11 :: x12 :: some v :: σ) H) := rfl
theorem e_v14 {x0 : Option V} {x1 : Option V} {x2 : Option V} {x3 : Option V} {x4 : Option V} {x5 : Option V} {x6 : Option V} {x7 : Option V} {x8 : Option V} {x9 : Option V} {x10 : Option V} {x11 : Option V} {x12 : Option V} {x13 : Option V} : (tVar 14 (x0 :: x1 :: x2 :: x3 :: x4 :: x5 :: x6 :: x7 :: x8 :: x9 :: x10 :: x11 :: x12 :: x13 :: some v :: σ) H Q) = (Q v H) := propext ⟨fun ⟨w, e, h⟩ => by cases e; exact h, w_v14⟩
theorem e_g14 {x0 : Option V} {x1 : Option V} {x2 : Option V} {x3 : Option V} {x4 : Option V} {x5 : Option V} {x6 : Option V} {x7 : Option V} {x8 : Option V} {x9 : Option V} {x10 : Option V} {x11 : Option V} {x12 : Option V} {x13 : Option V} {x : Option V} {R : L2.St → Hp → Prop} : (gName 14 v (x0 :: x1 :: x2 :: x3 :: x4 :: x5 :: x6 :: x7 :: x8 :: x9 :: x10 :: x11 :: x12 :: x13 :: x :: σ) H R) = (R (x0 :: x1 :: x2 :: x3 :: x4 :: x5 :: x6 :: x7 :: x8 :: x9 :: x10 :: x11 :: x12 :: x13 :: some v :: σ) H) := rfl
theorem e_v15 {x0 : Option V} {x1 : Option V} {x2 : Option V} {x3 : Option V} {x4 : Option V} {x5 : Option V} {x6 : Option V} {x7 : Option V} {x8 : Option V} {x9 : Option V} {x10 : Option V} {x11 : Option V} {x12 : Option V} {x13 : Option V} {x14 : Option V} : (tVar 15 (x0 :: x1 :: x2 :: x3 :: x4 :: x5 :: x6 :: x7 :: x8 :: x9 :: x10 :: x11 :: x12 :: x13 :: x14 :: some v :: σ) H Q) = (Q v H) := propext ⟨fun ⟨w, e, h⟩ => by cases e; exact h, w_v15⟩
theorem e_g15 {x0 : Option V} {x1 : Option V} {x2 : Option V} {x3 : Option V} {x4 : Option V} {x5 : Option V} {x6 : Option V} {x7 : Option V} {x8 : Option V} {x9 : Option V} {x10 : Option V} {x11 : Option V} {x12 : Option V} {x13 : Option V} {x14 : Option V} {x : Option V} {R : L2.St → Hp → Prop} : (gName 15 v (x0 :: x1 :: x2 :: x3 :: x4 :: x5 :: x6 :: x7 :: x8 :: x9 :: x10 :: x11 :: x12 :: x13 :: x14 :: x :: σ) H R) = (R (x0 :: x1 :: x2 :: x3 :: x4 :: x5 :: x6 :: x7 :: x8 :: x9 :: x10 :: x11 :: x12 :: x13 :: x14 :: some v :: σ) H) := rfl
theorem e_I0 {g : Int → Int → V} : (rI0 g (.int i) (.int j) H Q) = (Q (g i j) H) := propext ⟨fun ⟨_, _, e1, e2, h⟩ => by cases e1; cases e2; exact h, w_I0⟩
theorem e_U {g : Int → V} : (rU g (.int i) H Q) = (Q (g i) H) := propext ⟨fun ⟨_, e1, h⟩ => by cases e1; exact h, w_U⟩
theorem e_ip {f : Int → Int → Int} : (ipI f (.int i) (.int j) H Q) = (Q (.int (f i j)) H) := propext ⟨fun ⟨_, _, e1, e2, h⟩ => by cases e1; cases e2; exact h, w_ip⟩
theorem e_eqI : (rEq (.int i) (.int j) H Q) = (Q (.bl (decide (i = j))) H) := propext ⟨fun ⟨_, h⟩ => by
  have e : decide (V.int i = V.int j) = decide (i = j) := by simp
  rw [e] at h; exact h, w_eqI⟩
theorem e_neI : (rNe (.int i) (.int j) H Q) = (Q (.bl (!decide (i = j))) H) := propext ⟨fun ⟨_, h⟩ => by
  have e : decide (V.int i = V.int j) = decide (i = j) := by simp
  rw [e] at h; exact h, w_neI⟩
theorem e_eqB {c d : Bool} : (rEq (.bl c) (.bl d) H Q) = (Q (.bl (decide (c = d))) H) := propext ⟨fun ⟨_, h⟩ => by
  have e : decide (V.bl c = V.bl d) = decide (c = d) := by simp
  rw [e] at h; exact h, w_eqB⟩
theorem e_neB {c d : Bool} : (rNe (.bl c) (.bl d) H Q) = (Q (.bl (!decide (c = d))) H) := propext ⟨fun ⟨_, h⟩ => by
  have e : decide (V.bl c = V.bl d) = decide (c = d) := by simp
  rw [e] at h; exact h, w_neB⟩
theorem e_isB {c d : Bool} : (rIsB (.bl c) (.bl d) H Q) = (Q (.bl (decide (c = d))) H) := propext ⟨fun ⟨_, _, e1, e2, h⟩ => by cases e1; cases e2; exact h, w_isB⟩
theorem e_notB {c d : Bool} : (rNotB (.bl c) (.bl d) H Q) = (Q (.bl (!decide (c = d))) H) := propext ⟨fun ⟨_, _, e1, e2, h⟩ => by cases e1; cases e2; exact h, w_notB⟩
theorem e_abs : (rAbs [.int i] H Q) = (Q (.int (if i < 0 then -i else i)) H) := propext ⟨fun ⟨_, e, h⟩ => by cases e; exact h, w_abs⟩
theorem e_max2 : (rMax2 [.int i, .int j] H Q) = (Q (.int (if j > i then j else i)) H) := propext ⟨fun ⟨_, _, e, h⟩ => by cases e; exact h, w_max2⟩
theorem e_min2 : (rMin2 [.int i, .int j] H Q) = (Q (.int (if j < i then j else i)) H) := propext ⟨fun ⟨_, _, e, h⟩ => by cases e; exact h, w_min2⟩
theorem e_t {c : Bool} {R : Bool → Prop} : (∃ k, V.bl c = .bl k ∧ R k) = (R c) := propext ⟨fun ⟨_, e, h⟩ => by cases e; exact h, w_t⟩
theorem e_ref {R : Addr → Prop} : (∃ a', V.ref a = .ref a' ∧ R a') = (R a) := propext ⟨fun ⟨_, e, h⟩ => by cases e; exact h, w_ref⟩
theorem e_int {R : Int → Prop} : (∃ i', V.int i = .int i' ∧ R i') = (R i) := propext ⟨fun ⟨_, e, h⟩ => by cases e; exact h, w_int⟩
theorem e_ex2 {x y : V} {R : V → V → Prop} : (∃ v w, [x, y] = [v, w] ∧ R v w) = (R x y) := propext ⟨fun ⟨_, _, e, h⟩ => by cases e; exact h, w_ex2⟩
theorem e_ex3 {x y z : V} {R : V → V → V → Prop} : (∃ u v w, [x, y, z] = [u, v, w] ∧ R u v w) = (R x y z) := propext ⟨fun ⟨_, _, _, e, h⟩ => by cases e; exact h, w_ex3⟩
theorem e_iT {A B : Prop} : (if true = true then A else B) = (A) := if_pos rfl
theorem e_iTT {A B : Prop} [Decidable True] : (if True then A else B) = (A) := if_pos True.intro
theorem e_iF {A B : Prop} : (if false = true then A else B) = (B) := if_neg (by decide)
theorem e_dtt [Decidable (true = true)] : (decide (true = true)) = (true) := decide_eq_true rfl
theorem e_dtf [Decidable (true = false)] : (decide (true = false)) = (false) := decide_eq_false (by intro h; cases h)
theorem e_dft [Decidable (false = true)] : (decide (false = true)) = (false) := decide_eq_false (by intro h; cases h)
theorem e_dff [Decidable (false = false)] : (decide (false = false)) = (true) := decide_eq_true rfl
theorem e_dT [Decidable True] : (decide True) = (true) := decide_eq_true True.intro
theorem e_n_int {z : Int} [Decidable (V.int z = V.non)] : (decide (V.int z = V.non)) = (false) := decide_eq_false (by intro h; cases h)
theorem e_n_ref {z : Addr} [Decidable (V.ref z = V.non)] : (decide (V.ref z = V.non)) = (false) := decide_eq_false (by intro h; cases h)
theorem e_n_bl {z : Bool} [Decidable (V.bl z = V.non)] : (decide (V.bl z = V.non)) = (false) := decide_eq_false (by intro h; cases h)
theorem e_n_str {z : Str} [Decidable (V.str z = V.non)] : (decide (V.str z = V.non)) = (false) := decide_eq_false (by intro h; cases h)
theorem e_n_non [Decidable (V.non = V.non)] : (decide (V.non = V.non)) = (true) := decide_eq_true rfl
end
end LB
set_option Elab.async false
set_option linter.all false
set_option maxRecDepth 100000
set_option maxHeartbeats 2000000
/-! orders: what is to be known of them, with no program in sight -/
namespace LB
open PySem PySem.Spec PyProof.Rows L2
def optI : Option Int → V
  | none => .non
  | some i => .int i
def inB (i : Int) (lo hi : Option Int) : Bool := (match lo with | none => true | some a => decide (a ≤ i)) && (match hi with | none => true | some b => decide (i ≤ b))
def upN (n : Nat) : List Int := (List.range n).map fun k : Nat => (k : Int)
/-- an order of n entries -/
def IsOrd (n : Nat) (o : List Int) : Prop := o.Perm (upN n)
theorem upN_len (n : Nat) : (upN n).length = n := by simp [upN]
theorem upN_up (n : Nat) : (upN n).Pairwise (· ≤ ·) := by
  unfold upN
  rw [List.pairwise_map]
  exact List.pairwise_lt_range.imp fun h => by omega
theorem mem_upN {n : Nat} {x : Int} : x ∈ upN n ↔ 0 ≤ x ∧ x < n := by
  unfold upN
  rw [List.mem_map]
  constructor
  · rintro ⟨k, hk, rfl⟩
    have := List.mem_range.mp hk
    omega
  · intro h
    exact ⟨x.toNat, List.mem_range.mpr (by omega), by omega⟩
theorem IsOrd.len {n : Nat} {o : List Int} (h : IsOrd n o) : o.length = n := by rw [List.Perm.length_eq h, upN_len]
theorem IsOrd.mem {n : Nat} {o : List Int} (h : IsOrd n o) {x : Int} : x ∈ o ↔ 0 ≤ x ∧ x < n := (List.Perm.mem_iff h).trans mem_upN
theorem IsOrd.nd {n : Nat} {o : List Int} (h : IsOrd n o) : o.Nodup := by
  refine (List.Perm.nodup_iff h).mpr ?_
  unfold upN
  rw [List.nodup_iff_pairwise_ne, List.pairwise_map]
  exact List.pairwise_lt_range.imp fun h => by omega
theorem perm_up {a b : List Int} (h : a.Perm b) (h1 : a.Pairwise (· ≤ ·)) (h2 : b.Pairwise (· ≤ ·)) : a = b :=
  List.Perm.eq_of_pairwise (fun _ _ _ _ x y => Int.le_antisymm x y) h1 h2 h
/-- lo leads up by at least the lead -/
def beats (lead : Int) (sc : List Int) (lo up : Int) : Bool := decide (lead ≤ gi sc lo - gi sc up)
def wrongs (lead : Int) (sc o : List Int) : List Int := ((List.range (o.length - 1)).filter fun p : Nat => beats lead sc (gi o (p + 1)) (gi o p)).map fun p : Nat => (p : Int)
theorem gi_mem {o : List Int} {i : Int} (h0 : 0 ≤ i) (h1 : i < o.length) : gi o i ∈ o := by
  unfold gi
  have h2 : i.toNat < o.length := by omega
  simp [h2]
/-- from a place on: the place at which an entry stops that rises -/
def riseFrom (lead : Int) (sc above : List Int) (e : Int) : Nat → Nat
  | 0 => 0
  | p + 1 => if beats lead sc e (gi above p) = true then riseFrom lead sc above e p else p + 1
def rise (lead : Int) (sc above : List Int) (e : Int) : Nat := riseFrom lead sc above e above.length
theorem riseFrom_le (lead : Int) (sc above : List Int) (e : Int) : ∀ n, riseFrom lead sc above e n ≤ n
  | 0 => Nat.le_refl _
  | p + 1 => by
    unfold riseFrom
    split
    · exact Nat.le_succ_of_le (riseFrom_le lead sc above e p)
    · exact Nat.le_refl _
theorem rise_le (lead : Int) (sc above : List Int) (e : Int) : rise lead sc above e ≤ above.length := riseFrom_le _ _ _ _ _
/-- an entry that comes at the bottom and rises -/
def ins (lead : Int) (sc above : List Int) (e : Int) : List Int := above.take (rise lead sc above e) ++ e :: above.drop (rise lead sc above e)
/-- the order that is left -/
def leftO (lead : Int) (sc o : List Int) : List Int := o.foldl (ins lead sc) []
theorem ins_perm (lead : Int) (sc above : List Int) (e : Int) : (ins lead sc above e).Perm (e :: above) := by
  unfold ins
  have h : (above.take (rise lead sc above e) ++ e :: above.drop (rise lead sc above e)).Perm (e :: (above.take (rise lead sc above e) ++ above.drop (rise lead sc above e))) := List.perm_middle
  rw [List.take_append_drop] at h
  exact h
theorem ins_len (lead : Int) (sc above : List Int) (e : Int) : (ins lead sc above e).length = above.length + 1 := (ins_perm lead sc above e).length_eq
theorem fold_perm (lead : Int) (sc : List Int) : ∀ o acc : List Int, (o.foldl (ins lead sc) acc).Perm (acc ++ o)
  | [], acc => by simp
  | e :: o, acc => by
    have h := fold_perm lead sc o (ins lead sc acc e)
    rw [List.foldl_cons]
    refine h.trans ?_
    refine ((ins_perm lead sc acc e).append_right o).trans ?_
    exact (List.perm_middle (l₁ := acc) (a := e) (l₂ := o)).symm
theorem leftO_perm (lead : Int) (sc o : List Int) : (leftO lead sc o).Perm o := by
  have h := fold_perm lead sc o []
  rw [List.nil_append] at h
  exact h
theorem leftO_len (lead : Int) (sc o : List Int) : (leftO lead sc o).length = o.length := (leftO_perm lead sc o).length_eq
theorem take_more {α : Type _} {l : List α} {i : Nat} {x : α} (h : l[i]? = some x) : l.take (i + 1) = l.take i ++ [x] := by
  rw [List.take_add_one, h]
  rfl
/-- by how much lower neighbours lead, and 1 more -/
def gaps (sc o : List Int) : List Int := (List.range (o.length - 1)).map fun p : Nat => gi sc (gi o (p + 1)) - gi sc (gi o p) + 1
def leastL (sc o : List Int) : Int := maxL (1 :: gaps sc o)
theorem pop_perm {done rest all : List Int} {k : Int} (h : (done ++ rest).Perm all) (h0 : 0 ≤ k) (h1 : k < rest.length) : ((done ++ [gi rest k]) ++ rest.eraseIdx k.toNat).Perm all := by
  have h2 : k.toNat < rest.length := by omega
  have e : gi rest k = rest[k.toNat] := by unfold gi; simp [h2]
  rw [e, List.append_assoc]
  refine List.Perm.trans (List.Perm.append_left done ?_) h
  rw [List.eraseIdx_eq_take_drop_succ]
  have h3 : rest = rest.take k.toNat ++ rest[k.toNat] :: rest.drop (k.toNat + 1) := by rw [← List.drop_eq_getElem_cons h2, List.take_append_drop]
  have h4 : (rest.take k.toNat ++ rest[k.toNat] :: rest.drop (k.toNat + 1)).Perm (rest[k.toNat] :: (rest.take k.toNat ++ rest.drop (k.toNat + 1))) := List.perm_middle
  exact h4.symm.trans (by rw [← h3])
theorem gi_nat {o : List Int} {p : Nat} (h : p < o.length) : gi o p = o[p] := by
  unfold gi
  simp [h]
theorem riseFrom_spec (lead : Int) (sc above : List Int) (e : Int) : ∀ n, (∀ p : Nat, riseFrom lead sc above e n ≤ p → p < n → beats lead sc e (gi above p) = true) ∧ (0 < riseFrom lead sc above e n → beats lead sc e (gi above (riseFrom lead sc above e n - 1 : Nat)) = false)
  | 0 => ⟨fun p _ h => absurd h (Nat.not_lt_zero p), fun h => absurd h (Nat.lt_irrefl 0)⟩
  | n + 1 => by
    have ih := riseFrom_spec lead sc above e n
    unfold riseFrom
    by_cases hc : beats lead sc e (gi above n) = true
    · rw [if_pos hc]
      refine ⟨fun p h1 h2 => ?_, ih.2⟩
      by_cases h3 : p = n
      · rw [h3]; exact hc
      · exact ih.1 p h1 (by omega)
    · rw [if_neg hc]
      refine ⟨fun p h1 h2 => by omega, fun _ => ?_⟩
      exact Bool.eq_false_iff.mpr hc
/-- no entry leads the one above it by the lead -/
def Calm (lead : Int) (sc o : List Int) : Prop := ∀ p : Nat, p + 1 < o.length → beats lead sc (gi o (p + 1)) (gi o p) = false
theorem gi_split (above : List Int) (e : Int) {r : Nat} (hr : r ≤ above.length) (p : Nat) : gi (above.take r ++ e :: above.drop r) p = if p < r then gi above p else if p = r then e else gi above (p - 1 : Nat) := by
  unfold gi
  simp only [Int.toNat_natCast]
  have hl : (above.take r).length = r := by rw [List.length_take]; omega
  by_cases h1 : p < r
  · rw [if_pos h1]
    simp [List.getElem?_append, hl, h1, show p < above.length from by omega]
  · rw [if_neg h1]
    by_cases h2 : p = r
    · rw [if_pos h2, h2]
      simp [List.getElem?_append, hl]
    · rw [if_neg h2]
      obtain ⟨q, rfl⟩ : ∃ q, p = r + 1 + q := ⟨p - r - 1, by omega⟩
      have e1 : r + 1 + q - r = q + 1 := by omega
      have e2 : r + 1 + q - 1 = r + q := by omega
      simp [List.getElem?_append, hl, e1, e2, h1]
theorem ins_calm {lead : Int} {sc above : List Int} {e : Int} (hl : 1 ≤ lead) (h : Calm lead sc above) : Calm lead sc (ins lead sc above e) := by
  have hr := riseFrom_spec lead sc above e above.length
  have hle := rise_le lead sc above e
  intro p hp
  rw [ins_len] at hp
  rw [show ((p : Int) + 1) = ((p + 1 : Nat) : Int) from rfl]
  unfold ins
  rw [gi_split _ _ hle, gi_split _ _ hle]
  unfold rise at *
  generalize riseFrom lead sc above e above.length = r at *
  by_cases h1 : p + 1 < r
  · rw [if_pos h1, if_pos (by omega)]
    exact h p (by omega)
  · rw [if_neg h1]
    by_cases h2 : p + 1 = r
    · rw [if_pos h2, if_pos (by omega)]
      have q := hr.2 (by omega)
      rw [show r - 1 = p from by omega] at q
      exact q
    · rw [if_neg h2, if_neg (by omega)]
      rw [show p + 1 - 1 = p from rfl]
      by_cases h3 : p = r
      · rw [if_pos h3]
        have hb := hr.1 p (by omega) (by omega)
        unfold beats at hb ⊢
        have hb := of_decide_eq_true hb
        exact decide_eq_false (by omega)
      · rw [if_neg h3]
        have q := h (p - 1) (by omega)
        rw [show (((p - 1 : Nat) : Int) + 1) = (p : Int) from by omega] at q
        exact q
theorem fold_calm {lead : Int} {sc : List Int} (hl : 1 ≤ lead) : ∀ (o acc : List Int), Calm lead sc acc → Calm lead sc (o.foldl (ins lead sc) acc)
  | [], _, h => h
  | _ :: o, _, h => fold_calm hl o _ (ins_calm hl h)
theorem leftO_calm {lead : Int} (hl : 1 ≤ lead) (sc o : List Int) : Calm lead sc (leftO lead sc o) := fold_calm hl o [] (fun _ hp => absurd hp (Nat.not_lt_zero _))
theorem wrongs_nil {lead : Int} {sc o : List Int} : wrongs lead sc o = [] ↔ Calm lead sc o := by
  unfold wrongs
  rw [List.map_eq_nil_iff, List.filter_eq_nil_iff]
  constructor
  · intro h p hp
    exact Bool.eq_false_iff.mpr (h p (List.mem_range.mpr (by omega)))
  · intro h p hp
    have hp := List.mem_range.mp hp
    rw [h p (by omega)]
    decide
theorem leftO_settled {lead : Int} (hl : 1 ≤ lead) (sc o : List Int) : wrongs lead sc (leftO lead sc o) = [] := wrongs_nil.mpr (leftO_calm hl sc o)
theorem leftO_ord {n : Nat} {lead : Int} {sc o : List Int} (h : IsOrd n o) : IsOrd n (leftO lead sc o) := (leftO_perm lead sc o).trans h
theorem mem_gaps {sc o : List Int} {x : Int} : x ∈ gaps sc o ↔ ∃ p : Nat, p + 1 < o.length ∧ x = gi sc (gi o (p + 1)) - gi sc (gi o p) + 1 := by
  unfold gaps
  rw [List.mem_map]
  constructor
  · rintro ⟨p, hp, rfl⟩
    exact ⟨p, by have := List.mem_range.mp hp; omega, rfl⟩
  · rintro ⟨p, hp, rfl⟩
    exact ⟨p, List.mem_range.mpr (by omega), rfl⟩
theorem leastL_pos (sc o : List Int) : 1 ≤ leastL sc o := maxL_le List.mem_cons_self
theorem calm_least {lead : Int} {sc o : List Int} (hl : 1 ≤ lead) : Calm lead sc o ↔ leastL sc o ≤ lead := by
  constructor
  · intro h
    rcases List.mem_cons.mp (maxL_mem (l := 1 :: gaps sc o) (by simp)) with e | hm
    · show maxL (1 :: gaps sc o) ≤ lead
      omega
    · obtain ⟨p, hp, e⟩ := mem_gaps.mp hm
      have q := of_decide_eq_false (h p hp)
      show maxL (1 :: gaps sc o) ≤ lead
      omega
  · intro h p hp
    have q := maxL_le (l := 1 :: gaps sc o) (List.mem_cons_of_mem _ (mem_gaps.mpr ⟨p, hp, rfl⟩))
    have h : maxL (1 :: gaps sc o) ≤ lead := h
    exact decide_eq_false (by omega)
theorem least_iff {lead : Int} {sc o : List Int} (hl : 1 ≤ lead) : wrongs lead sc o = [] ↔ leastL sc o ≤ lead := wrongs_nil.trans (calm_least hl)
theorem leastL_left {lead : Int} (hl : 1 ≤ lead) (sc o : List Int) : leastL sc (leftO lead sc o) ≤ lead := (calm_least hl).mp (leftO_calm hl sc o)
theorem maxL_snoc : ∀ {l : List Int} (g : Int), l ≠ [] → maxL (l ++ [g]) = if g > maxL l then g else maxL l := by
  intro l g h
  refine (maxL_is ?_ ?_).symm
  · split
    · simp
    · exact List.mem_append_left _ (maxL_mem h)
  · intro y hy
    rcases List.mem_append.mp hy with q | q
    · have := maxL_le q
      split <;> omega
    · have e : y = g := by simpa using q
      split <;> omega
theorem gaps_len (sc o : List Int) : (gaps sc o).length = o.length - 1 := by unfold gaps; simp
theorem gaps_get {sc o : List Int} {p : Nat} (h : p + 1 < o.length) : (gaps sc o)[p]? = some (gi sc (gi o (p + 1)) - gi sc (gi o p) + 1) := by
  unfold gaps
  have h2 : p < o.length - 1 := by omega
  simp [h2]
theorem due_step {sc o : List Int} {i : Nat} (h : i + 1 < o.length) : maxL (1 :: (gaps sc o).take (i + 1)) = if gi sc (gi o (i + 1)) - gi sc (gi o i) + 1 > maxL (1 :: (gaps sc o).take i) then gi sc (gi o (i + 1)) - gi sc (gi o i) + 1 else maxL (1 :: (gaps sc o).take i) := by
  rw [take_more (gaps_get h), ← List.cons_append]
  exact maxL_snoc _ (by simp)
theorem due_end {sc o : List Int} : maxL (1 :: (gaps sc o).take (o.length - 1)) = leastL sc o := by
  rw [List.take_of_length_le (by rw [gaps_len]; exact Nat.le_refl _)]
  rfl
end LB
set_option Elab.async false
set_option linter.all false
/-! what is left is one order, in whatever sequence wrong places are exchanged -/
namespace LB
open PySem PySem.Spec PyProof.Rows L2
/-- by scores too near for an exchange -/
def Close (lead : Int) (sc : List Int) (x y : Int) : Prop := beats lead sc x y = false ∧ beats lead sc y x = false
/-- close entries stand as the numbers f tell -/
def Keeps (lead : Int) (sc : List Int) (f : Int → Nat) (l : List Int) : Prop := l.Pairwise fun x y => Close lead sc x y → f x < f y
theorem calm_cons {lead : Int} {sc : List Int} {x y : Int} {r : List Int} : Calm lead sc (x :: y :: r) ↔ beats lead sc y x = false ∧ Calm lead sc (y :: r) := by
  constructor
  · intro h
    refine ⟨h 0 (by simp), fun p hp => ?_⟩
    have q := h (p + 1) (by simp at hp ⊢; omega)
    rw [show (((p + 1 : Nat) : Int) + 1) = ((p + 2 : Nat) : Int) from rfl] at q
    exact q
  · rintro ⟨h1, h2⟩ p hp
    cases p with
    | zero => exact h1
    | succ p =>
      have q := h2 p (by simp at hp ⊢; omega)
      rw [show (((p + 1 : Nat) : Int) + 1) = ((p + 2 : Nat) : Int) from rfl]
      exact q
theorem Calm.tail {lead : Int} {sc : List Int} {x : Int} {r : List Int} (h : Calm lead sc (x :: r)) : Calm lead sc r := by
  cases r with
  | nil => exact fun p hp => absurd hp (Nat.not_lt_zero _)
  | cons y r => exact (calm_cons.mp h).2
/-- what stands above y in a calm list and is not close to y leads y -/
theorem calm_over {lead : Int} (hl : 1 ≤ lead) {sc : List Int} {y : Int} {c : List Int} : ∀ {b : List Int} {x : Int}, Calm lead sc (x :: b ++ y :: c) → (∀ z ∈ x :: b, ¬ Close lead sc z y) → beats lead sc x y = true
  | [], x, h, hn => by
    have h1 := (calm_cons.mp h).1
    refine Decidable.by_contra fun z => hn x (by simp) ⟨Bool.eq_false_iff.mpr z, h1⟩
  | z :: b, x, h, hn => by
    have h1 := calm_cons.mp h
    have ih := calm_over hl (b := b) (x := z) h1.2 fun w hw => hn w (List.mem_cons_of_mem _ hw)
    refine Decidable.by_contra fun q => ?_
    have nx := hn x List.mem_cons_self
    have q := Bool.eq_false_iff.mpr q
    have q2 : beats lead sc y x = true := Decidable.by_contra fun e => nx ⟨q, Bool.eq_false_iff.mpr e⟩
    have h3 := h1.1
    unfold beats at *
    have a1 := of_decide_eq_true ih
    have a2 := of_decide_eq_true q2
    have a3 := of_decide_eq_false h3
    omega
theorem left_unique {lead : Int} (hl : 1 ≤ lead) {sc : List Int} {f : Int → Nat} : ∀ {l m : List Int}, l.Perm m → Calm lead sc l → Calm lead sc m → Keeps lead sc f l → Keeps lead sc f m → l = m
  | [], m, p, _, _, _, _ => (List.nil_perm.mp p).symm
  | x :: l, [], p, _, _, _, _ => absurd p.length_eq (by simp)
  | x :: l, y :: m, p, c1, c2, k1, k2 => by
    by_cases e : x = y
    · subst e
      rw [left_unique hl (List.perm_cons x |>.mp p) c1.tail c2.tail (List.pairwise_cons.mp k1).2 (List.pairwise_cons.mp k2).2]
    · exfalso
      have side : ∀ {x y : Int} {l m : List Int}, x ≠ y → (x :: l).Perm (y :: m) → Calm lead sc (x :: l) → Keeps lead sc f (x :: l) → Keeps lead sc f (y :: m) → beats lead sc x y = true := by
        intro x y l m e p c1 k1 k2
        have hy : y ∈ l := by
          rcases List.mem_cons.mp (p.mem_iff.mpr List.mem_cons_self) with h | h
          · exact absurd h.symm e
          · exact h
        obtain ⟨b, c, rfl⟩ := List.append_of_mem hy
        refine calm_over hl c1 fun z hz hc => ?_
        have h1 : f z < f y := by
          have q := k1
          unfold Keeps at q
          rw [show x :: (b ++ y :: c) = (x :: b) ++ y :: c from rfl, List.pairwise_append] at q
          exact q.2.2 z hz y List.mem_cons_self hc
        have hzm : z ∈ m := by
          have hz2 : z ∈ x :: (b ++ y :: c) := by
            rw [show x :: (b ++ y :: c) = (x :: b) ++ y :: c from rfl]
            exact List.mem_append_left _ hz
          rcases List.mem_cons.mp (p.mem_iff.mp hz2) with h | h
          · subst h
            omega
          · exact h
        have h2 := (List.pairwise_cons.mp k2).1 z hzm ⟨hc.2, hc.1⟩
        omega
      have a := side e p c1 k1 k2
      have b := side (Ne.symm e) p.symm c2 k2 k1
      unfold beats at a b
      have a := of_decide_eq_true a
      have b := of_decide_eq_true b
      omega
theorem rise_over {lead : Int} {sc above : List Int} {e : Int} : ∀ z ∈ above.drop (rise lead sc above e), beats lead sc e z = true := by
  intro z hz
  obtain ⟨i, hi, e1⟩ := List.mem_iff_getElem.mp hz
  rw [List.getElem_drop] at e1
  rw [List.length_drop] at hi
  have h := (riseFrom_spec lead sc above e above.length).1 (rise lead sc above e + i) (Nat.le_add_right _ _) (by omega)
  rw [gi_nat (by omega)] at h
  rw [e1] at h
  exact h
/-- an entry that comes below all the others, by the numbers -/
theorem ins_keeps {lead : Int} {sc above : List Int} {e : Int} {f : Int → Nat} (h : Keeps lead sc f above) (hf : ∀ z ∈ above, f z < f e) : Keeps lead sc f (ins lead sc above e) := by
  unfold ins Keeps at *
  have ho := rise_over (lead := lead) (sc := sc) (above := above) (e := e)
  generalize rise lead sc above e = r at *
  have h0 := h
  rw [← List.take_append_drop r above] at h0
  have h1 := List.pairwise_append.mp h0
  refine List.pairwise_append.mpr ⟨h1.1, List.pairwise_cons.mpr ⟨fun z hz hc => ?_, h1.2.1⟩, fun x hx y hy hc => ?_⟩
  · have := ho z hz
    rw [hc.1] at this
    cases this
  · rcases List.mem_cons.mp hy with q | q
    · rw [q]
      exact hf x (List.mem_of_mem_take hx)
    · exact h1.2.2 x hx y q hc
theorem fold_keeps {lead : Int} {sc : List Int} {f : Int → Nat} : ∀ (o acc : List Int), Keeps lead sc f acc → o.Pairwise (fun x y => f x < f y) → (∀ z ∈ acc, ∀ e ∈ o, f z < f e) → Keeps lead sc f (o.foldl (ins lead sc) acc)
  | [], _, h, _, _ => h
  | e :: o, acc, h, hp, hz => by
    have hp := List.pairwise_cons.mp hp
    refine fold_keeps o _ (ins_keeps h fun z hz2 => hz z hz2 e List.mem_cons_self) hp.2 fun z hm w hw => ?_
    rcases List.mem_cons.mp ((ins_perm lead sc acc e).mem_iff.mp hm) with q | q
    · rw [q]; exact hp.1 w hw
    · exact hz z q w (List.mem_cons_of_mem _ hw)
/-- numbers that rise along an order -/
def Rises (f : Int → Nat) (o : List Int) : Prop := o.Pairwise fun x y => f x < f y
theorem Rises.keeps {lead : Int} {sc o : List Int} {f : Int → Nat} (h : Rises f o) : Keeps lead sc f o := by
  unfold Keeps
  refine List.Pairwise.imp ?_ h
  intro a b q _
  exact q
theorem leftO_keeps {lead : Int} {sc o : List Int} {f : Int → Nat} (h : Rises f o) : Keeps lead sc f (leftO lead sc o) := fold_keeps o [] List.Pairwise.nil h (fun _ hz => absurd hz List.not_mem_nil)
theorem idxOf_rises {o : List Int} (h : o.Nodup) : Rises (fun x => o.idxOf x) o := by
  unfold Rises
  rw [List.pairwise_iff_getElem]
  intro i j hi hj hij
  show List.idxOf o[i] o < List.idxOf o[j] o
  rw [List.Nodup.idxOf_getElem h, List.Nodup.idxOf_getElem h]
  exact hij
/-- what a calm order is that keeps close pairs -/
theorem left_is {lead : Int} (hl : 1 ≤ lead) {sc o l : List Int} {f : Int → Nat} (hf : Rises f o) (p : l.Perm o) (c : Calm lead sc l) (k : Keeps lead sc f l) : l = leftO lead sc o :=
  left_unique hl (p.trans (leftO_perm lead sc o).symm) c (leftO_calm hl sc o) k (leftO_keeps hf)
/-- two neighbours of which the lower one leads change places -/
theorem swap_keeps {lead : Int} {sc a b : List Int} {x y : Int} {f : Int → Nat} (h : Keeps lead sc f (a ++ x :: y :: b)) (hb : beats lead sc y x = true) : Keeps lead sc f (a ++ y :: x :: b) := by
  unfold Keeps at *
  have h1 := List.pairwise_append.mp h
  have h2 := List.pairwise_cons.mp h1.2.1
  have h3 := List.pairwise_cons.mp h2.2
  refine List.pairwise_append.mpr ⟨h1.1, List.pairwise_cons.mpr ⟨fun z hz hc => ?_, List.pairwise_cons.mpr ⟨fun z hz => h2.1 z (List.mem_cons_of_mem _ hz), h3.2⟩⟩, fun z hz w hw => ?_⟩
  · rcases List.mem_cons.mp hz with q | q
    · subst q
      have := hc.1
      rw [hb] at this
      cases this
    · exact h3.1 z q hc
  · refine h1.2.2 z hz w ?_
    rcases List.mem_cons.mp hw with q | q
    · rw [q]; simp
    · rcases List.mem_cons.mp q with q | q
      · rw [q]; simp
      · simp [q]
/-- pairs that are still to be exchanged -/
def inv (lead : Int) (sc : List Int) : List Int → Nat
  | [] => 0
  | x :: r => (r.filter fun z => beats lead sc z x).length + inv lead sc r
theorem inv_swap {lead : Int} (hl : 1 ≤ lead) {sc : List Int} {x y : Int} {b : List Int} (hb : beats lead sc y x = true) : ∀ a : List Int, inv lead sc (a ++ x :: y :: b) = inv lead sc (a ++ y :: x :: b) + 1
  | [] => by
    have hxy : beats lead sc x y = false := by
      unfold beats at *
      have := of_decide_eq_true hb
      exact decide_eq_false (by omega)
    simp only [List.nil_append, inv, List.filter_cons, hb, hxy]
    simp
    omega
  | z :: a => by
    have ih := inv_swap (b := b) hl hb a
    have p : (a ++ x :: y :: b).Perm (a ++ y :: x :: b) := (List.Perm.swap y x b).append_left a
    simp only [List.cons_append, inv, ih, (p.filter _).length_eq]
    omega
end LB
set_option Elab.async false
set_option linter.all false
set_option maxRecDepth 100000
set_option maxHeartbeats 2000000
/-! calls with keywords -/
namespace LB
open PySem PySem.Spec PyProof.Rows L2
def pickL {α : Type} : List Nat → List α → List α
  | [], _ => []
  | i :: r, l => match l[i]? with
    | none => pickL r l
    | some x => x :: pickL r l
theorem vals_get : ∀ {vs : List V} {us : List Value}, Vals vs us → ∀ i : Nat, (vs[i]? = none ∧ us[i]? = none) ∨ ∃ v u, vs[i]? = some v ∧ us[i]? = some u ∧ Vals [v] [u]
  | _, _, .nil, i => .inl ⟨rfl, rfl⟩
  | _, _, .cons h r, 0 => .inr ⟨_, _, rfl, rfl, .cons h .nil⟩
  | _, _, .cons h r, i + 1 => by
    have q := vals_get r i
    simpa using q
theorem vals_pick {vs : List V} {us : List Value} (r : Vals vs us) : ∀ idx : List Nat, Vals (pickL idx vs) (pickL idx us)
  | [] => .nil
  | i :: idx => by
    unfold pickL
    rcases vals_get r i with ⟨e1, e2⟩ | ⟨v, u, e1, e2, h⟩
    · rw [e1, e2]; exact vals_pick r idx
    · rw [e1, e2]
      exact Vals.append h (vals_pick r idx)
/-- the arguments at these places of all that are given, a by position and b by name -/
def kwG {α : Type} (a b : Nat) (idx : List Nat) (us ws : List α) : List α := if us.length = a ∧ ws.length = b then pickL idx (us ++ ws) else []
theorem kw_rel {a b : Nat} {idx : List Nat} {vs zs : List V} {us ws : List Value} (r : Vals vs us) (rz : Vals zs ws) : Vals (kwG a b idx vs zs) (kwG a b idx us ws) := by
  unfold kwG
  rw [r.length, rz.length]
  split
  · exact vals_pick (r.append rz) idx
  · exact .nil
/-- how a def takes arguments by name -/
theorem kw_binds {K : PySem.W.Frag} {x qual : Str} {st : Stmt} {f : Addr} {fd : FuncData} {ps ks : List Str} {a b : Nat} {idx : List Nat} (F : Fun K x qual st f fd) (hp : ps.length ≠ 0)
    (h : ∀ (kV doc pm : Value) (an : Option Addr) (cdv ct : Value) (us ws : List Value), us.length = a → ws.length = b → bindArgs (PySem.W.fnOf x qual (defArgs st) (defBody st) (defScope st) .none kV doc pm an cdv ct) ⟨us, ks.zip ws⟩ = pure (ps.zip (pickL idx (us ++ ws)))) : KBinds K fd ps ks (kwG a b idx) (kwG a b idx) := by
  obtain ⟨oc, od, kV, doc, pm, an, cdv, ct, osl, rfl, lk, hcd⟩ := F.ex
  refine ⟨fun s us ws _ hl => ?_, kw_rel⟩
  unfold kwG at hl ⊢
  split at hl
  · rename_i hq
    rw [if_pos hq]
    exact .of_eq (h kV doc pm an cdv ct us ws hq.1 hq.2)
  · exact absurd hl.symm hp
theorem hask_of {P : Program} {w : World} {K : PySem.W.Frag} {mg : Str → Option Value} {base : Heap} {CX : CXT} {x : Str} {st : Stmt} {f : Addr} {fd : FuncData} {ps ks : List Str} {k : Nat} {sp : Sp} {a b : Nat} {idx : List Nat} (F : Fun K x x st f fd) (G : FnG P w K mg base CX k f fd ps sp) (gm : mg x = some (.ref f)) (hp : ps.length ≠ 0)
    (h : ∀ (kV doc pm : Value) (an : Option Addr) (cdv ct : Value) (us ws : List Value), us.length = a → ws.length = b → bindArgs (PySem.W.fnOf x x (defArgs st) (defBody st) (defScope st) .none kV doc pm an cdv ct) ⟨us, ks.zip ws⟩ = pure (ps.zip (pickL idx (us ++ ws)))) : HasK P w K mg base CX x ps ks (kwG a b idx) (kwG a b idx) k sp :=
  ⟨f, fd, G, gm, F.kp, kw_binds F hp h⟩
section
variable {X : Cx} {CX : CXT} {k : Nat} {ps ks : List Str} {sp : Sp} {E : XK} {x : Str} {p pos : Pos} {tk : TA} {kws : List Keyword} {g : List Value → List Value → List Value} {gV : List V → List V → List V}
/-- only names -/
theorem pe_callHK0 (h : HasK X.prog X.w X.K X.mg X.base CX0 x ps ks g gV k sp) (hr : Rm k X.A) (hg : Gl X x) (hkw : PK X kws tk)
    (hall : (backToKw pos (keywordEach kws X.env)).all (·.1.isSome) = true := by rfl) (hks : (backToKw pos (keywordEach kws X.env)).filterMap (·.1) = ks := by rfl)
    (hdb : (x == ("__debug__" : Str)) = false := by decide)
    (hpl : ((backTo pos (starEach [] X.env)).any (·.1) || (backToKw pos (keywordEach kws X.env)).any (·.1.isNone)) = false := by rfl) :
    PE X (.Call (.Name x p) [] kws pos) (tCallK sp gV E0 tNil tk) := by
  obtain ⟨f, fd, G, gm, hk, hb⟩ := h.ex
  constructor
  intro pins s σ H Q I q
  refine wpAny_Call_Name_kw (ld_glob I hg gm ?_ hdb)
  refine PySem.W.callWith_KW0 (h₀ := X.base) I.ok.mod.kin hk hall (thn (hkw.run pos pins s σ H _ I q) ?_) hpl
  rintro ws s2 ⟨zs, H2, I2, rz, q2⟩
  rw [hks]
  exact ⟨I2.kIn, run_GK (us := []) (vs := []) G hr hb pass0 I2 .nil rz q2⟩
end
/-- what is given, put in its places -/
theorem d_kw {α : Type} {a b : Nat} {idx : List Nat} {us ws : List α} (h : us.length = a ∧ ws.length = b) : kwG a b idx us ws = pickL idx (us ++ ws) := if_pos h
end LB
set_option Elab.async false
set_option linter.all false
set_option maxRecDepth 100000
set_option maxHeartbeats 2000000
set_option exponentiation.threshold 600
/-! data as plain values: what a value is worth (D), what is frozen and what is owned of the heap, slots -/
namespace DL
open PySem PySem.Spec PyProof.Rows L2 LB

/-- data; the Bool of a list, tuple, dict: it is owned (may be changed), and nothing else leads to it -/
inductive D where
  | non | bl (b : Bool) | int (i : Int) | str (s : Str) | ty (n : String)
  | lst (o : Bool) (xs : List D) | tup (o : Bool) (xs : List D) | dct (o : Bool) (kvs : List (Key × D))
mutual
/-- the same, nothing of it owned -/
def D.frz : D → D
  | .lst _ xs => .lst false (D.frzL xs)
  | .tup _ xs => .tup false (D.frzL xs)
  | .dct _ xs => .dct false (D.frzK xs)
  | .non => .non
  | .bl b => .bl b
  | .int i => .int i
  | .str s => .str s
  | .ty n => .ty n
def D.frzL : List D → List D
  | [] => []
  | d :: ds => d.frz :: D.frzL ds
def D.frzK : List (Key × D) → List (Key × D)
  | [] => []
  | (k, d) :: ds => (k, d.frz) :: D.frzK ds
end
mutual
/-- all of it is owned -/
def D.full : D → Bool
  | .lst o xs => o && D.fullL xs
  | .tup o xs => o && D.fullL xs
  | .dct o xs => o && D.fullK xs
  | _ => true
def D.fullL : List D → Bool
  | [] => true
  | d :: ds => d.full && D.fullL ds
def D.fullK : List (Key × D) → Bool
  | [] => true
  | (_, d) :: ds => d.full && D.fullK ds
end
/-- not owned itself -/
def D.isFz : D → Bool
  | .lst o _ => !o
  | .tup o _ => !o
  | .dct o _ => !o
  | _ => true

abbrev CL := List (Addr × HO)
def Le (F F' : Hp) : Prop := ∀ a o, F a = some o → F' a = some o
theorem Le.refl {F : Hp} : Le F F := fun _ _ h => h
theorem Le.trans {F G H : Hp} (a : Le F G) (b : Le G H) : Le F H := fun x o h => b x o (a x o h)

/-! ### counting -/
open Classical in
noncomputable def cn (x : Addr × HO) (U : CL) : Nat := U.count x
theorem cn_nil (x : Addr × HO) : cn x [] = 0 := by unfold cn; simp
theorem cn_append (x : Addr × HO) (U W : CL) : cn x (U ++ W) = cn x U + cn x W := by unfold cn; simp
noncomputable def c1 (x y : Addr × HO) : Nat := cn x [y]
theorem cn_cons (x y : Addr × HO) (U : CL) : cn x (y :: U) = c1 x y + cn x U := by
  unfold c1
  rw [← cn_append]; rfl
theorem cn_pos {x : Addr × HO} {U : CL} : 0 < cn x U ↔ x ∈ U := by unfold cn; simp
theorem cn_self (x : Addr × HO) : c1 x x = 1 := by unfold c1 cn; simp
theorem cn_ne {x y : Addr × HO} (h : y ≠ x) : c1 x y = 0 := by unfold c1 cn; simp [h]
theorem nd_iff (U : CL) : (U.map Prod.fst).Nodup ↔ (∀ x, cn x U ≤ 1) ∧ ∀ x ∈ U, ∀ y ∈ U, x.1 = y.1 → x = y := by
  induction U with
  | nil => simp [cn_nil]
  | cons z U ih =>
    rw [List.map_cons, List.nodup_cons, ih]
    constructor
    · rintro ⟨h1, h2, h3⟩
      have hz : ∀ y ∈ U, z.1 ≠ y.1 := fun y hy e => h1 (e ▸ List.mem_map_of_mem hy)
      refine ⟨fun x => ?_, ?_⟩
      · rw [cn_cons]
        by_cases e : z = x
        · subst e
          have : cn z U = 0 := by
            rcases Nat.eq_zero_or_pos (cn z U) with q | q
            · exact q
            · exact absurd rfl (hz z (cn_pos.mp q))
          rw [this, cn_self]; decide
        · rw [cn_ne e]; have := h2 x; omega
      · intro x hx y hy e
        rcases List.mem_cons.mp hx with rfl | hx
        · rcases List.mem_cons.mp hy with rfl | hy
          · rfl
          · exact absurd e (hz y hy)
        · rcases List.mem_cons.mp hy with rfl | hy
          · exact absurd e.symm (hz x (by assumption))
          · exact h3 x hx y hy e
    · rintro ⟨h2, h3⟩
      refine ⟨fun hm => ?_, fun x => ?_, fun x hx y hy => h3 x (List.mem_cons_of_mem _ hx) y (List.mem_cons_of_mem _ hy)⟩
      · obtain ⟨y, hy, e⟩ := List.mem_map.mp hm
        have e2 := h3 y (List.mem_cons_of_mem _ hy) z List.mem_cons_self e
        subst e2
        have h := h2 y
        rw [cn_cons, cn_self] at h
        have := cn_pos.mpr hy
        omega
      · have h := h2 x
        rw [cn_cons] at h
        omega

/-! ### a heap: F is frozen, U is owned -/
structure HA (F : Hp) (U : CL) (H : Hp) : Prop where
  fr : Le F H
  ow : ∀ x ∈ U, H x.1 = some x.2 ∧ F x.1 = none
  nd : (U.map Prod.fst).Nodup
def adj (F : Hp) (C : CL) : Hp := fun a => (C.lookup a).or (F a)
theorem look_mem {C : CL} {a : Addr} {o : HO} (h : C.lookup a = some o) : (a, o) ∈ C := by
  induction C with
  | nil => simp at h
  | cons x C ih =>
    obtain ⟨b, u⟩ := x
    rw [List.lookup_cons] at h
    split at h
    · rename_i e; simp at e h; subst e; subst h; exact List.mem_cons_self
    · exact List.mem_cons_of_mem _ (ih h)
theorem look_of {C : CL} (nd : (C.map Prod.fst).Nodup) {x : Addr × HO} (h : x ∈ C) : C.lookup x.1 = some x.2 := by
  induction C with
  | nil => cases h
  | cons y C ih =>
    obtain ⟨b, u⟩ := y
    rw [List.map_cons, List.nodup_cons] at nd
    rw [List.lookup_cons]
    rcases List.mem_cons.mp h with e | h
    · subst e; simp
    · have : x.1 ≠ b := fun e => nd.1 (e ▸ (List.mem_map_of_mem h : x.1 ∈ C.map Prod.fst))
      have e2 : (x.1 == b) = false := by simp [this]
      rw [e2]
      exact ih nd.2 h
theorem adj_mem {F : Hp} {C : CL} (nd : (C.map Prod.fst).Nodup) {x : Addr × HO} (h : x ∈ C) : adj F C x.1 = some x.2 := by
  unfold adj; rw [look_of nd h]; rfl
section
variable {F F' : Hp} {U U' C : CL} {H H' : Hp} {a p : Addr} {o o' : HO}
theorem HA.sub (h : HA F U H) (s : ∀ x, cn x U' ≤ cn x U) : HA F U' H := by
  have m : ∀ x, x ∈ U' → x ∈ U := fun x hx => cn_pos.mp (Nat.lt_of_lt_of_le (cn_pos.mpr hx) (s x))
  have n := (nd_iff U).mp h.nd
  exact ⟨h.fr, fun x hx => h.ow x (m x hx), (nd_iff U').mpr ⟨fun x => Nat.le_trans (s x) (n.1 x), fun x hx y hy => n.2 x (m x hx) y (m y hy)⟩⟩
theorem HA.notin (h : HA F U H) (np : H p = none) : p ∉ U.map Prod.fst := fun hm => by
  obtain ⟨x, hx, e⟩ := List.mem_map.mp hm
  have := (h.ow x hx).1
  rw [e, np] at this; cases this
theorem HA.fnone (h : HA F U H) (np : H p = none) : F p = none := by
  cases q : F p with
  | none => rfl
  | some o => rw [h.fr p o q] at np; cases np
theorem HA.new (h : HA F U H) (np : H p = none) (o : HO) : HA F ((p, o) :: U) (upd H p o) := by
  refine ⟨fun a u e => ?_, fun x hx => ?_, List.nodup_cons.mpr ⟨h.notin np, h.nd⟩⟩
  · rw [upd_ne (ne_of_none (h.fr a u e) np)]; exact h.fr a u e
  · rcases List.mem_cons.mp hx with rfl | hx
    · exact ⟨upd_same, h.fnone np⟩
    · have q := h.ow x hx
      refine ⟨?_, q.2⟩
      rw [upd_ne (ne_of_none q.1 np)]; exact q.1
theorem HA.newF (h : HA F U H) (np : H p = none) (o : HO) : HA (upd F p o) U (upd H p o) ∧ Le F (upd F p o) := by
  have fp := h.fnone np
  refine ⟨⟨fun a u e => ?_, fun x hx => ?_, h.nd⟩, fun a u e => by rw [upd_ne (ne_of_none e fp)]; exact e⟩
  · by_cases z : a = p
    · subst z; rw [upd_same] at e ⊢; exact e
    · rw [upd_ne z] at e ⊢; exact h.fr a u e
  · have q := h.ow x hx
    have z := ne_of_none q.1 np
    rw [upd_ne z, upd_ne z]; exact q
theorem HA.put (h : HA F ((a, o) :: U) H) (o' : HO) : HA F ((a, o') :: U) (upd H a o') := by
  have n := List.nodup_cons.mp h.nd
  have qa := h.ow _ List.mem_cons_self
  refine ⟨fun b u e => ?_, fun x hx => ?_, List.nodup_cons.mpr n⟩
  · rw [upd_ne (ne_of_none e qa.2)]; exact h.fr b u e
  · rcases List.mem_cons.mp hx with rfl | hx
    · exact ⟨upd_same, qa.2⟩
    · have q := h.ow x (List.mem_cons_of_mem _ hx)
      have z : x.1 ≠ a := fun e => n.1 (e ▸ (List.mem_map_of_mem hx : x.1 ∈ U.map Prod.fst))
      rw [upd_ne z]; exact q
theorem nd_append {C U : CL} (h : ((C ++ U).map Prod.fst).Nodup) : (C.map Prod.fst).Nodup ∧ (U.map Prod.fst).Nodup ∧ ∀ x ∈ C, ∀ y ∈ U, x.1 ≠ y.1 := by
  rw [List.map_append, List.nodup_append] at h
  exact ⟨h.1, h.2.1, fun x hx y hy => h.2.2 _ (List.mem_map_of_mem hx) _ (List.mem_map_of_mem hy)⟩
theorem HA.frz (h : HA F (C ++ U) H) : HA (adj F C) U H ∧ Le F (adj F C) ∧ (∀ x ∈ C, adj F C x.1 = some x.2 ∧ F x.1 = none) ∧ (C.map Prod.fst).Nodup := by
  obtain ⟨n1, n2, n3⟩ := nd_append h.nd
  have hc : ∀ x ∈ C, H x.1 = some x.2 ∧ F x.1 = none := fun x hx => h.ow x (List.mem_append_left _ hx)
  refine ⟨⟨fun a u e => ?_, fun x hx => ?_, n2⟩, fun a u e => ?_, fun x hx => ⟨adj_mem n1 hx, (hc x hx).2⟩, n1⟩
  · unfold adj at e
    cases q : C.lookup a with
    | none => rw [q] at e; exact h.fr a u e
    | some w =>
      rw [q] at e
      have := (hc _ (look_mem q)).1
      exact this.trans e
  · have q := h.ow x (List.mem_append_right _ hx)
    refine ⟨q.1, ?_⟩
    unfold adj
    cases z : C.lookup x.1 with
    | none => exact q.2
    | some w => exact absurd rfl (n3 _ (look_mem z) x hx)
  · unfold adj
    cases z : C.lookup a with
    | none => exact e
    | some w => have := (hc _ (look_mem z)).2; rw [e] at this; cases this
theorem HA.unfrz (h : HA F' U H) (l : Le F F') (hc : ∀ x ∈ C, F' x.1 = some x.2 ∧ F x.1 = none) (n : (C.map Prod.fst).Nodup) : HA F (C ++ U) H := by
  refine ⟨l.trans h.fr, fun x hx => ?_, ?_⟩
  · rcases List.mem_append.mp hx with hx | hx
    · exact ⟨h.fr _ _ (hc x hx).1, (hc x hx).2⟩
    · have q := h.ow x hx
      refine ⟨q.1, ?_⟩
      cases z : F x.1 with
      | none => rfl
      | some w => have := l _ _ z; rw [q.2] at this; cases this
  · rw [List.map_append, List.nodup_append]
    refine ⟨n, h.nd, fun a ha b hb => ?_⟩
    obtain ⟨x, hx, rfl⟩ := List.mem_map.mp ha
    obtain ⟨y, hy, rfl⟩ := List.mem_map.mp hb
    intro e
    have q1 := (hc x hx).1
    have q2 := (h.ow y hy).2
    rw [e, q2] at q1; cases q1
end

/-! ### values that are worth data -/
/-- a list to be read, its object told exactly -/
def SqX (K : PySem.W.Frag) (H : Hp) (a : Addr) (xs : List V) : Prop :=
  Rd H a (.lst xs) ∨ ∃ (its : List Value) (n : Nat), K.lookup a = some { cls := .type "list", data := .seq its.toArray n } ∧ its.length ≤ sizeLine ∧ Vals xs its
theorem SqX.l {K : PySem.W.Frag} {H : Hp} {a : Addr} {xs : List V} (h : SqX K H a xs) : SqL K H a xs := by
  rcases h with h | ⟨its, n, h1, h2, h3⟩
  · exact .inl h
  · exact .inr ⟨_, its.toArray, n, h1, rfl, rfl, rfl, by simpa using h2, by simpa using h3⟩
mutual
inductive Dn (K : PySem.W.Frag) (F : Hp) : V → D → Prop
  | non : Dn K F .non .non
  | bl (b : Bool) : Dn K F (.bl b) (.bl b)
  | int (i : Int) : Dn K F (.int i) (.int i)
  | str (s : Str) : Dn K F (.str s) (.str s)
  | ty (n : String) : Dn K F (.ty n) (.ty n)
  | lst {a : Addr} {xs : List V} {ds : List D} : SqX K F a xs → DnL K F xs ds → Dn K F (.ref a) (.lst false ds)
  | tup {a : Addr} {xs : List V} {ds : List D} : SqT K F a xs → DnL K F xs ds → Dn K F (.ref a) (.tup false ds)
  | dct {a : Addr} {xs : List (Key × V)} {ds : List (Key × D)} : F a = some (.dK xs) → DnK K F xs ds → Dn K F (.ref a) (.dct false ds)
inductive DnL (K : PySem.W.Frag) (F : Hp) : List V → List D → Prop
  | nil : DnL K F [] []
  | cons {v : V} {vs : List V} {d : D} {ds : List D} : Dn K F v d → DnL K F vs ds → DnL K F (v :: vs) (d :: ds)
inductive DnK (K : PySem.W.Frag) (F : Hp) : List (Key × V) → List (Key × D) → Prop
  | nil : DnK K F [] []
  | cons {k : Key} {v : V} {vs : List (Key × V)} {d : D} {ds : List (Key × D)} : Dn K F v d → DnK K F vs ds → DnK K F ((k, v) :: vs) ((k, d) :: ds)
end
mutual
/-- the same; the cells C are its own -/
inductive Own (K : PySem.W.Frag) (F : Hp) : V → D → CL → Prop
  | z {v : V} {d : D} : Dn K F v d → Own K F v d []
  | lst {a : Addr} {xs : List V} {ds : List D} {C : CL} : OwnL K F xs ds C → Own K F (.ref a) (.lst true ds) ((a, .lst xs) :: C)
  | tup {a : Addr} {xs : List V} {ds : List D} {C : CL} : OwnL K F xs ds C → Own K F (.ref a) (.tup true ds) ((a, .tup xs) :: C)
  | dct {a : Addr} {xs : List (Key × V)} {ds : List (Key × D)} {C : CL} : OwnK K F xs ds C → Own K F (.ref a) (.dct true ds) ((a, .dK xs) :: C)
inductive OwnL (K : PySem.W.Frag) (F : Hp) : List V → List D → CL → Prop
  | nil : OwnL K F [] [] []
  | cons {v : V} {vs : List V} {d : D} {ds : List D} {C1 C2 : CL} : Own K F v d C1 → OwnL K F vs ds C2 → OwnL K F (v :: vs) (d :: ds) (C1 ++ C2)
inductive OwnK (K : PySem.W.Frag) (F : Hp) : List (Key × V) → List (Key × D) → CL → Prop
  | nil : OwnK K F [] [] []
  | cons {k : Key} {v : V} {vs : List (Key × V)} {d : D} {ds : List (Key × D)} {C1 C2 : CL} : Own K F v d C1 → OwnK K F vs ds C2 → OwnK K F ((k, v) :: vs) ((k, d) :: ds) (C1 ++ C2)
end
section
variable {K : PySem.W.Frag} {F F' : Hp}
theorem rd_mono {a : Addr} {u : HO} (l : Le F F') (h : Rd F a u) : Rd F' a u := by
  rcases h with h | ⟨o, h⟩
  · exact .inl (l _ _ h)
  · exact .inr ⟨o, l _ _ h⟩
theorem sqL_mono {a : Addr} {xs : List V} (l : Le F F') (h : SqL K F a xs) : SqL K F' a xs := h.imp (rd_mono l) id
theorem sqX_mono {a : Addr} {xs : List V} (l : Le F F') (h : SqX K F a xs) : SqX K F' a xs := h.imp (rd_mono l) id
theorem sqT_mono {a : Addr} {xs : List V} (l : Le F F') (h : SqT K F a xs) : SqT K F' a xs := h.imp (rd_mono l) id
mutual
theorem Dn.mono (l : Le F F') : ∀ {v : V} {d : D}, Dn K F v d → Dn K F' v d
  | _, _, .non => .non
  | _, _, .bl b => .bl b
  | _, _, .int b => .int b
  | _, _, .str b => .str b
  | _, _, .ty b => .ty b
  | _, _, .lst s h => .lst (sqX_mono l s) (DnL.mono l h)
  | _, _, .tup s h => .tup (sqT_mono l s) (DnL.mono l h)
  | _, _, .dct s h => .dct (l _ _ s) (DnK.mono l h)
theorem DnL.mono (l : Le F F') : ∀ {v : List V} {d : List D}, DnL K F v d → DnL K F' v d
  | _, _, .nil => .nil
  | _, _, .cons h t => .cons (Dn.mono l h) (DnL.mono l t)
theorem DnK.mono (l : Le F F') : ∀ {v : List (Key × V)} {d : List (Key × D)}, DnK K F v d → DnK K F' v d
  | _, _, .nil => .nil
  | _, _, .cons h t => .cons (Dn.mono l h) (DnK.mono l t)
end
mutual
theorem Own.mono (l : Le F F') : ∀ {v : V} {d : D} {C : CL}, Own K F v d C → Own K F' v d C
  | _, _, _, .z h => .z (h.mono l)
  | _, _, _, .lst h => .lst (OwnL.mono l h)
  | _, _, _, .tup h => .tup (OwnL.mono l h)
  | _, _, _, .dct h => .dct (OwnK.mono l h)
theorem OwnL.mono (l : Le F F') : ∀ {v : List V} {d : List D} {C : CL}, OwnL K F v d C → OwnL K F' v d C
  | _, _, _, .nil => .nil
  | _, _, _, .cons h t => .cons (Own.mono l h) (OwnL.mono l t)
theorem OwnK.mono (l : Le F F') : ∀ {v : List (Key × V)} {d : List (Key × D)} {C : CL}, OwnK K F v d C → OwnK K F' v d C
  | _, _, _, .nil => .nil
  | _, _, _, .cons h t => .cons (Own.mono l h) (OwnK.mono l t)
end
/-! frozen data is as it is -/
mutual
theorem Dn.fix : ∀ {v : V} {d : D}, Dn K F v d → d.frz = d
  | _, _, .non => rfl
  | _, _, .bl b => rfl
  | _, _, .int b => rfl
  | _, _, .str b => rfl
  | _, _, .ty b => rfl
  | _, _, .lst s h => by rw [D.frz, DnL.fix h]
  | _, _, .tup s h => by rw [D.frz, DnL.fix h]
  | _, _, .dct s h => by rw [D.frz, DnK.fix h]
theorem DnL.fix : ∀ {v : List V} {d : List D}, DnL K F v d → D.frzL d = d
  | _, _, .nil => rfl
  | _, _, .cons h t => by rw [D.frzL, Dn.fix h, DnL.fix t]
theorem DnK.fix : ∀ {v : List (Key × V)} {d : List (Key × D)}, DnK K F v d → D.frzK d = d
  | _, _, .nil => rfl
  | _, _, .cons h t => by rw [D.frzK, Dn.fix h, DnK.fix t]
end
mutual
theorem Own.frz (l : Le F F') : ∀ {v : V} {d : D} {C : CL}, Own K F v d C → (∀ x ∈ C, F' x.1 = some x.2) → Dn K F' v d.frz
  | _, _, _, .z h, _ => by rw [h.fix]; exact h.mono l
  | _, _, _, .lst h, c => by rw [D.frz]; exact .lst (.inl (.inl (c _ List.mem_cons_self))) (OwnL.frz l h fun x hx => c x (List.mem_cons_of_mem _ hx))
  | _, _, _, .tup h, c => by rw [D.frz]; exact .tup (.inl (.inl (c _ List.mem_cons_self))) (OwnL.frz l h fun x hx => c x (List.mem_cons_of_mem _ hx))
  | _, _, _, .dct h, c => by rw [D.frz]; exact .dct (c _ List.mem_cons_self) (OwnK.frz l h fun x hx => c x (List.mem_cons_of_mem _ hx))
theorem OwnL.frz (l : Le F F') : ∀ {v : List V} {d : List D} {C : CL}, OwnL K F v d C → (∀ x ∈ C, F' x.1 = some x.2) → DnL K F' v (D.frzL d)
  | _, _, _, .nil, _ => .nil
  | _, _, _, .cons h t, c => .cons (Own.frz l h fun x hx => c x (List.mem_append_left _ hx)) (OwnL.frz l t fun x hx => c x (List.mem_append_right _ hx))
theorem OwnK.frz (l : Le F F') : ∀ {v : List (Key × V)} {d : List (Key × D)} {C : CL}, OwnK K F v d C → (∀ x ∈ C, F' x.1 = some x.2) → DnK K F' v (D.frzK d)
  | _, _, _, .nil, _ => .nil
  | _, _, _, .cons h t, c => .cons (Own.frz l h fun x hx => c x (List.mem_append_left _ hx)) (OwnK.frz l t fun x hx => c x (List.mem_append_right _ hx))
end
theorem Own.fz {v : V} {d : D} {C : CL} (h : Own K F v d C) (z : d.isFz = true) : C = [] ∧ Dn K F v d := by
  cases h with
  | z h => exact ⟨rfl, h⟩
  | lst h => simp [D.isFz] at z
  | tup h => simp [D.isFz] at z
  | dct h => simp [D.isFz] at z
mutual
theorem Own.full {F' : Hp} : ∀ {v : V} {d : D} {C : CL}, Own K F v d C → d.full = true → Own K F' v d C
  | _, _, _, .z .non, _ => .z .non
  | _, _, _, .z (.bl b), _ => .z (.bl b)
  | _, _, _, .z (.int b), _ => .z (.int b)
  | _, _, _, .z (.str b), _ => .z (.str b)
  | _, _, _, .z (.ty b), _ => .z (.ty b)
  | _, _, _, .z (.lst s h), f => by simp [D.full] at f
  | _, _, _, .z (.tup s h), f => by simp [D.full] at f
  | _, _, _, .z (.dct s h), f => by simp [D.full] at f
  | _, _, _, .lst h, f => .lst (OwnL.full h (by simpa [D.full] using f))
  | _, _, _, .tup h, f => .tup (OwnL.full h (by simpa [D.full] using f))
  | _, _, _, .dct h, f => .dct (OwnK.full h (by simpa [D.full] using f))
theorem OwnL.full {F' : Hp} : ∀ {v : List V} {d : List D} {C : CL}, OwnL K F v d C → D.fullL d = true → OwnL K F' v d C
  | _, _, _, .nil, _ => .nil
  | _, _, _, .cons h t, f => by
    rw [D.fullL, Bool.and_eq_true] at f
    exact .cons (Own.full h f.1) (OwnL.full t f.2)
theorem OwnK.full {F' : Hp} : ∀ {v : List (Key × V)} {d : List (Key × D)} {C : CL}, OwnK K F v d C → D.fullK d = true → OwnK K F' v d C
  | _, _, _, .nil, _ => .nil
  | _, _, _, .cons h t, f => by
    rw [D.fullK, Bool.and_eq_true] at f
    exact .cons (Own.full h f.1) (OwnK.full t f.2)
end
end
end DL
set_option Elab.async false
set_option linter.all false
set_option maxRecDepth 100000
set_option maxHeartbeats 2000000
set_option exponentiation.threshold 600
/-! slots, judgements by data, expressions -/
namespace DL
open PySem PySem.Spec PyProof.Rows L2 LB
/-- a slot: nothing known, a value, a parameter that is changed in place -/
inductive Sl where
  | no | va (d : D) | pn (d : D)
abbrev S := List Sl
abbrev M (α : Type) := S → Option (α × S)
inductive Slots (K : PySem.W.Frag) (F : Hp) : L2.St → L2.St → S → CL → Prop
  | nil : Slots K F [] [] [] []
  | no {x y : Option V} {σ p : L2.St} {s : S} {C : CL} : Slots K F σ p s C → Slots K F (x :: σ) (y :: p) (.no :: s) C
  | va {v : V} {d : D} {y : Option V} {σ p : L2.St} {s : S} {C1 C : CL} : Own K F v d C1 → Slots K F σ p s C → Slots K F (some v :: σ) (y :: p) (.va d :: s) (C1 ++ C)
  | pn {v : V} {d : D} {σ p : L2.St} {s : S} {C1 C : CL} : Own K F v d C1 → Slots K F σ p s C → Slots K F (some v :: σ) (some v :: p) (.pn d :: s) (C1 ++ C)
section
variable {K : PySem.W.Frag} {F F' : Hp} {σ p : L2.St} {s : S} {C C1 : CL} {i : Nat} {d : D} {v : V}
theorem Slots.mono (h : Slots K F σ p s C) (l : Le F F') : Slots K F' σ p s C := by
  induction h with
  | nil => exact .nil
  | no _ ih => exact .no ih
  | va o _ ih => exact .va (o.mono l) ih
  | pn o _ ih => exact .pn (o.mono l) ih
theorem Slots.len (h : Slots K F σ p s C) : σ.length = s.length ∧ p.length = s.length := by
  induction h with
  | nil => exact ⟨rfl, rfl⟩
  | no _ ih => simp [ih]
  | va _ _ ih => simp [ih]
  | pn _ _ ih => simp [ih]
theorem Slots.takeV (h : Slots K F σ p s C) : ∀ {i : Nat}, s[i]? = some (.va d) → ∃ v C1 C2, σ[i]? = some (some v) ∧ Own K F v d C1 ∧ Slots K F σ p (s.set i .no) C2 ∧ ∀ x, cn x C = cn x C1 + cn x C2 := by
  induction h with
  | nil => intro i e; simp at e
  | no h ih =>
    intro i e
    cases i with
    | zero => simp at e
    | succ i =>
      obtain ⟨v, C1, C2, h1, h2, h3, h4⟩ := ih (i := i) (by simpa using e)
      exact ⟨v, C1, C2, by simpa using h1, h2, .no h3, h4⟩
  | @va v' d' y σ p s D1 Cr o h ih =>
    intro i e
    cases i with
    | zero =>
      simp at e; subst e
      exact ⟨v', D1, Cr, rfl, o, .no h, fun x => cn_append x _ _⟩
    | succ i =>
      obtain ⟨v, C1, C2, h1, h2, h3, h4⟩ := ih (i := i) (by simpa using e)
      exact ⟨v, C1, D1 ++ C2, by simpa using h1, h2, .va o h3, fun x => by rw [cn_append, cn_append, h4]; omega⟩
  | @pn v' d' σ p s D1 Cr o h ih =>
    intro i e
    cases i with
    | zero => simp at e
    | succ i =>
      obtain ⟨v, C1, C2, h1, h2, h3, h4⟩ := ih (i := i) (by simpa using e)
      exact ⟨v, C1, D1 ++ C2, by simpa using h1, h2, .pn o h3, fun x => by rw [cn_append, cn_append, h4]; omega⟩
theorem Slots.takeP (h : Slots K F σ p s C) : ∀ {i : Nat}, s[i]? = some (.pn d) → ∃ v C1 C2, σ[i]? = some (some v) ∧ p[i]? = some (some v) ∧ Own K F v d C1 ∧ Slots K F σ p (s.set i .no) C2 ∧ ∀ x, cn x C = cn x C1 + cn x C2 := by
  induction h with
  | nil => intro i e; simp at e
  | no h ih =>
    intro i e
    cases i with
    | zero => simp at e
    | succ i =>
      obtain ⟨v, C1, C2, h1, h0, h2, h3, h4⟩ := ih (i := i) (by simpa using e)
      exact ⟨v, C1, C2, by simpa using h1, by simpa using h0, h2, .no h3, h4⟩
  | @va v' d' y σ p s D1 Cr o h ih =>
    intro i e
    cases i with
    | zero => simp at e
    | succ i =>
      obtain ⟨v, C1, C2, h1, h0, h2, h3, h4⟩ := ih (i := i) (by simpa using e)
      exact ⟨v, C1, D1 ++ C2, by simpa using h1, by simpa using h0, h2, .va o h3, fun x => by rw [cn_append, cn_append, h4]; omega⟩
  | @pn v' d' σ p s D1 Cr o h ih =>
    intro i e
    cases i with
    | zero =>
      simp at e; subst e
      exact ⟨v', D1, Cr, rfl, rfl, o, .no h, fun x => cn_append x _ _⟩
    | succ i =>
      obtain ⟨v, C1, C2, h1, h0, h2, h3, h4⟩ := ih (i := i) (by simpa using e)
      exact ⟨v, C1, D1 ++ C2, by simpa using h1, by simpa using h0, h2, .pn o h3, fun x => by rw [cn_append, cn_append, h4]; omega⟩
theorem Slots.giveV (h : Slots K F σ p s C) (o : Own K F v d C1) : ∀ {i : Nat}, s[i]? = some .no → σ[i]? = some (some v) → ∃ C', Slots K F σ p (s.set i (.va d)) C' ∧ ∀ x, cn x C' = cn x C1 + cn x C := by
  induction h with
  | nil => intro i e; simp at e
  | @no x y σ p s Cr h ih =>
    intro i e q
    cases i with
    | zero => simp at q; subst q; exact ⟨_, .va o h, fun x => cn_append x _ _⟩
    | succ i =>
      obtain ⟨C', h1, h2⟩ := ih (i := i) (by simpa using e) (by simpa using q)
      exact ⟨C', .no h1, h2⟩
  | @va v' d' y σ p s D1 Cr o' h ih =>
    intro i e q
    cases i with
    | zero => simp at e
    | succ i =>
      obtain ⟨C', h1, h2⟩ := ih (i := i) (by simpa using e) (by simpa using q)
      exact ⟨D1 ++ C', .va o' h1, fun x => by rw [cn_append, cn_append, h2]; omega⟩
  | @pn v' d' σ p s D1 Cr o' h ih =>
    intro i e q
    cases i with
    | zero => simp at e
    | succ i =>
      obtain ⟨C', h1, h2⟩ := ih (i := i) (by simpa using e) (by simpa using q)
      exact ⟨D1 ++ C', .pn o' h1, fun x => by rw [cn_append, cn_append, h2]; omega⟩
theorem Slots.giveP (h : Slots K F σ p s C) (o : Own K F v d C1) : ∀ {i : Nat}, s[i]? = some .no → σ[i]? = some (some v) → p[i]? = some (some v) → ∃ C', Slots K F σ p (s.set i (.pn d)) C' ∧ ∀ x, cn x C' = cn x C1 + cn x C := by
  induction h with
  | nil => intro i e; simp at e
  | @no x y σ p s Cr h ih =>
    intro i e q r
    cases i with
    | zero => simp at q r; subst q; subst r; exact ⟨_, .pn o h, fun x => cn_append x _ _⟩
    | succ i =>
      obtain ⟨C', h1, h2⟩ := ih (i := i) (by simpa using e) (by simpa using q) (by simpa using r)
      exact ⟨C', .no h1, h2⟩
  | @va v' d' y σ p s D1 Cr o' h ih =>
    intro i e q r
    cases i with
    | zero => simp at e
    | succ i =>
      obtain ⟨C', h1, h2⟩ := ih (i := i) (by simpa using e) (by simpa using q) (by simpa using r)
      exact ⟨D1 ++ C', .va o' h1, fun x => by rw [cn_append, cn_append, h2]; omega⟩
  | @pn v' d' σ p s D1 Cr o' h ih =>
    intro i e q r
    cases i with
    | zero => simp at e
    | succ i =>
      obtain ⟨C', h1, h2⟩ := ih (i := i) (by simpa using e) (by simpa using q) (by simpa using r)
      exact ⟨D1 ++ C', .pn o' h1, fun x => by rw [cn_append, cn_append, h2]; omega⟩
theorem Slots.chg {x : Option V} (h : Slots K F σ p s C) : ∀ {i : Nat}, s[i]? = some .no → Slots K F (σ.set i x) p s C := by
  induction h with
  | nil => intro i e; simp at e
  | no h ih =>
    intro i e
    cases i with
    | zero => exact .no h
    | succ i => exact .no (ih (i := i) (by simpa using e))
  | va o h ih =>
    intro i e
    cases i with
    | zero => simp at e
    | succ i => exact .va o (ih (i := i) (by simpa using e))
  | pn o h ih =>
    intro i e
    cases i with
    | zero => simp at e
    | succ i => exact .pn o (ih (i := i) (by simpa using e))
theorem Slots.forget (h : Slots K F σ p s C) : ∀ (i : Nat), ∃ C', Slots K F σ p (s.set i .no) C' ∧ ∀ x, cn x C' ≤ cn x C := by
  induction h with
  | nil => intro i; exact ⟨[], .nil, fun x => Nat.le_refl _⟩
  | no h ih =>
    intro i
    cases i with
    | zero => exact ⟨_, .no h, fun x => Nat.le_refl _⟩
    | succ i => obtain ⟨C', h1, h2⟩ := ih i; exact ⟨C', .no h1, h2⟩
  | @va v' d' y σ p s D1 Cr o h ih =>
    intro i
    cases i with
    | zero => exact ⟨_, .no h, fun x => by rw [cn_append]; omega⟩
    | succ i => obtain ⟨C', h1, h2⟩ := ih i; exact ⟨D1 ++ C', .va o h1, fun x => by rw [cn_append, cn_append]; have := h2 x; omega⟩
  | @pn v' d' σ p s D1 Cr o h ih =>
    intro i
    cases i with
    | zero => exact ⟨_, .no h, fun x => by rw [cn_append]; omega⟩
    | succ i => obtain ⟨C', h1, h2⟩ := ih i; exact ⟨D1 ++ C', .pn o h1, fun x => by rw [cn_append, cn_append]; have := h2 x; omega⟩
end

def Rel (K : PySem.W.Frag) (p : L2.St) (F : Hp) (R : CL) (σ : L2.St) (H : Hp) (s : S) : Prop := ∃ C, Slots K F σ p s C ∧ HA F (C ++ R) H
section
variable {K : PySem.W.Frag} {F F' : Hp} {σ p : L2.St} {s : S} {R R' : CL} {H : Hp}
theorem Rel.sub (h : Rel K p F R σ H s) (q : ∀ x, cn x R' ≤ cn x R) : Rel K p F R' σ H s := by
  obtain ⟨C, h1, h2⟩ := h
  exact ⟨C, h1, h2.sub fun x => by rw [cn_append, cn_append]; have := q x; omega⟩
theorem Rel.ha (h : Rel K p F R σ H s) : ∃ C, HA F (C ++ R) H := let ⟨C, _, q⟩ := h; ⟨C, q⟩
/-- new heaps that keep the owned cells -/
theorem Rel.on {H' : Hp} (h : Rel K p F R σ H s) (l : Le F F') (q : ∀ C, HA F (C ++ R) H → HA F' (C ++ R') H') : Rel K p F' R' σ H' s := by
  obtain ⟨C, h1, h2⟩ := h
  exact ⟨C, h1.mono l, q C h2⟩
end
/-! ### judgements -/
section
variable (K : PySem.W.Frag)
def tF (fe : M D) : TE := fun σ H Q => ∃ p F R s r s', Rel K p F R σ H s ∧ fe s = some (r, s') ∧ ∀ v H' F' C, Le F F' → Own K F' v r C → Rel K p F' (C ++ R) σ H' s' → Q v H'
def tFT (fe : M Bool) : TT := fun σ H Q => ∃ p F R s r s', Rel K p F R σ H s ∧ fe s = some (r, s') ∧ ∀ H' F', Le F F' → Rel K p F' R σ H' s' → Q r H'
/-- an argument: data, or a slot's own object -/
abbrev AR := Sum D Nat
inductive OwnA (F : Hp) (σ : L2.St) : List V → List AR → CL → Prop
  | nil : OwnA F σ [] [] []
  | d {v : V} {vs : List V} {d : D} {ds : List AR} {C1 C2 : CL} : Own K F v d C1 → OwnA F σ vs ds C2 → OwnA F σ (v :: vs) (.inl d :: ds) (C1 ++ C2)
  | io {v : V} {vs : List V} {i : Nat} {ds : List AR} {C2 : CL} : σ[i]? = some (some v) → OwnA F σ vs ds C2 → OwnA F σ (v :: vs) (.inr i :: ds) C2
def tFA (fas : M (List AR)) : TA := fun σ H Q => ∃ p F R s as s', Rel K p F R σ H s ∧ fas s = some (as, s') ∧ ∀ vs H' F' C, Le F F' → OwnA K F' σ vs as C → Rel K p F' (C ++ R) σ H' s' → Q vs H'
end
section
variable {K : PySem.W.Frag} {F F' : Hp} {σ : L2.St}
theorem OwnA.mono (l : Le F F') {vs : List V} {as : List AR} {C : CL} (h : OwnA K F σ vs as C) : OwnA K F' σ vs as C := by
  induction h with
  | nil => exact .nil
  | d o _ ih => exact .d (o.mono l) ih
  | io e _ ih => exact .io e ih
/-- all arguments are data -/
def ARall : List AR → Option (List D)
  | [] => some []
  | .inl d :: r => (ARall r).map fun ds => d :: ds
  | .inr _ :: _ => none
theorem OwnA.all {vs : List V} {as : List AR} {C : CL} (h : OwnA K F σ vs as C) : ∀ {ds : List D}, ARall as = some ds → OwnL K F vs ds C := by
  induction h with
  | nil => intro ds e; cases e; exact .nil
  | d o _ ih =>
    intro ds e
    rw [ARall, Option.map_eq_some_iff] at e
    obtain ⟨r, e1, rfl⟩ := e
    exact .cons o (ih e1)
  | io e _ ih => intro ds e; cases e
theorem OwnL.length {vs : List V} {ds : List D} {C : CL} (h : OwnL K F vs ds C) : vs.length = ds.length := by
  induction ds generalizing vs C with
  | nil => cases h; rfl
  | cons d ds ih => cases h with | cons _ t => simp [ih t]
theorem DnL.length {vs : List V} {ds : List D} (h : DnL K F vs ds) : vs.length = ds.length := by
  induction ds generalizing vs with
  | nil => cases h; rfl
  | cons d ds ih => cases h with | cons _ t => simp [ih t]
theorem OwnL.of {vs : List V} {ds : List D} (h : DnL K F vs ds) : OwnL K F vs ds [] := by
  induction ds generalizing vs with
  | nil => cases h; exact .nil
  | cons d ds ih => cases h with | cons q t => exact .cons (C1 := []) (.z q) (ih t)
theorem OwnL.append {vs ws : List V} {ds es : List D} {C C' : CL} (h : OwnL K F vs ds C) (k : OwnL K F ws es C') : OwnL K F (vs ++ ws) (ds ++ es) (C ++ C') := by
  induction ds generalizing vs C with
  | nil => cases h; exact k
  | cons d ds ih =>
    cases h with
    | cons q t =>
      rw [List.append_assoc]
      exact .cons q (ih t)
theorem OwnL.mk : True := trivial
theorem OwnL.get {vs : List V} {ds : List D} {C : CL} (h : OwnL K F vs ds C) : ∀ {i : Nat} {d : D}, ds[i]? = some d → ∃ v C1, vs[i]? = some v ∧ Own K F v d C1 ∧ ∀ x, cn x C1 ≤ cn x C := by
  induction ds generalizing vs C with
  | nil => intro i d e; simp at e
  | cons d0 ds ih =>
    intro i d e
    cases h with
    | @cons v vs _ _ C1 C2 q t =>
      cases i with
      | zero => simp at e; subst e; exact ⟨v, C1, rfl, q, fun x => by rw [cn_append]; omega⟩
      | succ i =>
        obtain ⟨w, C', h1, h2, h3⟩ := ih t (by simpa using e)
        exact ⟨w, C', by simpa using h1, h2, fun x => by rw [cn_append]; have := h3 x; omega⟩
theorem OwnL.drop {vs : List V} {ds : List D} {C : CL} (h : OwnL K F vs ds C) (n : Nat) : ∃ C', OwnL K F (vs.drop n) (ds.drop n) C' ∧ ∀ x, cn x C' ≤ cn x C := by
  induction ds generalizing vs C n with
  | nil => cases h; exact ⟨[], by simpa using OwnL.nil, fun x => Nat.le_refl _⟩
  | cons d ds ih =>
    cases h with
    | @cons v vs _ _ C1 C2 q t =>
      cases n with
      | zero => exact ⟨_, .cons q t, fun x => Nat.le_refl _⟩
      | succ n => obtain ⟨C', h1, h2⟩ := ih t n; exact ⟨C', by simpa using h1, fun x => by rw [cn_append]; have := h2 x; omega⟩
theorem OwnL.take {vs : List V} {ds : List D} {C : CL} (h : OwnL K F vs ds C) (n : Nat) : ∃ C', OwnL K F (vs.take n) (ds.take n) C' ∧ ∀ x, cn x C' ≤ cn x C := by
  induction ds generalizing vs C n with
  | nil => cases h; exact ⟨[], by simpa using OwnL.nil, fun x => Nat.le_refl _⟩
  | cons d ds ih =>
    cases h with
    | @cons v vs _ _ C1 C2 q t =>
      cases n with
      | zero => exact ⟨[], by simpa using OwnL.nil, fun x => by rw [cn_nil]; omega⟩
      | succ n =>
        obtain ⟨C', h1, h2⟩ := ih t n
        exact ⟨C1 ++ C', by simpa using OwnL.cons q h1, fun x => by rw [cn_append, cn_append]; have := h2 x; omega⟩
theorem OwnL.rev {vs : List V} {ds : List D} {C : CL} (h : OwnL K F vs ds C) : ∃ C', OwnL K F vs.reverse ds.reverse C' ∧ ∀ x, cn x C' = cn x C := by
  induction ds generalizing vs C with
  | nil => cases h; exact ⟨[], .nil, fun x => rfl⟩
  | cons d ds ih =>
    cases h with
    | @cons v vs _ _ C1 C2 q t =>
      obtain ⟨C', h1, h2⟩ := ih t
      refine ⟨C' ++ (C1 ++ []), ?_, fun x => ?_⟩
      · rw [List.reverse_cons, List.reverse_cons]; exact h1.append (.cons q .nil)
      · rw [cn_append, cn_append, cn_append, h2, cn_nil]; omega
/-- a list to be read -/
theorem Own.seqL {v : V} {o : Bool} {ds : List D} {C : CL} {U : CL} {H : Hp} (h : Own K F v (.lst o ds) C) (a : HA F (C ++ U) H) : ∃ b xs C1, v = .ref b ∧ SqX K H b xs ∧ OwnL K F xs ds C1 ∧ ∀ x, cn x C1 ≤ cn x C := by
  cases h with
  | z h =>
    cases h with
    | lst s t => exact ⟨_, _, [], rfl, sqX_mono a.fr s, .of t, fun x => Nat.le_refl _⟩
  | lst t => exact ⟨_, _, _, rfl, .inl (.inl (a.ow _ List.mem_cons_self).1), t, fun x => by rw [cn_cons]; omega⟩
theorem Own.seqT {v : V} {o : Bool} {ds : List D} {C : CL} {U : CL} {H : Hp} (h : Own K F v (.tup o ds) C) (a : HA F (C ++ U) H) : ∃ b xs C1, v = .ref b ∧ SqT K H b xs ∧ OwnL K F xs ds C1 ∧ ∀ x, cn x C1 ≤ cn x C := by
  cases h with
  | z h =>
    cases h with
    | tup s t => exact ⟨_, _, [], rfl, sqT_mono a.fr s, .of t, fun x => Nat.le_refl _⟩
  | tup t => exact ⟨_, _, _, rfl, .inl (.inl (a.ow _ List.mem_cons_self).1), t, fun x => by rw [cn_cons]; omega⟩
end

/-! ### expressions -/
def fC (d : D) : M D := fun s => some (d, s)
def Sl.get : Option Sl → Option D
  | some (.va d) => if d.isFz then some d else none
  | some (.pn d) => if d.isFz then some d else none
  | _ => none
def fV (i : Nat) : M D := fun s => (Sl.get s[i]?).map fun d => (d, s)
/-- the slot's value, handed over -/
def fMv (i : Nat) : M D := fun s => match s[i]? with
  | some (.va d) => some (d, s.set i .no)
  | _ => none
def fOp (g : D → D → Option D) (fa fb : M D) : M D := fun s => (fa s).bind fun x => (fb x.2).bind fun y => (g x.1 y.1).map fun z => (z, y.2)
def fUn (g : D → Option D) (fa : M D) : M D := fun s => (fa s).bind fun x => (g x.1).map fun z => (z, x.2)
def OpD (K : PySem.W.Frag) (r : R2) (g : D → D → Option D) : Prop := ∀ {F : Hp} {U C1 C2 : CL} {H : Hp} {x y : V} {d e z : D} {Q : VK}, g d e = some z → Own K F x d C1 → Own K F y e C2 → HA F (C1 ++ (C2 ++ U)) H →
  (∀ v H' F' C, Le F F' → Own K F' v z C → HA F' (C ++ U) H' → Q v H') → r x y H Q
def UnD (K : PySem.W.Frag) (r : V → Hp → VK → Prop) (g : D → Option D) : Prop := ∀ {F : Hp} {U C1 : CL} {H : Hp} {x : V} {d z : D} {Q : VK}, g d = some z → Own K F x d C1 → HA F (C1 ++ U) H →
  (∀ v H' F' C, Le F F' → Own K F' v z C → HA F' (C ++ U) H' → Q v H') → r x H Q
def CallD (K : PySem.W.Frag) (r : List V → Hp → VK → Prop) (g : List D → Option D) : Prop := ∀ {F : Hp} {U C1 : CL} {H : Hp} {xs : List V} {ds : List D} {z : D} {Q : VK}, g ds = some z → OwnL K F xs ds C1 → HA F (C1 ++ U) H →
  (∀ v H' F' C, Le F F' → Own K F' v z C → HA F' (C ++ U) H' → Q v H') → r xs H Q
section
variable {X : Cx} {K : PySem.W.Frag} {e a b : Expr} {fe fa fb : M D} {pos : Pos}
theorem tF_c {v : V} {d : D} (hd : ∀ F, Dn K F v d) {σ : L2.St} {H : Hp} {Q : VK} (h : tF K (fC d) σ H Q) : Q v H := by
  obtain ⟨p, F, R, s, r, s', hr, e, k⟩ := h
  cases e
  exact k v H F [] .refl (.z (hd F)) hr
theorem e_c {v : V} {d : D} (h : PE X e (tC v)) (hd : ∀ F, Dn K F v d) : PE X e (tF K (fC d)) := pe_same h fun _ _ _ z => tF_c hd z
theorem e_var {i : Nat} (h : PE X e (tVar i)) : PE X e (tF K (fV i)) := pe_same h fun σ H Q z => by
  obtain ⟨p, F, R, s, r, s', hr, e, k⟩ := z
  unfold fV at e
  rw [Option.map_eq_some_iff] at e
  obtain ⟨d, e1, e2⟩ := e
  cases e2
  obtain ⟨C, hs, ha⟩ := hr
  have main : ∀ sl, s[i]? = some sl → Sl.get (some sl) = some r → ∃ v, σ[i]? = some (some v) ∧ Dn K F v r := by
    intro sl q q2
    cases sl with
    | no => cases q2
    | va d =>
      change (if d.isFz = true then some d else none) = some r at q2
      split at q2
      · rename_i z; cases q2
        obtain ⟨v, C1, C2, h1, h2, _⟩ := hs.takeV q
        exact ⟨v, h1, (h2.fz z).2⟩
      · cases q2
    | pn d =>
      change (if d.isFz = true then some d else none) = some r at q2
      split at q2
      · rename_i z; cases q2
        obtain ⟨v, C1, C2, h1, _, h2, _⟩ := hs.takeP q
        exact ⟨v, h1, (h2.fz z).2⟩
      · cases q2
  cases q : s[i]? with
  | none => rw [q] at e1; cases e1
  | some sl =>
    obtain ⟨v, h1, h2⟩ := main sl q (q ▸ e1)
    exact ⟨v, h1, k v H F [] .refl (.z h2) ⟨C, hs, ha⟩⟩
theorem e_mv {i : Nat} (h : PE X e (tVar i)) : PE X e (tF K (fMv i)) := pe_same h fun σ H Q z => by
  obtain ⟨p, F, R, s, r, s', hr, e, k⟩ := z
  unfold fMv at e
  split at e
  · rename_i d q
    cases e
    obtain ⟨C, hs, ha⟩ := hr
    obtain ⟨v, C1, C2, h1, h2, h3, h4⟩ := hs.takeV q
    refine ⟨v, h1, k v H F C1 .refl h2 ⟨C2, h3, ha.sub fun x => ?_⟩⟩
    simp only [cn_append, h4]; omega
  · cases e
theorem tF_op {r : R2} {g : D → D → Option D} (hg : OpD K r g) {σ : L2.St} {H : Hp} {Q : VK} (z : tF K (fOp g fa fb) σ H Q) : tOp r (tF K fa) (tF K fb) σ H Q := by
    obtain ⟨p, F, R, s, r, s', hr, e, k⟩ := z
    unfold fOp at e
    obtain ⟨x, ex, e⟩ := Option.bind_eq_some_iff.mp e
    obtain ⟨y, ey, e⟩ := Option.bind_eq_some_iff.mp e
    obtain ⟨z, ez, e⟩ := Option.map_eq_some_iff.mp e
    cases e
    refine ⟨p, F, R, s, x.1, x.2, hr, ex, fun v1 H1 F1 C1 l1 o1 r1 => ?_⟩
    refine ⟨p, F1, C1 ++ R, x.2, y.1, y.2, r1, ey, fun v2 H2 F2 C2 l2 o2 r2 => ?_⟩
    obtain ⟨C, hs, ha⟩ := r2
    refine hg (U := C ++ R) ez (o1.mono l2) o2 (ha.sub fun x => by simp only [cn_append]; omega) fun v H' F' C' l o h => ?_
    exact k v H' F' C' (l1.trans (l2.trans l)) o ⟨C, hs.mono l, h.sub fun x => by simp only [cn_append]; omega⟩
theorem e_op {op : Operator} {r : R2} {g : D → D → Option D} (ho : OpR X (binaryOp op) r) (hg : OpD K r g) (ha : PE X a (tF K fa)) (hb : PE X b (tF K fb)) : PE X (.BinOp a op b pos) (tF K (fOp g fa fb)) :=
  pe_same (pe_op ho ha hb) fun σ H Q z => tF_op hg z
theorem e_cmp {op : CmpOp} {r : R2} {g : D → D → Option D} (ho : OpR X (compareOp op) r) (hg : OpD K r g) (ha : PE X a (tF K fa)) (hb : PE X b (tF K fb)) (hm : behindInMarks op b = false) : PE X (.Compare a [op] [b] pos) (tF K (fOp g fa fb)) :=
  pe_same (pe_cmpR ho ha hb hm) fun σ H Q z => tF_op hg z
theorem e_ix {r : R2} {g : D → D → Option D} (ho : IxR X r) (hg : OpD K r g) (ha : PE X a (tF K fa)) (hb : PE X b (tF K fb)) (hs : PlainIx b) : PE X (.Subscript a b pos) (tF K (fOp g fa fb)) :=
  pe_same (pe_ix ho ha hb hs) fun σ H Q z => tF_op hg z
theorem e_un {op : UnaryOp} {r : V → Hp → VK → Prop} {g : D → Option D} (ho : UnR X (unaryOp op) r) (hg : UnD K r g) (ha : PE X a (tF K fa)) : PE X (.UnaryOp op a pos) (tF K (fUn g fa)) :=
  pe_same (pe_un ho ha) fun σ H Q z => by
    obtain ⟨p, F, R, s, r, s', hr, e, k⟩ := z
    unfold fUn at e
    obtain ⟨x, ex, e⟩ := Option.bind_eq_some_iff.mp e
    obtain ⟨z, ez, e⟩ := Option.map_eq_some_iff.mp e
    cases e
    refine ⟨p, F, R, s, x.1, x.2, hr, ex, fun v1 H1 F1 C1 l1 o1 r1 => ?_⟩
    obtain ⟨C, hs, ha⟩ := r1
    refine hg (U := C ++ R) ez o1 (ha.sub fun x => by simp only [cn_append]; omega) fun v H' F' C' l o h => ?_
    exact k v H' F' C' (l1.trans l) o ⟨C, hs.mono l, h.sub fun x => by simp only [cn_append]; omega⟩
/-! tests, and, or, not -/
def asB : D → Option Bool
  | .bl b => some b
  | _ => none
theorem asB_some {d : D} {b : Bool} (h : asB d = some b) : d = .bl b := by
  cases d <;> simp [asB] at h
  rw [h]
def fT (fe : M D) : M Bool := fun s => (fe s).bind fun x => (asB x.1).map fun b => (b, x.2)
theorem own_bl {F : Hp} {v : V} {b : Bool} {C : CL} (h : Own K F v (.bl b) C) : v = .bl b ∧ C = [] := by
  cases h with
  | z h => cases h; exact ⟨rfl, rfl⟩
theorem own_int {F : Hp} {v : V} {b : Int} {C : CL} (h : Own K F v (.int b) C) : v = .int b ∧ C = [] := by
  cases h with
  | z h => cases h; exact ⟨rfl, rfl⟩
theorem own_str {F : Hp} {v : V} {b : Str} {C : CL} (h : Own K F v (.str b) C) : v = .str b ∧ C = [] := by
  cases h with
  | z h => cases h; exact ⟨rfl, rfl⟩
theorem own_non {F : Hp} {v : V} {C : CL} (h : Own K F v .non C) : v = .non ∧ C = [] := by
  cases h with
  | z h => cases h; exact ⟨rfl, rfl⟩
theorem e_test (ha : PE X a (tF K fa)) (he : ∀ whole, isTrue a X.env whole = (do let v ← whole; standAt a.pos; holding [v] (truthy v)) := by intro _; rfl) : PT X a (tFT K (fT fa)) := by
  have h := pt_val ha he
  constructor
  intro pins s0 σ H Q I z
  refine h.run pins s0 σ H Q I ?_
  obtain ⟨p, F, R, s, r, s', hr, e, k⟩ := z
  unfold fT at e
  obtain ⟨x, ex, e⟩ := Option.bind_eq_some_iff.mp e
  obtain ⟨z, ez, e⟩ := Option.map_eq_some_iff.mp e
  cases e
  refine ⟨p, F, R, s, x.1, x.2, hr, ex, fun v1 H1 F1 C1 l1 o1 r1 => ?_⟩
  rw [asB_some ez] at o1
  obtain ⟨rfl, rfl⟩ := own_bl o1
  exact ⟨_, rfl, k H1 F1 l1 r1⟩
theorem tF_test {te : TE} {fe : M D} (h : ∀ σ H Q, tF K fe σ H Q → te σ H Q) {σ : L2.St} {H : Hp} {Q : Bool → Hp → Prop} (z : tFT K (fT fe) σ H Q) : tTest te σ H Q := by
  obtain ⟨p, F, R, s, r, s', hr, e, k⟩ := z
  unfold fT at e
  obtain ⟨x, ex, e⟩ := Option.bind_eq_some_iff.mp e
  obtain ⟨z, ez, e⟩ := Option.map_eq_some_iff.mp e
  cases e
  refine h _ _ _ ⟨p, F, R, s, x.1, x.2, hr, ex, fun v1 H1 F1 C1 l1 o1 r1 => ?_⟩
  rw [asB_some ez] at o1
  obtain ⟨rfl, rfl⟩ := own_bl o1
  exact ⟨_, rfl, k H1 F1 l1 r1⟩
theorem pt_same {c : Expr} {t t' : TT} (h : PT X c t) (q : ∀ σ H Q, t' σ H Q → t σ H Q) : PT X c t' := ⟨fun pins s σ H Q I z => h.run pins s σ H Q I (q _ _ _ z)⟩
theorem pw_same {c : Expr} {t t' : TT} (h : PW X c t) (q : ∀ σ H Q, t' σ H Q → t σ H Q) : PW X c t' := ⟨fun w pins s σ H Q I z => h.run w pins s σ H Q I (q _ _ _ z)⟩
theorem t_cmp {op : CmpOp} {r : R2} {g : D → D → Option D} (ho : OpR X (compareOp op) r) (hg : OpD K r g) (ha : PE X a (tF K fa)) (hb : PE X b (tF K fb)) (hm : behindInMarks op b = false) : PT X (.Compare a [op] [b] pos) (tFT K (fT (fOp g fa fb))) :=
  pt_same (pt_cmpR ho ha hb hm) fun σ H Q z => tF_test (fun _ _ _ z => tF_op hg z) z
def fAnd (f g : M Bool) : M Bool := fun s => (f s).bind fun x => if x.1 = true then g x.2 else some (false, x.2)
def fOr (f g : M Bool) : M Bool := fun s => (f s).bind fun x => if x.1 = true then some (true, x.2) else g x.2
def fNot (f : M Bool) : M Bool := fun s => (f s).map fun x => (!x.1, x.2)
variable {ft gt : M Bool} {rest : List Expr}
theorem t_and (ha : PT X a (tFT K ft)) (hb : PW X (.BoolOp .And (b :: rest) pos) (tFT K gt)) : PW X (.BoolOp .And (a :: b :: rest) pos) (tFT K (fAnd ft gt)) :=
  pw_same (pw_and ha hb) fun σ H Q z => by
    obtain ⟨p, F, R, s, r, s', hr, e, k⟩ := z
    obtain ⟨x, ex, e⟩ := Option.bind_eq_some_iff.mp e
    refine ⟨p, F, R, s, x.1, x.2, hr, ex, fun H1 F1 l1 r1 => ?_⟩
    split at e
    · rename_i q
      rw [if_pos q]
      exact ⟨p, F1, R, _, _, _, r1, e, fun H2 F2 l2 r2 => k H2 F2 (l1.trans l2) r2⟩
    · rename_i q
      rw [if_neg q]
      cases e
      exact k H1 F1 l1 r1
theorem t_or (ha : PT X a (tFT K ft)) (hb : PW X (.BoolOp .Or (b :: rest) pos) (tFT K gt)) : PW X (.BoolOp .Or (a :: b :: rest) pos) (tFT K (fOr ft gt)) :=
  pw_same (pw_or ha hb) fun σ H Q z => by
    obtain ⟨p, F, R, s, r, s', hr, e, k⟩ := z
    obtain ⟨x, ex, e⟩ := Option.bind_eq_some_iff.mp e
    refine ⟨p, F, R, s, x.1, x.2, hr, ex, fun H1 F1 l1 r1 => ?_⟩
    split at e
    · rename_i q
      rw [if_pos q]
      cases e
      exact k H1 F1 l1 r1
    · rename_i q
      rw [if_neg q]
      exact ⟨p, F1, R, _, _, _, r1, e, fun H2 F2 l2 r2 => k H2 F2 (l1.trans l2) r2⟩
theorem t_not (ha : PT X a (tFT K ft)) : PT X (.UnaryOp .Not a pos) (tFT K (fNot ft)) := pt_same (pt_not ha) fun σ H Q z => by
  obtain ⟨p, F, R, s, r, s', hr, e, k⟩ := z
  obtain ⟨x, ex, e⟩ := Option.map_eq_some_iff.mp e
  cases e
  exact ⟨p, F, R, s, x.1, x.2, hr, ex, fun H1 F1 l1 r1 => k H1 F1 l1 r1⟩
/-- a test's value -/
def fB (f : M Bool) : M D := fun s => (f s).map fun x => (.bl x.1, x.2)
def fAndV (f g : M D) : M D := fun s => (f s).bind fun x => (asB x.1).bind fun c => if c = true then g x.2 else some (.bl false, x.2)
def fOrV (f g : M D) : M D := fun s => (f s).bind fun x => (asB x.1).bind fun c => if c = true then some (.bl true, x.2) else g x.2
def fNotV (f : M D) : M D := fun s => (f s).bind fun x => (asB x.1).map fun c => (.bl !c, x.2)
theorem e_and (ha : PE X a (tF K fa)) (hb : PE X (.BoolOp .And (b :: rest) pos) (tF K fb)) : PE X (.BoolOp .And (a :: b :: rest) pos) (tF K (fAndV fa fb)) :=
  pe_same (pe_and ha hb) fun σ H Q z => by
    obtain ⟨p, F, R, s, r, s', hr, e, k⟩ := z
    obtain ⟨x, ex, e⟩ := Option.bind_eq_some_iff.mp e
    obtain ⟨c, ec, e⟩ := Option.bind_eq_some_iff.mp e
    refine ⟨p, F, R, s, x.1, x.2, hr, ex, fun v1 H1 F1 C1 l1 o1 r1 => ?_⟩
    rw [asB_some ec] at o1
    obtain ⟨rfl, rfl⟩ := own_bl o1
    refine ⟨c, rfl, ?_⟩
    split at e
    · rename_i q
      rw [if_pos q]
      exact ⟨p, F1, R, _, _, _, r1, e, fun v2 H2 F2 C2 l2 o2 r2 => k v2 H2 F2 C2 (l1.trans l2) o2 r2⟩
    · rename_i q
      rw [if_neg q]
      cases e
      exact k _ H1 F1 [] l1 (.z (.bl _)) r1
theorem e_or (ha : PE X a (tF K fa)) (hb : PE X (.BoolOp .Or (b :: rest) pos) (tF K fb)) : PE X (.BoolOp .Or (a :: b :: rest) pos) (tF K (fOrV fa fb)) :=
  pe_same (pe_or ha hb) fun σ H Q z => by
    obtain ⟨p, F, R, s, r, s', hr, e, k⟩ := z
    obtain ⟨x, ex, e⟩ := Option.bind_eq_some_iff.mp e
    obtain ⟨c, ec, e⟩ := Option.bind_eq_some_iff.mp e
    refine ⟨p, F, R, s, x.1, x.2, hr, ex, fun v1 H1 F1 C1 l1 o1 r1 => ?_⟩
    rw [asB_some ec] at o1
    obtain ⟨rfl, rfl⟩ := own_bl o1
    refine ⟨c, rfl, ?_⟩
    split at e
    · rename_i q
      rw [if_pos q]
      cases e
      exact k _ H1 F1 [] l1 (.z (.bl _)) r1
    · rename_i q
      rw [if_neg q]
      exact ⟨p, F1, R, _, _, _, r1, e, fun v2 H2 F2 C2 l2 o2 r2 => k v2 H2 F2 C2 (l1.trans l2) o2 r2⟩
theorem e_not (ha : PE X a (tF K fa)) : PE X (.UnaryOp .Not a pos) (tF K (fNotV fa)) := pe_same (pe_not ha) fun σ H Q z => by
  obtain ⟨p, F, R, s, r, s', hr, e, k⟩ := z
  obtain ⟨x, ex, e⟩ := Option.bind_eq_some_iff.mp e
  obtain ⟨c, ec, e⟩ := Option.map_eq_some_iff.mp e
  cases e
  refine ⟨p, F, R, s, x.1, x.2, hr, ex, fun v1 H1 F1 C1 l1 o1 r1 => ?_⟩
  rw [asB_some ec] at o1
  obtain ⟨rfl, rfl⟩ := own_bl o1
  exact ⟨c, rfl, k _ H1 F1 [] l1 (.z (.bl _)) r1⟩
def fIfE (ft : M Bool) (fa fb : M D) : M D := fun s => (ft s).bind fun x => if x.1 = true then fa x.2 else fb x.2
theorem e_ifExp {c : Expr} (hc : PT X c (tFT K ft)) (ha : PE X a (tF K fa)) (hb : PE X b (tF K fb)) : PE X (.IfExp c a b pos) (tF K (fIfE ft fa fb)) := pe_same (pe_ifExp hc ha hb) fun σ H Q z => by
  obtain ⟨p, F, R, s, r, s', hr, e, k⟩ := z
  obtain ⟨x, ex, e⟩ := Option.bind_eq_some_iff.mp e
  refine ⟨p, F, R, s, x.1, x.2, hr, ex, fun H1 F1 l1 r1 => ?_⟩
  split at e
  · rename_i q
    rw [if_pos q]
    exact ⟨p, F1, R, _, _, _, r1, e, fun v2 H2 F2 C2 l2 o2 r2 => k v2 H2 F2 C2 (l1.trans l2) o2 r2⟩
  · rename_i q
    rw [if_neg q]
    exact ⟨p, F1, R, _, _, _, r1, e, fun v2 H2 F2 C2 l2 o2 r2 => k v2 H2 F2 C2 (l1.trans l2) o2 r2⟩
/-- a < b < c -/
def fChain (g g' : D → D → Option D) (fa fb fc : M D) : M D := fun s => (fa s).bind fun x => (fb x.2).bind fun y => if y.1.isFz then (g x.1 y.1).bind fun z => (asB z).bind fun k => if k = true then (fc y.2).bind fun w => (g' y.1 w.1).map fun u => (u, w.2) else some (.bl false, y.2) else none
/-! arguments -/
def fAN : M (List AR) := fun s => some ([], s)
def fAC (fe : M D) (fas : M (List AR)) : M (List AR) := fun s => (fe s).bind fun x => (fas x.2).map fun r => (.inl x.1 :: r.1, r.2)
def Sl.is : Option Sl → Bool
  | some (.va _) => true
  | some (.pn _) => true
  | _ => false
theorem Slots.isv {F : Hp} {σ p : L2.St} {s : S} {C : CL} (h : Slots K F σ p s C) {i : Nat} (z : Sl.is s[i]? = true) : ∃ v, σ[i]? = some (some v) := by
  cases q : s[i]? with
  | none => rw [q] at z; cases z
  | some sl =>
    rw [q] at z
    cases sl with
    | no => cases z
    | va d => obtain ⟨v, _, _, e, _⟩ := h.takeV q; exact ⟨v, e⟩
    | pn d => obtain ⟨v, _, _, e, _⟩ := h.takeP q; exact ⟨v, e⟩
def fAI (i : Nat) (fas : M (List AR)) : M (List AR) := fun s => if Sl.is s[i]? = true then (fas s).map fun r => (.inr i :: r.1, r.2) else none
def itemsOf : D → Option (List D)
  | .lst _ ds => some ds
  | .tup _ ds => some ds
  | _ => none
def fAS (fe : M D) (fas : M (List AR)) : M (List AR) := fun s => (fe s).bind fun x => (itemsOf x.1).bind fun ds => (fas x.2).map fun r => (ds.map Sum.inl ++ r.1, r.2)
variable {es : List Expr} {fas : M (List AR)}
theorem a_nil : PA X [] (tFA K fAN) := ⟨fun pos pins s0 σ H Q I z => (pa_nil (X := X)).run pos pins s0 σ H Q I (by
  obtain ⟨p, F, R, s, r, s', hr, e, k⟩ := z
  cases e
  exact k [] H F [] .refl .nil hr)⟩
theorem pa_same {es : List Expr} {t t' : TA} (h : PA X es t) (q : ∀ σ H Q, t' σ H Q → t σ H Q) : PA X es t' := ⟨fun pos pins s σ H Q I z => h.run pos pins s σ H Q I (q _ _ _ z)⟩
theorem a_cons (ha : PE X e (tF K fe)) (hr : PA X es (tFA K fas)) (hs : starEach (e :: es) X.env = (false, eval e X.env) :: starEach es X.env := by rfl) : PA X (e :: es) (tFA K (fAC fe fas)) :=
  pa_same (pa_cons ha hr hs) fun σ H Q z => by
    obtain ⟨p, F, R, s, r, s', hr, e, k⟩ := z
    obtain ⟨x, ex, e⟩ := Option.bind_eq_some_iff.mp e
    obtain ⟨y, ey, e⟩ := Option.map_eq_some_iff.mp e
    cases e
    refine ⟨p, F, R, s, x.1, x.2, hr, ex, fun v1 H1 F1 C1 l1 o1 r1 => ?_⟩
    refine ⟨p, F1, C1 ++ R, x.2, y.1, y.2, r1, ey, fun vs H2 F2 C2 l2 o2 r2 => ?_⟩
    exact k (v1 :: vs) H2 F2 (C1 ++ C2) (l1.trans l2) (.d (o1.mono l2) o2) (r2.sub fun x => by simp only [cn_append]; omega)
theorem a_io {i : Nat} (ha : PE X e (tVar i)) (hr : PA X es (tFA K fas)) (hs : starEach (e :: es) X.env = (false, eval e X.env) :: starEach es X.env := by rfl) : PA X (e :: es) (tFA K (fAI i fas)) :=
  pa_same (pa_cons ha hr hs) fun σ H Q z => by
    obtain ⟨p, F, R, s, r, s', hr, e, k⟩ := z
    unfold fAI at e
    split at e
    · rename_i hi
      obtain ⟨y, ey, e⟩ := Option.map_eq_some_iff.mp e
      cases e
      obtain ⟨v, hv⟩ : ∃ v, σ[i]? = some (some v) := let ⟨C, h, _⟩ := hr; h.isv hi
      refine ⟨v, hv, p, F, R, s, y.1, y.2, hr, ey, fun vs H2 F2 C2 l2 o2 r2 => ?_⟩
      exact k (v :: vs) H2 F2 C2 l2 (.io hv o2) r2
    · cases e
/-- *e -/
theorem a_star (hK : X.K = K) {p1 : Pos} (ha : PE X e (tF K fe)) (hr : PA X es (tFA K fas)) (hs : starEach (.Starred e p1 :: es) X.env = (true, eval e X.env) :: starEach es X.env := by rfl) : PA X (.Starred e p1 :: es) (tFA K (fAS fe fas)) :=
  pa_same (k_star hK ha hr hs) fun σ H Q z => by
    obtain ⟨p, F, R, s, r, s', hr, e, k⟩ := z
    obtain ⟨x, ex, e⟩ := Option.bind_eq_some_iff.mp e
    obtain ⟨ds, ed, e⟩ := Option.bind_eq_some_iff.mp e
    obtain ⟨y, ey, e⟩ := Option.map_eq_some_iff.mp e
    cases e
    refine ⟨p, F, R, s, x.1, x.2, hr, ex, fun v1 H1 F1 C1 l1 o1 r1 => ?_⟩
    obtain ⟨C, hs, ha⟩ := r1
    have key : ∃ b xs C3, v1 = .ref b ∧ (SqT K H1 b xs ∨ SqL K H1 b xs) ∧ OwnL K F1 xs ds C3 ∧ ∀ x, cn x C3 ≤ cn x C1 := by
      have ha' : HA F1 (C1 ++ (C ++ R)) H1 := ha.sub fun x => by simp only [cn_append]; omega
      revert o1 ed
      cases x.1 with
      | lst o xs =>
        intro ed o1
        cases ed
        obtain ⟨b, xs, C3, h1, h2, h3, h4⟩ := o1.seqL ha'
        exact ⟨b, xs, C3, h1, .inr h2.l, h3, h4⟩
      | tup o xs =>
        intro ed o1
        cases ed
        obtain ⟨b, xs, C3, h1, h2, h3, h4⟩ := o1.seqT ha'
        exact ⟨b, xs, C3, h1, .inl h2, h3, h4⟩
      | _ => intro ed; cases ed
    obtain ⟨b, xs, C3, rfl, h2, h3, h4⟩ := key
    refine ⟨b, xs, rfl, h2, p, F1, C3 ++ R, x.2, y.1, y.2, ⟨C, hs, ha.sub fun x => by simp only [cn_append]; have := h4 x; omega⟩, ey, fun vs H2 F2 C2 l2 o2 r2 => ?_⟩
    have h5 : ∀ {vs : List V} {ds : List D} {C : CL}, OwnL K F2 vs ds C → ∀ {ws : List V} {as : List AR} {C' : CL}, OwnA K F2 σ ws as C' → OwnA K F2 σ (vs ++ ws) (ds.map Sum.inl ++ as) (C ++ C') := by
      intro vs ds
      induction ds generalizing vs with
      | nil => intro C h ws as C' q; cases h; exact q
      | cons d ds ih =>
        intro C h ws as C' q
        cases h with
        | cons o t =>
          rw [List.append_assoc]
          exact .d o (ih t q)
    exact k (xs ++ vs) H2 F2 (C3 ++ C2) (l1.trans l2) (h5 (h3.mono l2) o2) (r2.sub fun x => by simp only [cn_append]; omega)
/-! displays -/
def mx : Nat := 1000000
def fLst (fas : M (List AR)) : M D := fun s => (fas s).bind fun a => (ARall a.1).bind fun ds => if ds.length ≤ mx then some (.lst true ds, a.2) else none
def fTup (fas : M (List AR)) : M D := fun s => (fas s).bind fun a => (ARall a.1).bind fun ds => if ds.length ≤ mx then some (.tup true ds, a.2) else none
theorem e_lst (h : PA X es (tFA K fas)) : PE X (.List es pos) (tF K (fLst fas)) := pe_same (pe_lst h) fun σ H Q z => by
  obtain ⟨p, F, R, s, r, s', hr, e, k⟩ := z
  obtain ⟨a, ea, e⟩ := Option.bind_eq_some_iff.mp e
  obtain ⟨ds, ed, e⟩ := Option.bind_eq_some_iff.mp e
  split at e
  · rename_i hl
    cases e
    refine ⟨p, F, R, s, a.1, a.2, hr, ea, fun vs H1 F1 C1 l1 o1 r1 => ?_⟩
    have o2 := o1.all ed
    refine ⟨sz (by rw [o2.length]; exact hl), fun q nq => ?_⟩
    obtain ⟨C, hs, ha⟩ := r1
    exact k _ _ F1 _ l1 (.lst o2) ⟨C, hs, (ha.new nq _).sub fun x => by simp only [cn_append, cn_cons]; omega⟩
  · cases e
theorem e_tup {x1} (h : PA X es (tFA K fas)) : PE X (.Tuple es x1 pos) (tF K (fTup fas)) := pe_same (pe_tup h) fun σ H Q z => by
  obtain ⟨p, F, R, s, r, s', hr, e, k⟩ := z
  obtain ⟨a, ea, e⟩ := Option.bind_eq_some_iff.mp e
  obtain ⟨ds, ed, e⟩ := Option.bind_eq_some_iff.mp e
  split at e
  · rename_i hl
    cases e
    refine ⟨p, F, R, s, a.1, a.2, hr, ea, fun vs H1 F1 C1 l1 o1 r1 => ?_⟩
    have o2 := o1.all ed
    refine ⟨sz (by rw [o2.length]; exact hl), fun q nq => ?_⟩
    obtain ⟨C, hs, ha⟩ := r1
    exact k _ _ F1 _ l1 (.tup o2) ⟨C, hs, (ha.new nq _).sub fun x => by simp only [cn_append, cn_cons]; omega⟩
  · cases e
/-! built-in functions, by what they are given -/
def fCB (g : List D → Option D) (fas : M (List AR)) : M D := fun s => (fas s).bind fun a => (ARall a.1).bind fun ds => (g ds).map fun z => (z, a.2)
theorem tF_CB {r : List V → Hp → VK → Prop} {g : List D → Option D} (hg : CallD K r g) {σ : L2.St} {H : Hp} {Q : VK} (h : tF K (fCB g fas) σ H Q) : tCB r (tFA K fas) σ H Q := by
  obtain ⟨p, F, R, s, r, s', hr, e, k⟩ := h
  obtain ⟨a, ea, e⟩ := Option.bind_eq_some_iff.mp e
  obtain ⟨ds, ed, e⟩ := Option.bind_eq_some_iff.mp e
  obtain ⟨z, ez, e⟩ := Option.map_eq_some_iff.mp e
  cases e
  refine ⟨p, F, R, s, a.1, a.2, hr, ea, fun vs H1 F1 C1 l1 o1 r1 => ?_⟩
  obtain ⟨C, hs, ha⟩ := r1
  refine hg (U := C ++ R) ez (o1.all ed) (ha.sub fun x => by simp only [cn_append]; omega) fun v H' F' C' l o h => ?_
  exact k v H' F' C' (l1.trans l) o ⟨C, hs.mono l, h.sub fun x => by simp only [cn_append]; omega⟩
/-! slices -/
def fPN : M (Option Int) := fun s => some (none, s)
def asI : D → Option Int
  | .int i => some i
  | _ => none
theorem asI_some {d : D} {b : Int} (h : asI d = some b) : d = .int b := by
  cases d <;> simp [asI] at h
  rw [h]
def fPS (fe : M D) : M (Option Int) := fun s => (fe s).bind fun x => (asI x.1).map fun i => (some i, x.2)
def tFO (K : PySem.W.Frag) (fo : M (Option Int)) : TO := fun σ H Q => ∃ p F R s r s', Rel K p F R σ H s ∧ fo s = some (r, s') ∧ ∀ H' F', Le F F' → Rel K p F' R σ H' s' → Q r H'
theorem po_same {e : Option Expr} {t t' : TO} (h : PO X e t) (q : ∀ σ H Q, t' σ H Q → t σ H Q) : PO X e t' := ⟨fun pins s σ H Q I z => h.run pins s σ H Q I (q _ _ _ z)⟩
theorem o_none : PO X none (tFO K fPN) := po_same po_none fun σ H Q z => by
  obtain ⟨p, F, R, s, r, s', hr, e, k⟩ := z
  cases e
  exact k H F .refl hr
theorem o_some (he : PE X e (tF K fe)) : PO X (some e) (tFO K (fPS fe)) := po_same (po_some he) fun σ H Q z => by
  obtain ⟨p, F, R, s, r, s', hr, e, k⟩ := z
  obtain ⟨x, ex, e⟩ := Option.bind_eq_some_iff.mp e
  obtain ⟨i, ei, e⟩ := Option.map_eq_some_iff.mp e
  cases e
  refine ⟨p, F, R, s, x.1, x.2, hr, ex, fun v1 H1 F1 C1 l1 o1 r1 => ?_⟩
  rw [asI_some ei] at o1
  obtain ⟨rfl, rfl⟩ := own_int o1
  exact ⟨_, rfl, k H1 F1 l1 r1⟩
def SlD (K : PySem.W.Frag) (r : V → Option Int → Option Int → Hp → VK → Prop) (g : D → Option Int → Option Int → Option D) : Prop := ∀ {F : Hp} {U C1 : CL} {H : Hp} {x : V} {d z : D} {lo hi : Option Int} {Q : VK}, g d lo hi = some z → Own K F x d C1 → HA F (C1 ++ U) H →
  (∀ v H' F' C, Le F F' → Own K F' v z C → HA F' (C ++ U) H' → Q v H') → r x lo hi H Q
def fSl (g : D → Option Int → Option Int → Option D) (fe : M D) (fl fh : M (Option Int)) : M D := fun s => (fe s).bind fun x => (fl x.2).bind fun l => (fh l.2).bind fun h => (g x.1 l.1 h.1).map fun z => (z, h.2)
theorem e_slice {r : V → Option Int → Option Int → Hp → VK → Prop} {g : D → Option Int → Option Int → Option D} {lo hi : Option Expr} {fl fh : M (Option Int)} {p2 : Pos} (ho : SlR X r) (hg : SlD K r g) (he : PE X e (tF K fe)) (hl : PO X lo (tFO K fl)) (hh : PO X hi (tFO K fh)) :
    PE X (.Subscript e (.Slice lo hi none p2) pos) (tF K (fSl g fe fl fh)) := pe_same (pe_slice ho he hl hh) fun σ H Q z => by
  obtain ⟨p, F, R, s, r, s', hr, e, k⟩ := z
  obtain ⟨x, ex, e⟩ := Option.bind_eq_some_iff.mp e
  obtain ⟨l, el, e⟩ := Option.bind_eq_some_iff.mp e
  obtain ⟨h, eh, e⟩ := Option.bind_eq_some_iff.mp e
  obtain ⟨z, ez, e⟩ := Option.map_eq_some_iff.mp e
  cases e
  refine ⟨p, F, R, s, x.1, x.2, hr, ex, fun v1 H1 F1 C1 l1 o1 r1 => ?_⟩
  refine ⟨p, F1, C1 ++ R, x.2, l.1, l.2, r1, el, fun H2 F2 l2 r2 => ?_⟩
  refine ⟨p, F2, C1 ++ R, l.2, h.1, h.2, r2, eh, fun H3 F3 l3 r3 => ?_⟩
  obtain ⟨C, hs, ha⟩ := r3
  refine hg (U := C ++ R) ez (o1.mono (l2.trans l3)) (ha.sub fun x => by simp only [cn_append]; omega) fun v H' F' C' l o h => ?_
  exact k v H' F' C' (l1.trans (l2.trans (l3.trans l))) o ⟨C, hs.mono l, h.sub fun x => by simp only [cn_append]; omega⟩
end
end DL
set_option Elab.async false
set_option linter.all false
set_option maxRecDepth 100000
set_option maxHeartbeats 2000000
set_option exponentiation.threshold 600
/-! what is frozen for the time of an expression, statements, loops, comprehensions -/
namespace DL
open PySem PySem.Spec PyProof.Rows L2 LB
/-! ### for the time of an expression: a slot is hidden (0), read (1), changed (2) -/
def Sl.fzS : Sl → Sl
  | .va d => .va d.frz
  | .pn d => .pn d.frz
  | .no => .no
def Sl.full : Sl → Bool
  | .va d => d.full
  | .pn d => d.full
  | .no => true
def mask : List Nat → S → S
  | m :: ms, x :: s => (if m = 2 then x else if m = 1 then x.fzS else .no) :: mask ms s
  | _, [] => []
  | [], _ :: s => .no :: mask [] s
def merge (full : Bool) : List Nat → S → S → S
  | m :: ms, x :: s, y :: t => (if m = 2 then y else if m = 1 then (if full = true then x else x.fzS) else x) :: merge full ms s t
  | _, s, _ => s
def fullK : List Nat → S → Bool
  | m :: ms, y :: t => (if m = 2 then y.full else true) && fullK ms t
  | _, _ => true
section
variable {K : PySem.W.Frag} {F : Hp}
theorem slots_no {σ p : L2.St} {s : S} {C : CL} (h : Slots K F σ p s C) {F' : Hp} : Slots K F' σ p (mask [] s) [] := by
  induction h with
  | nil => exact .nil
  | no _ ih => exact .no ih
  | va _ _ ih => exact .no ih
  | pn _ _ ih => exact .no ih
theorem merge_nil (b : Bool) (s t : S) : merge b [] s t = s := by cases s <;> rfl
/-- what is asked of a mask -/
structure MaskOk (K : PySem.W.Frag) (F : Hp) (σ p : L2.St) (s : S) (C : CL) (ms : List Nat) (C0 C1 C2 : CL) : Prop where
  c : ∀ x, cn x C = cn x C0 + cn x C1 + cn x C2
  i : ∀ F', Le F F' → (∀ x ∈ C1, F' x.1 = some x.2) → Slots K F' σ p (mask ms s) C2
  f : ∀ t C2' F2, Slots K F2 σ p t C2' → fullK ms t = true → ∃ C', Slots K F σ p (merge true ms s t) C' ∧ ∀ x, cn x C' ≤ cn x C0 + cn x C1 + cn x C2'
  n : ∀ t C2' F2, Slots K F2 σ p t C2' → Le F F2 → (∀ x ∈ C1, F2 x.1 = some x.2) → ∃ C', Slots K F2 σ p (merge false ms s t) C' ∧ ∀ x, cn x C' ≤ cn x C0 + cn x C2'
theorem mask_ok {σ p : L2.St} {s : S} {C : CL} (h : Slots K F σ p s C) : ∀ ms, ∃ C0 C1 C2, MaskOk K F σ p s C ms C0 C1 C2 := by
  induction h with
  | nil =>
    intro ms
    refine ⟨[], [], [], fun x => rfl, fun F' _ _ => ?_, fun t C2' F2 h _ => ?_, fun t C2' F2 h _ _ => ?_⟩
    · cases ms <;> exact .nil
    · refine ⟨[], ?_, fun x => by rw [cn_nil]; omega⟩
      cases ms <;> exact .nil
    · refine ⟨[], ?_, fun x => by rw [cn_nil]; omega⟩
      cases ms <;> exact .nil
  | @no x y σ p s Cr h ih =>
    intro ms
    cases ms with
    | nil => exact ⟨Cr, [], [], fun x => by rw [cn_nil]; omega, fun F' _ _ => .no (slots_no h), fun t C2' F2 _ _ => ⟨Cr, .no h, fun x => by omega⟩, fun t C2' F2 _ l _ => ⟨Cr, .no (h.mono l), fun x => by omega⟩⟩
    | cons m ms =>
      obtain ⟨C0, C1, C2, q⟩ := ih ms
      refine ⟨C0, C1, C2, q.c, fun F' l hc => ?_, fun t C2' F2 ht hf => ?_, fun t C2' F2 ht l hc => ?_⟩
      · have : (if m = 2 then Sl.no else if m = 1 then Sl.fzS Sl.no else Sl.no) = .no := by (repeat' split) <;> rfl
        show Slots K F' _ _ ((if m = 2 then Sl.no else if m = 1 then Sl.fzS Sl.no else Sl.no) :: mask ms s) _
        rw [this]
        exact .no (q.i F' l hc)
      · by_cases hm : m = 2
        · subst hm
          cases ht with
          | no ht =>
            obtain ⟨C', h1, h2⟩ := q.f _ _ _ ht (by simpa [fullK, Sl.full] using hf)
            exact ⟨C', .no h1, h2⟩
          | @va v d _ _ _ _ D1 Dr o ht =>
            simp only [fullK, Sl.full, if_true, Bool.and_eq_true] at hf
            obtain ⟨C', h1, h2⟩ := q.f _ _ _ ht hf.2
            exact ⟨D1 ++ C', .va (o.full hf.1) h1, fun x => by rw [cn_append, cn_append]; have := h2 x; omega⟩
          | @pn v d _ _ _ D1 Dr o ht =>
            simp only [fullK, Sl.full, if_true, Bool.and_eq_true] at hf
            obtain ⟨C', h1, h2⟩ := q.f _ _ _ ht hf.2
            exact ⟨D1 ++ C', .pn (o.full hf.1) h1, fun x => by rw [cn_append, cn_append]; have := h2 x; omega⟩
        · cases ht with
          | no ht =>
            obtain ⟨C', h1, h2⟩ := q.f _ _ _ ht (by simpa [fullK, hm] using hf)
            exact ⟨C', by simp only [merge, if_neg hm, if_true, ite_self]; exact .no h1, h2⟩
          | @va v d _ _ _ _ D1 Dr o ht =>
            obtain ⟨C', h1, h2⟩ := q.f _ _ _ ht (by simpa [fullK, hm] using hf)
            exact ⟨C', by simp only [merge, if_neg hm, if_true, ite_self]; exact .no h1, fun x => by rw [cn_append]; have := h2 x; omega⟩
          | @pn v d _ _ _ D1 Dr o ht =>
            obtain ⟨C', h1, h2⟩ := q.f _ _ _ ht (by simpa [fullK, hm] using hf)
            exact ⟨C', by simp only [merge, if_neg hm, if_true, ite_self]; exact .no h1, fun x => by rw [cn_append]; have := h2 x; omega⟩
      · have e0 : (if m = 1 then (if false = true then Sl.no else Sl.fzS Sl.no) else Sl.no) = Sl.no := by split <;> rfl
        by_cases hm : m = 2
        · subst hm
          cases ht with
          | no ht =>
            obtain ⟨C', h1, h2⟩ := q.n _ _ _ ht l hc
            exact ⟨C', .no h1, h2⟩
          | @va v d _ _ _ _ D1 Dr o ht =>
            obtain ⟨C', h1, h2⟩ := q.n _ _ _ ht l hc
            exact ⟨D1 ++ C', .va o h1, fun x => by rw [cn_append, cn_append]; have := h2 x; omega⟩
          | @pn v d _ _ _ D1 Dr o ht =>
            obtain ⟨C', h1, h2⟩ := q.n _ _ _ ht l hc
            exact ⟨D1 ++ C', .pn o h1, fun x => by rw [cn_append, cn_append]; have := h2 x; omega⟩
        · cases ht with
          | no ht =>
            obtain ⟨C', h1, h2⟩ := q.n _ _ _ ht l hc
            exact ⟨C', by simp only [merge, if_neg hm]; rw [e0]; exact .no h1, h2⟩
          | @va v d _ _ _ _ D1 Dr o ht =>
            obtain ⟨C', h1, h2⟩ := q.n _ _ _ ht l hc
            exact ⟨C', by simp only [merge, if_neg hm]; rw [e0]; exact .no h1, fun x => by rw [cn_append]; have := h2 x; omega⟩
          | @pn v d _ _ _ D1 Dr o ht =>
            obtain ⟨C', h1, h2⟩ := q.n _ _ _ ht l hc
            exact ⟨C', by simp only [merge, if_neg hm]; rw [e0]; exact .no h1, fun x => by rw [cn_append]; have := h2 x; omega⟩
  | @va v d y σ p s D1 Cr o h ih =>
    intro ms
    cases ms with
    | nil => exact ⟨D1 ++ Cr, [], [], fun x => by rw [cn_nil]; omega, fun F' _ _ => .no (slots_no h), fun t C2' F2 _ _ => ⟨D1 ++ Cr, .va o h, fun x => by omega⟩, fun t C2' F2 _ l _ => ⟨D1 ++ Cr, .va (o.mono l) (h.mono l), fun x => by omega⟩⟩
    | cons m ms =>
      obtain ⟨C0, C1, C2, q⟩ := ih ms
      have tl : ∀ {F2 : Hp} {t : S} {C2' : CL}, Slots K F2 (some v :: σ) (y :: p) t C2' → ∃ sl t' D', t = sl :: t' ∧ Slots K F2 σ p t' D' ∧ ∀ x, cn x D' ≤ cn x C2' := by
        intro F2 t C2' ht
        cases ht with
        | no ht => exact ⟨_, _, _, rfl, ht, fun x => Nat.le_refl _⟩
        | va o ht => exact ⟨_, _, _, rfl, ht, fun x => by rw [cn_append]; omega⟩
        | pn o ht => exact ⟨_, _, _, rfl, ht, fun x => by rw [cn_append]; omega⟩
      by_cases hm : m = 2
      · subst hm
        refine ⟨C0, C1, D1 ++ C2, fun x => by rw [cn_append, cn_append, q.c]; omega, fun F' l hc => .va (o.mono l) (q.i F' l hc), fun t C2' F2 ht hf => ?_, fun t C2' F2 ht l hc => ?_⟩
        · cases ht with
          | no ht =>
            obtain ⟨C', h1, h2⟩ := q.f _ _ _ ht (by simpa [fullK, Sl.full] using hf)
            exact ⟨C', .no h1, h2⟩
          | @va v d _ _ _ _ D1 Dr o ht =>
            simp only [fullK, Sl.full, if_true, Bool.and_eq_true] at hf
            obtain ⟨C', h1, h2⟩ := q.f _ _ _ ht hf.2
            exact ⟨D1 ++ C', .va (o.full hf.1) h1, fun x => by rw [cn_append, cn_append]; have := h2 x; omega⟩
          | @pn v d _ _ _ D1 Dr o ht =>
            simp only [fullK, Sl.full, if_true, Bool.and_eq_true] at hf
            obtain ⟨C', h1, h2⟩ := q.f _ _ _ ht hf.2
            exact ⟨D1 ++ C', .pn (o.full hf.1) h1, fun x => by rw [cn_append, cn_append]; have := h2 x; omega⟩
        · cases ht with
          | no ht =>
            obtain ⟨C', h1, h2⟩ := q.n _ _ _ ht l hc
            exact ⟨C', .no h1, h2⟩
          | @va v d _ _ _ _ D1 Dr o ht =>
            obtain ⟨C', h1, h2⟩ := q.n _ _ _ ht l hc
            exact ⟨D1 ++ C', .va o h1, fun x => by rw [cn_append, cn_append]; have := h2 x; omega⟩
          | @pn v d _ _ _ D1 Dr o ht =>
            obtain ⟨C', h1, h2⟩ := q.n _ _ _ ht l hc
            exact ⟨D1 ++ C', .pn o h1, fun x => by rw [cn_append, cn_append]; have := h2 x; omega⟩
      · by_cases hm1 : m = 1
        · subst hm1
          refine ⟨C0, D1 ++ C1, C2, fun x => by rw [cn_append, cn_append, q.c]; omega, fun F' l hc => ?_, fun t C2' F2 ht hf => ?_, fun t C2' F2 ht l hc => ?_⟩
          · exact .va (C1 := []) (.z (o.frz l fun x hx => hc x (List.mem_append_left _ hx))) (q.i F' l fun x hx => hc x (List.mem_append_right _ hx))
          · obtain ⟨sl, t, D', rfl, ht, hd⟩ := tl ht
            obtain ⟨C', h1, h2⟩ := q.f _ _ _ ht (by simpa [fullK] using hf)
            exact ⟨D1 ++ C', .va o h1, fun x => by rw [cn_append, cn_append]; have := h2 x; have := hd x; omega⟩
          · obtain ⟨sl, t, D', rfl, ht, hd⟩ := tl ht
            obtain ⟨C', h1, h2⟩ := q.n _ _ _ ht l fun x hx => hc x (List.mem_append_right _ hx)
            exact ⟨C', .va (C1 := []) (.z (o.frz l fun x hx => hc x (List.mem_append_left _ hx))) h1, fun x => by have := h2 x; have := hd x; omega⟩
        · refine ⟨D1 ++ C0, C1, C2, fun x => by rw [cn_append, cn_append, q.c]; omega, fun F' l hc => ?_, fun t C2' F2 ht hf => ?_, fun t C2' F2 ht l hc => ?_⟩
          · show Slots K F' _ _ ((if m = 2 then Sl.va d else if m = 1 then Sl.fzS (.va d) else Sl.no) :: mask ms s) _
            rw [if_neg hm, if_neg hm1]
            exact .no (q.i F' l hc)
          · obtain ⟨sl, t, D', rfl, ht, hd⟩ := tl ht
            obtain ⟨C', h1, h2⟩ := q.f _ _ _ ht (by simpa [fullK, hm] using hf)
            exact ⟨D1 ++ C', by simp only [merge, if_neg hm, if_neg hm1]; exact .va o h1, fun x => by rw [cn_append, cn_append]; have := h2 x; have := hd x; omega⟩
          · obtain ⟨sl, t, D', rfl, ht, hd⟩ := tl ht
            obtain ⟨C', h1, h2⟩ := q.n _ _ _ ht l hc
            exact ⟨D1 ++ C', by simp only [merge, if_neg hm, if_neg hm1]; exact .va (o.mono l) h1, fun x => by rw [cn_append, cn_append]; have := h2 x; have := hd x; omega⟩
  | @pn v d σ p s D1 Cr o h ih =>
    intro ms
    cases ms with
    | nil => exact ⟨D1 ++ Cr, [], [], fun x => by rw [cn_nil]; omega, fun F' _ _ => .no (slots_no h), fun t C2' F2 _ _ => ⟨D1 ++ Cr, .pn o h, fun x => by omega⟩, fun t C2' F2 _ l _ => ⟨D1 ++ Cr, .pn (o.mono l) (h.mono l), fun x => by omega⟩⟩
    | cons m ms =>
      obtain ⟨C0, C1, C2, q⟩ := ih ms
      have tl : ∀ {F2 : Hp} {t : S} {C2' : CL}, Slots K F2 (some v :: σ) (some v :: p) t C2' → ∃ sl t' D', t = sl :: t' ∧ Slots K F2 σ p t' D' ∧ ∀ x, cn x D' ≤ cn x C2' := by
        intro F2 t C2' ht
        cases ht with
        | no ht => exact ⟨_, _, _, rfl, ht, fun x => Nat.le_refl _⟩
        | va o ht => exact ⟨_, _, _, rfl, ht, fun x => by rw [cn_append]; omega⟩
        | pn o ht => exact ⟨_, _, _, rfl, ht, fun x => by rw [cn_append]; omega⟩
      by_cases hm : m = 2
      · subst hm
        refine ⟨C0, C1, D1 ++ C2, fun x => by rw [cn_append, cn_append, q.c]; omega, fun F' l hc => .pn (o.mono l) (q.i F' l hc), fun t C2' F2 ht hf => ?_, fun t C2' F2 ht l hc => ?_⟩
        · cases ht with
          | no ht =>
            obtain ⟨C', h1, h2⟩ := q.f _ _ _ ht (by simpa [fullK, Sl.full] using hf)
            exact ⟨C', .no h1, h2⟩
          | @va v d _ _ _ _ D1 Dr o ht =>
            simp only [fullK, Sl.full, if_true, Bool.and_eq_true] at hf
            obtain ⟨C', h1, h2⟩ := q.f _ _ _ ht hf.2
            exact ⟨D1 ++ C', .va (o.full hf.1) h1, fun x => by rw [cn_append, cn_append]; have := h2 x; omega⟩
          | @pn v d _ _ _ D1 Dr o ht =>
            simp only [fullK, Sl.full, if_true, Bool.and_eq_true] at hf
            obtain ⟨C', h1, h2⟩ := q.f _ _ _ ht hf.2
            exact ⟨D1 ++ C', .pn (o.full hf.1) h1, fun x => by rw [cn_append, cn_append]; have := h2 x; omega⟩
        · cases ht with
          | no ht =>
            obtain ⟨C', h1, h2⟩ := q.n _ _ _ ht l hc
            exact ⟨C', .no h1, h2⟩
          | @va v d _ _ _ _ D1 Dr o ht =>
            obtain ⟨C', h1, h2⟩ := q.n _ _ _ ht l hc
            exact ⟨D1 ++ C', .va o h1, fun x => by rw [cn_append, cn_append]; have := h2 x; omega⟩
          | @pn v d _ _ _ D1 Dr o ht =>
            obtain ⟨C', h1, h2⟩ := q.n _ _ _ ht l hc
            exact ⟨D1 ++ C', .pn o h1, fun x => by rw [cn_append, cn_append]; have := h2 x; omega⟩
      · by_cases hm1 : m = 1
        · subst hm1
          refine ⟨C0, D1 ++ C1, C2, fun x => by rw [cn_append, cn_append, q.c]; omega, fun F' l hc => ?_, fun t C2' F2 ht hf => ?_, fun t C2' F2 ht l hc => ?_⟩
          · exact .pn (C1 := []) (.z (o.frz l fun x hx => hc x (List.mem_append_left _ hx))) (q.i F' l fun x hx => hc x (List.mem_append_right _ hx))
          · obtain ⟨sl, t, D', rfl, ht, hd⟩ := tl ht
            obtain ⟨C', h1, h2⟩ := q.f _ _ _ ht (by simpa [fullK] using hf)
            exact ⟨D1 ++ C', .pn o h1, fun x => by rw [cn_append, cn_append]; have := h2 x; have := hd x; omega⟩
          · obtain ⟨sl, t, D', rfl, ht, hd⟩ := tl ht
            obtain ⟨C', h1, h2⟩ := q.n _ _ _ ht l fun x hx => hc x (List.mem_append_right _ hx)
            exact ⟨C', .pn (C1 := []) (.z (o.frz l fun x hx => hc x (List.mem_append_left _ hx))) h1, fun x => by have := h2 x; have := hd x; omega⟩
        · refine ⟨D1 ++ C0, C1, C2, fun x => by rw [cn_append, cn_append, q.c]; omega, fun F' l hc => ?_, fun t C2' F2 ht hf => ?_, fun t C2' F2 ht l hc => ?_⟩
          · show Slots K F' _ _ ((if m = 2 then Sl.pn d else if m = 1 then Sl.fzS (.pn d) else Sl.no) :: mask ms s) _
            rw [if_neg hm, if_neg hm1]
            exact .no (q.i F' l hc)
          · obtain ⟨sl, t, D', rfl, ht, hd⟩ := tl ht
            obtain ⟨C', h1, h2⟩ := q.f _ _ _ ht (by simpa [fullK, hm] using hf)
            exact ⟨D1 ++ C', by simp only [merge, if_neg hm, if_neg hm1]; exact .pn o h1, fun x => by rw [cn_append, cn_append]; have := h2 x; have := hd x; omega⟩
          · obtain ⟨sl, t, D', rfl, ht, hd⟩ := tl ht
            obtain ⟨C', h1, h2⟩ := q.n _ _ _ ht l hc
            exact ⟨D1 ++ C', by simp only [merge, if_neg hm, if_neg hm1]; exact .pn (o.mono l) h1, fun x => by rw [cn_append, cn_append]; have := h2 x; have := hd x; omega⟩
end
def fSc (ms : List Nat) (fe : M D) : M D := fun s => (fe (mask ms s)).map fun x => (x.1, merge (x.1.full && fullK ms x.2) ms s x.2)
def fScT (ms : List Nat) (fe : M Bool) : M Bool := fun s => (fe (mask ms s)).map fun x => (x.1, merge (fullK ms x.2) ms s x.2)
section
variable {X : Cx} {K : PySem.W.Frag} {e a b : Expr} {fe fa fb : M D} {pos : Pos} {ft : M Bool}
/-- the state behind -/
theorem mask_run {p σ : L2.St} {F : Hp} {R : CL} {H : Hp} {s : S} (ms : List Nat) (hr : Rel K p F R σ H s) : ∃ F1 R1, Le F F1 ∧ Rel K p F1 R1 σ H (mask ms s) ∧
    (∀ t F' Cr H', Le F1 F' → Rel K p F' (Cr ++ R1) σ H' t → fullK ms t = true → Rel K p F (Cr ++ R) σ H' (merge true ms s t)) ∧
    (∀ t F' Cr H', Le F1 F' → Rel K p F' (Cr ++ R1) σ H' t → Rel K p F' (Cr ++ R) σ H' (merge false ms s t)) := by
  obtain ⟨C, hs, ha⟩ := hr
  obtain ⟨C0, C1, C2, q⟩ := mask_ok hs ms
  have ha1 : HA F (C1 ++ (C2 ++ (C0 ++ R))) H := ha.sub fun x => by simp only [cn_append, q.c]; omega
  obtain ⟨h1, l1, c1, n1⟩ := ha1.frz
  refine ⟨adj F C1, C0 ++ R, l1, ⟨C2, q.i _ l1 fun x hx => (c1 x hx).1, h1⟩, fun t F' Cr H' l hr' hf => ?_, fun t F' Cr H' l hr' => ?_⟩
  · obtain ⟨C2', ht, hat⟩ := hr'
    obtain ⟨C', h2, h3⟩ := q.f t C2' F' ht hf
    have h4 : HA F (C1 ++ (C2' ++ (Cr ++ (C0 ++ R)))) H' := hat.unfrz (l1.trans l) (fun x hx => ⟨l _ _ (c1 x hx).1, (c1 x hx).2⟩) n1
    exact ⟨C', h2, h4.sub fun x => by simp only [cn_append]; have := h3 x; omega⟩
  · obtain ⟨C2', ht, hat⟩ := hr'
    obtain ⟨C', h2, h3⟩ := q.n t C2' F' ht (l1.trans l) fun x hx => l _ _ (c1 x hx).1
    exact ⟨C', h2, hat.sub fun x => by simp only [cn_append]; have := h3 x; omega⟩
theorem tF_sc (ms : List Nat) {σ : L2.St} {H : Hp} {Q : VK} (z : tF K (fSc ms fe) σ H Q) : tF K fe σ H Q := by
  obtain ⟨p, F, R, s, r, s', hr, e, k⟩ := z
  obtain ⟨x, ex, e⟩ := Option.map_eq_some_iff.mp e
  cases e
  obtain ⟨F1, R1, l1, hr1, kf, kn⟩ := mask_run ms hr
  refine ⟨p, F1, R1, mask ms s, x.1, x.2, hr1, ex, fun v H' F' C l o hr' => ?_⟩
  by_cases hf : (x.1.full && fullK ms x.2) = true
  · rw [hf] at k
    rw [Bool.and_eq_true] at hf
    exact k v H' F C .refl (o.full hf.1) (kf _ _ _ _ l hr' hf.2)
  · rw [Bool.eq_false_iff.mpr hf] at k
    exact k v H' F' C (l1.trans l) o (kn _ _ _ _ l hr')
theorem e_sc (ms : List Nat) (h : PE X e (tF K fe)) : PE X e (tF K (fSc ms fe)) := pe_same h fun σ H Q z => tF_sc ms z
theorem t_sc (ms : List Nat) (h : PT X e (tFT K ft)) : PT X e (tFT K (fScT ms ft)) := pt_same h fun σ H Q z => by
  obtain ⟨p, F, R, s, r, s', hr, e, k⟩ := z
  obtain ⟨x, ex, e⟩ := Option.map_eq_some_iff.mp e
  cases e
  obtain ⟨F1, R1, l1, hr1, kf, kn⟩ := mask_run ms hr
  refine ⟨p, F1, R1, mask ms s, x.1, x.2, hr1, ex, fun H' F' l hr' => ?_⟩
  by_cases hf : fullK ms x.2 = true
  · rw [hf] at k
    exact k H' F .refl (kf _ _ [] _ l hr' hf)
  · rw [Bool.eq_false_iff.mpr hf] at k
    exact k H' F' (l1.trans l) (kn _ _ [] _ l hr')
end

/-! ### statements -/
inductive Out where
  | nx (s : S) | rt (r : D) (s : S) | bk (s : S) | ct (s : S)
section
variable (K : PySem.W.Frag)
def EndOk (p : L2.St) (F : Hp) (R : CL) (E : Ends) : Out → Prop
  | .nx s => ∀ σ H F', Le F F' → Rel K p F' R σ H s → E.nx σ H
  | .rt r s => ∀ v σ H F' C, Le F F' → Own K F' v r C → Rel K p F' (C ++ R) σ H s → E.rt v H
  | .bk s => ∀ σ H F', Le F F' → Rel K p F' R σ H s → E.bk σ H
  | .ct s => ∀ σ H F', Le F F' → Rel K p F' R σ H s → E.ct σ H
def tSF (fs : S → Option Out) : TS := fun E σ H => ∃ p F R s o, Rel K p F R σ H s ∧ fs s = some o ∧ EndOk K p F R E o
end
section
variable {X : Cx} {K : PySem.W.Frag} {e a b : Expr} {fe fa fb : M D} {pos : Pos} {ft : M Bool} {st : Stmt} {rest : List Stmt} {f g : S → Option Out} {p : L2.St} {F F' : Hp} {R : CL} {E : Ends}
theorem EndOk.le {o : Out} (h : EndOk K p F R E o) (l : Le F F') : EndOk K p F' R E o := by
  cases o with
  | nx s => exact fun σ H G q r => h σ H G (l.trans q) r
  | rt r s => exact fun v σ H G C q o r => h v σ H G C (l.trans q) o r
  | bk s => exact fun σ H G q r => h σ H G (l.trans q) r
  | ct s => exact fun σ H G q r => h σ H G (l.trans q) r
theorem ps_same {t t' : TS} (h : PS X st t) (q : ∀ E σ H, t' E σ H → t E σ H) : PS X st t' := ⟨fun pins s σ H D I z => h.run pins s σ H D I (q _ _ _ z)⟩
theorem pss_same {t t' : TS} (h : PSs X rest t) (q : ∀ E σ H, t' E σ H → t E σ H) : PSs X rest t' := ⟨fun pins s σ H D I z => h.run pins s σ H D I (q _ _ _ z)⟩
def bNil : S → Option Out := fun s => some (.nx s)
def bSeq (f g : S → Option Out) : S → Option Out := fun s => (f s).bind fun o => match o with
  | .nx s' => g s'
  | o => some o
theorem b_nil : PSs X [] (tSF K bNil) := pss_same pss_nil fun E σ H z => by
  obtain ⟨p, F, R, s, o, hr, e, k⟩ := z
  cases e
  exact k σ H F .refl hr
theorem b_one (h : PS X st (tSF K f)) : PSs X [st] (tSF K f) := pss_one h
theorem b_cons (h : PS X st (tSF K f)) (h2 : PSs X rest (tSF K g)) : PSs X (st :: rest) (tSF K (bSeq f g)) := pss_same (pss_cons h h2) fun E σ H z => by
  obtain ⟨p, F, R, s, o, hr, e, k⟩ := z
  obtain ⟨o1, e1, e⟩ := Option.bind_eq_some_iff.mp e
  refine ⟨p, F, R, s, o1, hr, e1, ?_⟩
  cases o1 with
  | nx s1 => exact fun σ' H' F' l hr' => ⟨p, F', R, s1, o, hr', e, k.le l⟩
  | rt r s1 => cases e; exact k
  | bk s1 => cases e; exact k
  | ct s1 => cases e; exact k
def sPass : S → Option Out := fun s => some (.nx s)
theorem s_pass {pos : Pos} : PS X (.Pass pos) (tSF K sPass) := ps_same ps_pass fun E σ H z => by
  obtain ⟨p, F, R, s, o, hr, e, k⟩ := z
  cases e
  exact k σ H F .refl hr
theorem s_doc {x j pos pos'} : PS X (.Expr (.Constant (.str x) j pos) pos') (tSF K sPass) := ps_same ps_doc fun E σ H z => by
  obtain ⟨p, F, R, s, o, hr, e, k⟩ := z
  cases e
  exact k σ H F .refl hr
def sBrk : S → Option Out := fun s => some (.bk s)
theorem s_break {pos : Pos} : PS X (.Break pos) (tSF K sBrk) := ps_same ps_break fun E σ H z => by
  obtain ⟨p, F, R, s, o, hr, e, k⟩ := z
  cases e
  exact k σ H F .refl hr
def sCt : S → Option Out := fun s => some (.ct s)
theorem s_continue {pos : Pos} : PS X (.Continue pos) (tSF K sCt) := ps_same ps_continue fun E σ H z => by
  obtain ⟨p, F, R, s, o, hr, e, k⟩ := z
  cases e
  exact k σ H F .refl hr
/-- a way that is not taken -/
def sNo : S → Option Out := fun _ => none
theorem s_never : PS X st (tSF K sNo) := ps_same ps_never fun E σ H z => by
  obtain ⟨p, F, R, s, o, hr, e, k⟩ := z
  cases e
theorem b_never : PSs X rest (tSF K sNo) := ⟨fun pins s σ H D I z => by
  obtain ⟨p, F, R, s, o, hr, e, k⟩ := z
  cases e⟩
def sRet (fe : M D) : S → Option Out := fun s => (fe s).map fun x => .rt x.1 x.2
theorem s_ret (h : PE X e (tF K fe)) : PS X (.Return (some e) pos) (tSF K (sRet fe)) := ps_same (ps_ret h) fun E σ H z => by
  obtain ⟨p, F, R, s, o, hr, e, k⟩ := z
  obtain ⟨x, ex, e⟩ := Option.map_eq_some_iff.mp e
  cases e
  exact ⟨p, F, R, s, x.1, x.2, hr, ex, fun v H' F' C l o hr' => k v σ H' F' C l o hr'⟩
def sRetN : S → Option Out := fun s => some (.rt .non s)
theorem s_retN : PS X (.Return none pos) (tSF K sRetN) := ps_same ps_retN fun E σ H z => by
  obtain ⟨p, F, R, s, o, hr, e, k⟩ := z
  cases e
  exact k _ σ H F [] .refl (.z .non) hr
def sEx (fe : M D) : S → Option Out := fun s => (fe s).map fun x => .nx x.2
theorem s_expr (h : PE X e (tF K fe)) (hs : swapsWith e none pos.line X.env = pure false := by rfl) : PS X (.Expr e pos) (tSF K (sEx fe)) := ps_same (ps_expr h hs) fun E σ H z => by
  obtain ⟨p, F, R, s, o, hr, e, k⟩ := z
  obtain ⟨x, ex, e⟩ := Option.map_eq_some_iff.mp e
  cases e
  exact ⟨p, F, R, s, x.1, x.2, hr, ex, fun v H' F' C l o hr' => k σ H' F' l (hr'.sub fun x => by rw [cn_append]; omega)⟩
def sIf (ft : M Bool) (f g : S → Option Out) : S → Option Out := fun s => (ft s).bind fun x => if x.1 = true then f x.2 else g x.2
theorem s_if {c : Expr} {ba bb : List Stmt} (hc : PT X c (tFT K ft)) (ha : PSs X ba (tSF K f)) (hb : PSs X bb (tSF K g)) : PS X (.If c ba bb pos) (tSF K (sIf ft f g)) := ps_same (ps_if hc ha hb) fun E σ H z => by
  obtain ⟨p, F, R, s, o, hr, e, k⟩ := z
  obtain ⟨x, ex, e⟩ := Option.bind_eq_some_iff.mp e
  refine ⟨p, F, R, s, x.1, x.2, hr, ex, fun H' F' l hr' => ?_⟩
  split at e
  · rename_i q; rw [if_pos q]; exact ⟨p, F', R, _, o, hr', e, k.le l⟩
  · rename_i q; rw [if_neg q]; exact ⟨p, F', R, _, o, hr', e, k.le l⟩
/-! ### targets -/
theorem Slots.ofne {σ σ' p : L2.St} {s : S} {C : CL} (h : Slots K F σ p s C) : σ'.length = σ.length → (∀ i : Nat, s[i]? ≠ some .no → σ'[i]? = σ[i]?) → Slots K F σ' p s C := by
  induction h generalizing σ' with
  | nil => intro l _; have : σ' = [] := List.eq_nil_of_length_eq_zero l; subst this; exact .nil
  | no h ih =>
    intro l q
    cases σ' with
    | nil => simp at l
    | cons x σ' => exact .no (ih (by simpa using l) fun i hi => by simpa using q (i + 1) (by simpa using hi))
  | va o h ih =>
    intro l q
    cases σ' with
    | nil => simp at l
    | cons x σ' =>
      have q0 := q 0 (by simp)
      simp at q0; subst q0
      exact .va o (ih (by simpa using l) fun i hi => by simpa using q (i + 1) (by simpa using hi))
  | pn o h ih =>
    intro l q
    cases σ' with
    | nil => simp at l
    | cons x σ' =>
      have q0 := q 0 (by simp)
      simp at q0; subst q0
      exact .pn o (ih (by simpa using l) fun i hi => by simpa using q (i + 1) (by simpa using hi))
def gS (i : Nat) : D → S → Option S := fun d s => match s[i]? with
  | some .no => some (s.set i (.va d))
  | some (.va _) => some (s.set i (.va d))
  | _ => none
theorem gS_ok {σ p : L2.St} {s s' : S} {C C1 : CL} {i : Nat} {v : V} {d : D} (h : Slots K F σ p s C) (o : Own K F v d C1) (e : gS i d s = some s') : ∃ C', Slots K F (σ.set i (some v)) p s' C' ∧ ∀ x, cn x C' ≤ cn x C1 + cn x C := by
  have hlt : i < s.length ∧ s' = s.set i (.va d) := by
    unfold gS at e
    split at e
    · rename_i q; cases e; exact ⟨(List.getElem?_eq_some_iff.mp q).1, rfl⟩
    · rename_i q; cases e; exact ⟨(List.getElem?_eq_some_iff.mp q).1, rfl⟩
    · cases e
  obtain ⟨hl, rfl⟩ := hlt
  obtain ⟨C', h1, h2⟩ := h.forget i
  have h3 := h1.chg (x := some v) (i := i) (by simp [hl])
  have hl2 : i < σ.length := by rw [h.len.1]; exact hl
  obtain ⟨C'', h4, h5⟩ := h3.giveV o (i := i) (by simp [hl]) (by simp [hl2])
  rw [List.set_set] at h4
  exact ⟨C'', h4, fun x => by have := h2 x; have := h5 x; omega⟩
def tGF (K : PySem.W.Frag) (js : List Nat) (fg : D → S → Option S) : TG := fun v σ H Q => ∃ p F R s d C s', Own K F v d C ∧ Rel K p F (C ++ R) σ H s ∧ fg d s = some s' ∧
  ∀ σ' H' F', Le F F' → Rel K p F' R σ' H' s' → σ'.length = σ.length → (∀ i, i ∉ js → σ'[i]? = σ[i]?) → Q σ' H'
def tGFs (K : PySem.W.Frag) (js : List Nat) (fg : List D → S → Option S) : TGs := fun vs σ H Q => ∃ p F R s ds C s', OwnL K F vs ds C ∧ Rel K p F (C ++ R) σ H s ∧ fg ds s = some s' ∧
  ∀ σ' H' F', Le F F' → Rel K p F' R σ' H' s' → σ'.length = σ.length → (∀ i, i ∉ js → σ'[i]? = σ[i]?) → Q σ' H'
theorem pg_same {tg : Expr} {t t' : TG} (h : PG X tg t) (q : ∀ v σ H Q, t' v σ H Q → t v σ H Q) : PG X tg t' := ⟨fun pins s σ H v u Q I r z => h.run pins s σ H v u Q I r (q _ _ _ _ z)⟩
theorem pgs_same {tg : List Expr} {t t' : TGs} (h : PGs X tg t) (q : ∀ v σ H Q, t' v σ H Q → t v σ H Q) : PGs X tg t' := ⟨fun pins s σ H v u Q I r z => h.run pins s σ H v u Q I r (q _ _ _ _ z)⟩
end
end DL
set_option Elab.async false
set_option linter.all false
set_option maxRecDepth 100000
set_option maxHeartbeats 2000000
set_option exponentiation.threshold 600
/-! targets, loops, comprehensions, defs, calls -/
namespace DL
open PySem PySem.Spec PyProof.Rows L2 LB
section
variable {X : Cx} {K : PySem.W.Frag} {e a b tg : Expr} {fe fa fb : M D} {pos : Pos} {ft : M Bool} {st : Stmt} {rest : List Stmt} {f g : S → Option Out} {p : L2.St} {F F' : Hp} {R : CL} {E : Ends} {js : List Nat} {fg : D → S → Option S} {fgs : List D → S → Option S}
theorem tG_name {i : Nat} {v : V} {σ : L2.St} {H : Hp} {Q : L2.St → Hp → Prop} (z : tGF K [i] (gS i) v σ H Q) : gName i v σ H Q := by
  obtain ⟨p, F, R, s, d, C, s', o, ⟨Cs, hs, ha⟩, e, k⟩ := z
  obtain ⟨C', h1, h2⟩ := gS_ok hs o e
  refine k _ H F .refl ⟨C', h1, ha.sub fun x => ?_⟩ (by simp) fun j hj => ?_
  · simp only [cn_append]; have := h2 x; omega
  · simp only [List.mem_singleton] at hj
    rw [List.getElem?_set_ne (by omega)]
theorem g_name {i : Nat} (h : PG X tg (gName i)) : PG X tg (tGF K [i] (gS i)) := pg_same h fun v σ H Q z => tG_name z
def gN : List D → S → Option S
  | [], s => some s
  | _, _ => none
def gC (fg : D → S → Option S) (fgs : List D → S → Option S) : List D → S → Option S
  | d :: ds, s => (fg d s).bind (fgs ds)
  | [], _ => none
theorem gs_nil (h : PGs X [] gNil) : PGs X [] (tGFs K [] gN) := pgs_same h fun v σ H Q z => by
  obtain ⟨p, F, R, s, ds, C, s', o, hr, e, k⟩ := z
  cases ds with
  | nil =>
    cases o
    cases e
    exact ⟨rfl, k σ H F .refl hr rfl fun _ _ => rfl⟩
  | cons d ds => cases e
theorem gs_cons {es : List Expr} {js' : List Nat} (h1 : PG X e (tGF K js fg)) (h2 : PGs X es (tGFs K js' fgs))
    (hs : (assignEach (e :: es) X.env).map (·.2) = assign e X.env :: (assignEach es X.env).map (·.2) := by rfl) : PGs X (e :: es) (tGFs K (js ++ js') (gC fg fgs)) := pgs_same (pgs_cons h1 h2 hs) fun v σ H Q z => by
  obtain ⟨p, F, R, s, ds, C, s', o, hr, e, k⟩ := z
  cases ds with
  | nil => cases e
  | cons d ds =>
    cases o with
    | @cons v vs _ _ C1 C2 o t =>
      obtain ⟨s1, e1, e2⟩ := Option.bind_eq_some_iff.mp e
      refine ⟨v, vs, rfl, p, F, C2 ++ R, s, d, C1, s1, o, hr.sub fun x => by simp only [cn_append]; omega, e1, fun σ1 H1 F1 l1 r1 n1 q1 => ?_⟩
      refine ⟨p, F1, R, s1, ds, C2, s', t.mono l1, r1, e2, fun σ2 H2 F2 l2 r2 n2 q2 => ?_⟩
      refine k σ2 H2 F2 (l1.trans l2) r2 (n2.trans n1) fun i hi => ?_
      rw [List.mem_append, not_or] at hi
      rw [q2 i hi.2, q1 i hi.1]
def gT (n : Nat) (fgs : List D → S → Option S) : D → S → Option S
  | .tup _ ds, s => if ds.length = n then fgs ds s else none
  | _, _ => none
def gU (n : Nat) (fgs : List D → S → Option S) : D → S → Option S
  | .lst _ ds, s => if ds.length = n then fgs ds s else none
  | _, _ => none
theorem g_tup {es : List Expr} {k n : Nat} (hK : X.K = K) (hc : X.calm = true) (h : PGs X es (tGFs K js fgs))
    (hn : (assignEach es X.env).length = n := by rfl) (hst : (assignEach es X.env).findIdx? (·.1) = none := by rfl) : PG X (.Tuple es k pos) (tGF K js (gT n fgs)) := pg_same (k_gt hK hc h hn hst) fun v σ H Q z => by
  obtain ⟨p, F, R, s, d, C, s', o, hr, e, k⟩ := z
  cases d <;> try (cases e)
  rename_i ob ds
  change (if ds.length = n then fgs ds s else none) = some s' at e
  split at e
  · rename_i hl
    obtain ⟨Cs, hs, ha⟩ := hr
    obtain ⟨b, xs, C1, rfl, h2, h3, h4⟩ := o.seqT (U := Cs ++ R) (ha.sub fun x => by simp only [cn_append]; omega)
    exact ⟨b, xs, rfl, h2, by rw [h3.length]; exact hl, p, F, R, s, ds, C1, s', h3, ⟨Cs, hs, ha.sub fun x => by simp only [cn_append]; have := h4 x; omega⟩, e, k⟩
  · cases e
theorem g_unl {es : List Expr} {k n : Nat} (hK : X.K = K) (hc : X.calm = true) (h : PGs X es (tGFs K js fgs))
    (hn : (assignEach es X.env).length = n := by rfl) (hst : (assignEach es X.env).findIdx? (·.1) = none := by rfl) : PG X (.Tuple es k pos) (tGF K js (gU n fgs)) := pg_same (k_gl hK hc h hn hst) fun v σ H Q z => by
  obtain ⟨p, F, R, s, d, C, s', o, hr, e, k⟩ := z
  cases d <;> try (cases e)
  rename_i ob ds
  change (if ds.length = n then fgs ds s else none) = some s' at e
  split at e
  · rename_i hl
    obtain ⟨Cs, hs, ha⟩ := hr
    obtain ⟨b, xs, C1, rfl, h2, h3, h4⟩ := o.seqL (U := Cs ++ R) (ha.sub fun x => by simp only [cn_append]; omega)
    exact ⟨b, xs, rfl, h2.l, by rw [h3.length]; exact hl, p, F, R, s, ds, C1, s', h3, ⟨Cs, hs, ha.sub fun x => by simp only [cn_append]; have := h4 x; omega⟩, e, k⟩
  · cases e
/-! ### assignments -/
def sAsg (fe : M D) (fg : D → S → Option S) : S → Option Out := fun s => (fe s).bind fun x => (fg x.1 x.2).map Out.nx
theorem tS_asg {te : TE} {gg : TG} (h1 : ∀ σ H Q, tF K fe σ H Q → te σ H Q) (h2 : ∀ v σ H Q, tGF K js fg v σ H Q → gg v σ H Q) {σ : L2.St} {H : Hp} (z : tSF K (sAsg fe fg) E σ H) : tAsg te gg E σ H := by
  obtain ⟨p, F, R, s, o, hr, e, k⟩ := z
  obtain ⟨x, ex, e⟩ := Option.bind_eq_some_iff.mp e
  obtain ⟨s1, e1, e⟩ := Option.map_eq_some_iff.mp e
  cases e
  refine h1 _ _ _ ⟨p, F, R, s, x.1, x.2, hr, ex, fun v H1 F1 C1 l1 o1 r1 => ?_⟩
  exact h2 _ _ _ _ ⟨p, F1, R, x.2, x.1, C1, s1, o1, r1, e1, fun σ' H' F' l r _ _ => k σ' H' F' (l1.trans l) r⟩
theorem s_set {i : Nat} {x : Str} {pos' : Pos} (hN : X.N.Nodup) (hi : X.N[i]? = some x) (hx : Loc X.env.scope x) (he : PE X e (tF K fe)) (hs : swapsWith e (some (.Name x pos')) pos.line X.env = pure false := by rfl) (hf : X.fn x = true ∨ X.env.scope.names.lookup x = some .local := by first | exact .inl rfl | exact .inr rfl | assumption) :
    PS X (.Assign [.Name x pos'] e pos) (tSF K (sAsg fe (gS i))) := ps_same (ps_set hN hi hx he hs hf) fun E σ H z => tS_asg (fun _ _ _ z => z) (fun _ _ _ _ z => tG_name z) z
theorem s_asg (he : PE X e (tF K fe)) (hg : PG X tg (tGF K js fg)) (hs : swapsWithSole [tg] e pos.line X.env = pure false := by rfl) (hw : swappedStores [tg] e X.env = pure none := by rfl)
    (h1 : (assignEach [tg] X.env).map (·.2) = [assign tg X.env] := by rfl) : PS X (.Assign [tg] e pos) (tSF K (sAsg fe fg)) := ps_same (ps_asg he hg hs hw h1) fun E σ H z => tS_asg (fun _ _ _ z => z) (fun _ _ _ _ z => z) z
/-- x, y = a, b -/
def sPar (i j : Nat) (fas : M (List AR)) : S → Option Out := fun s => (fas s).bind fun a => (ARall a.1).bind fun ds => match ds with
  | [c, d] => ((gS i c a.2).bind (gS j d)).map Out.nx
  | _ => none
theorem s_par {i j : Nat} {x y : Str} {fas : M (List AR)} {px py pt : Pos} {kt k2 pt2} (hc : X.calm = true) (hN : X.N.Nodup) (hi : X.N[i]? = some x) (hj : X.N[j]? = some y) (hij : i ≠ j)
    (hx : X.env.scope.names.lookup x = some .local) (hy : X.env.scope.names.lookup y = some .local) (ha : PA X [a, b] (tFA K fas))
    (hw : swappedStores [.Tuple [.Name x px, .Name y py] kt pt] (.Tuple [a, b] k2 pt2) X.env = pure (some [x, y]))
    (hs : swapsWithSole [.Tuple [.Name x px, .Name y py] kt pt] (.Tuple [a, b] k2 pt2) pos.line X.env = pure false := by rfl) :
    PS X (.Assign [.Tuple [.Name x px, .Name y py] kt pt] (.Tuple [a, b] k2 pt2) pos) (tSF K (sPar i j fas)) := ps_same (ps_par hc hN hi hj hij hx hy ha hw hs) fun E σ H z => by
  obtain ⟨p, F, R, s, o, hr, e, k⟩ := z
  obtain ⟨q, eq, e⟩ := Option.bind_eq_some_iff.mp e
  obtain ⟨ds, ed, e⟩ := Option.bind_eq_some_iff.mp e
  refine ⟨p, F, R, s, q.1, q.2, hr, eq, fun vs H1 F1 C1 l1 o1 r1 => ?_⟩
  have o2 := o1.all ed
  match ds, o2, e with
  | [c, d], .cons oc (.cons od .nil), e =>
    obtain ⟨s2, e2, e⟩ := Option.map_eq_some_iff.mp e
    cases e
    obtain ⟨s1, e1, e2⟩ := Option.bind_eq_some_iff.mp e2
    obtain ⟨Cs, hs, ha⟩ := r1
    obtain ⟨C2, h2, h3⟩ := gS_ok hs oc e1
    obtain ⟨C3, h4, h5⟩ := gS_ok h2 od e2
    exact ⟨_, _, rfl, k _ H1 F1 l1 ⟨C3, h4, ha.sub fun x => by simp only [cn_append, cn_nil]; have := h3 x; have := h5 x; omega⟩⟩
def sPar3 (i j l : Nat) (fas : M (List AR)) : S → Option Out := fun s => (fas s).bind fun a => (ARall a.1).bind fun ds => match ds with
  | [c, d, u] => (((gS i c a.2).bind (gS j d)).bind (gS l u)).map Out.nx
  | _ => none
/-- x += e, over numbers, texts -/
def PIpD (K : PySem.W.Frag) (r : TIp) (g : D → D → Option D) : Prop := ∀ {F : Hp} {U C1 C2 : CL} {H : Hp} {x y : V} {d e z : D} {Q : VK}, g d e = some z → Own K F x d C1 → Own K F y e C2 → HA F (C1 ++ (C2 ++ U)) H →
  (∀ v H' F' C, Le F F' → Own K F' v z C → HA F' (C ++ U) H' → Q v H') → r x y H Q
def sAug (i : Nat) (g : D → D → Option D) (fe : M D) : S → Option Out := fun s => (Sl.get s[i]?).bind fun d => (fe s).bind fun y => (g d y.1).bind fun z => (gS i z y.2).map Out.nx
theorem s_aug {i : Nat} {x : Str} {op : Operator} {ti : TIp} {g : D → D → Option D} {pos' : Pos} (hN : X.N.Nodup) (hi : X.N[i]? = some x) (hx : Loc X.env.scope x) (he : PE X e (tF K fe)) (ho : PIp X op ti) (hg : PIpD K ti g) (hf : X.fn x = true ∨ X.env.scope.names.lookup x = some .local := by first | exact .inl rfl | exact .inr rfl | assumption) :
    PS X (.AugAssign (.Name x pos') op e pos) (tSF K (sAug i g fe)) := ps_same (ps_aug hN hi hx he ho hf) fun E σ H z => by
  obtain ⟨p, F, R, s, o, hr, e, k⟩ := z
  obtain ⟨d, ed, e⟩ := Option.bind_eq_some_iff.mp e
  obtain ⟨y, ey, e⟩ := Option.bind_eq_some_iff.mp e
  obtain ⟨z, ez, e⟩ := Option.bind_eq_some_iff.mp e
  obtain ⟨s1, e1, e⟩ := Option.map_eq_some_iff.mp e
  cases e
  have hv : ∃ v, σ[i]? = some (some v) ∧ Dn K F v d := by
    obtain ⟨C, hs, ha⟩ := hr
    cases q : s[i]? with
    | none => rw [q] at ed; cases ed
    | some sl =>
      rw [q] at ed
      cases sl with
      | no => cases ed
      | va d' =>
        change (if d'.isFz = true then some d' else none) = some d at ed
        split at ed
        · rename_i z; cases ed
          obtain ⟨v, C1, C2, h1, h2, _⟩ := hs.takeV q
          exact ⟨v, h1, (h2.fz z).2⟩
        · cases ed
      | pn d' =>
        change (if d'.isFz = true then some d' else none) = some d at ed
        split at ed
        · rename_i z; cases ed
          obtain ⟨v, C1, C2, h1, _, h2, _⟩ := hs.takeP q
          exact ⟨v, h1, (h2.fz z).2⟩
        · cases ed
  obtain ⟨v, hv, hd⟩ := hv
  refine ⟨v, hv, p, F, R, s, y.1, y.2, hr, ey, fun w H1 F1 C1 l1 o1 ⟨C, hs, ha⟩ => ?_⟩
  refine hg (C1 := []) (U := C ++ R) ez (.z (hd.mono l1)) o1 (ha.sub fun x => by simp only [cn_append, cn_nil]; omega) fun u H' F' C' l o h => ?_
  obtain ⟨C3, h3, h4⟩ := gS_ok (hs.mono l) o e1
  exact k _ H' F' (l1.trans l) ⟨C3, h3, h.sub fun x => by simp only [cn_append]; have := h4 x; omega⟩
/-! ### what is walked -/
def ItD (K : PySem.W.Frag) (F : Hp) (J : It) (ds : List D) : Prop := ∃ G Y, Walk J ds.length G Y ∧ (∀ H, Le F H → G H) ∧
  ∀ i H x H' F1 U, Le F F1 → HA F1 U H → Y i H x H' → i < ds.length → ∃ F2 d, Le F1 F2 ∧ HA F2 U H' ∧ ds[i]? = some d ∧ Dn K F2 x d
theorem ItD.mono {J : It} {ds : List D} (h : ItD K F J ds) (l : Le F F') : ItD K F' J ds := by
  obtain ⟨G, Y, w, g, y⟩ := h
  exact ⟨G, Y, w, fun H q => g H (l.trans q), fun i H x H' F1 U q => y i H x H' F1 U (l.trans q)⟩
def tIF (K : PySem.W.Frag) (fi : M (List D)) : TI := fun σ H T => ∃ p F R s ds s', Rel K p F R σ H s ∧ fi s = some (ds, s') ∧ ∀ J H' F', Le F F' → Rel K p F' R σ H' s' → ItD K F' J ds → T J H'
theorem pi_same {iter : Expr} {t t' : TI} (h : PI X tg iter t) (q : ∀ σ H Q, t' σ H Q → t σ H Q) : PI X tg iter t' := ⟨fun pins s σ H R I z => h.run pins s σ H R I (q _ _ _ z)⟩
theorem DnL.get {vs : List V} {ds : List D} (h : DnL K F vs ds) : ∀ {i : Nat} {v : V}, vs[i]? = some v → ∃ d, ds[i]? = some d ∧ Dn K F v d := by
  induction ds generalizing vs with
  | nil => intro i v e; cases h; simp at e
  | cons d ds ih =>
    intro i v e
    cases h with
    | cons q t =>
      cases i with
      | zero => simp at e; subst e; exact ⟨d, rfl, q⟩
      | succ i => obtain ⟨d', h1, h2⟩ := ih t (by simpa using e); exact ⟨d', by simpa using h1, h2⟩
theorem frzL_map (ds : List D) : D.frzL ds = ds.map D.frz := by
  induction ds with
  | nil => rfl
  | cons d ds ih => rw [D.frzL, ih]; rfl
/-- a value is frozen -/
theorem fzz {v : V} {d : D} {C U : CL} {H : Hp} (o : Own K F v d C) (h : HA F (C ++ U) H) : ∃ F', Le F F' ∧ HA F' U H ∧ Dn K F' v d.frz := by
  obtain ⟨h1, l, c, n⟩ := h.frz
  exact ⟨_, l, h1, o.frz l fun x hx => (c x hx).1⟩
def lstOf : D → Option (List D)
  | .lst _ ds => some (ds.map D.frz)
  | _ => none
def tupOf : D → Option (List D)
  | .tup _ ds => some (ds.map D.frz)
  | _ => none
theorem lstOf_fz {d : D} {ds : List D} (h : lstOf d = some ds) : d.frz = .lst false ds := by
  cases d <;> simp [lstOf] at h
  rw [D.frz, frzL_map, h]
theorem tupOf_fz {d : D} {ds : List D} (h : tupOf d = some ds) : d.frz = .tup false ds := by
  cases d <;> simp [tupOf] at h
  rw [D.frz, frzL_map, h]
def iL (fe : M D) : M (List D) := fun s => (fe s).bind fun x => (lstOf x.1).map fun ds => (ds, x.2)
def iT (fe : M D) : M (List D) := fun s => (fe s).bind fun x => (tupOf x.1).map fun ds => (ds, x.2)
theorem itd_list {a : Addr} {xs : List V} {ds : List D} (s : SqL K F a xs) (h : DnL K F xs ds) : ItD K F (Itl K a) ds := by
  refine ⟨_, _, h.length ▸ walk_list, fun H l => sqL_mono l s, fun i H x H' F1 U l ha y hi => ?_⟩
  obtain ⟨rfl, e⟩ := y
  obtain ⟨d, h1, h2⟩ := h.get e
  exact ⟨F1, d, .refl, ha, h1, h2.mono l⟩
theorem itd_tup {a : Addr} {xs : List V} {ds : List D} (s : SqT K F a xs) (h : DnL K F xs ds) : ItD K F (Itt K a) ds := by
  refine ⟨_, _, h.length ▸ walk_tup, fun H l => sqT_mono l s, fun i H x H' F1 U l ha y hi => ?_⟩
  obtain ⟨rfl, e⟩ := y
  obtain ⟨d, h1, h2⟩ := h.get e
  exact ⟨F1, d, .refl, ha, h1, h2.mono l⟩
theorem i_list (hK : X.K = K) (h : PE X e (tF K fe)) : PI X tg e (tIF K (iL fe)) := pi_same (k_piL hK h) fun σ H Q z => by
  obtain ⟨p, F, R, s, r, s', hr, e, k⟩ := z
  obtain ⟨x, ex, e⟩ := Option.bind_eq_some_iff.mp e
  obtain ⟨ds, ed, e⟩ := Option.map_eq_some_iff.mp e
  cases e
  refine ⟨p, F, R, s, x.1, x.2, hr, ex, fun v1 H1 F1 C1 l1 o1 ⟨C, hs, ha⟩ => ?_⟩
  obtain ⟨F2, l2, h2, d2⟩ := fzz (U := C ++ R) o1 (ha.sub fun x => by simp only [cn_append]; omega)
  rw [lstOf_fz ed] at d2
  cases d2 with
  | lst q t => exact ⟨_, rfl, ⟨_, sqL_mono h2.fr q.l⟩, k _ H1 F2 (l1.trans l2) ⟨C, hs.mono l2, h2⟩ (itd_list q.l t)⟩
theorem i_tup (hK : X.K = K) (h : PE X e (tF K fe)) : PI X tg e (tIF K (iT fe)) := pi_same (k_piT hK h) fun σ H Q z => by
  obtain ⟨p, F, R, s, r, s', hr, e, k⟩ := z
  obtain ⟨x, ex, e⟩ := Option.bind_eq_some_iff.mp e
  obtain ⟨ds, ed, e⟩ := Option.map_eq_some_iff.mp e
  cases e
  refine ⟨p, F, R, s, x.1, x.2, hr, ex, fun v1 H1 F1 C1 l1 o1 ⟨C, hs, ha⟩ => ?_⟩
  obtain ⟨F2, l2, h2, d2⟩ := fzz (U := C ++ R) o1 (ha.sub fun x => by simp only [cn_append]; omega)
  rw [tupOf_fz ed] at d2
  cases d2 with
  | tup q t => exact ⟨_, rfl, ⟨_, sqT_mono h2.fr q⟩, k _ H1 F2 (l1.trans l2) ⟨C, hs.mono l2, h2⟩ (itd_tup q t)⟩
def rgD (lo : Int) (n : Nat) : List D := (List.range n).map fun k : Nat => D.int (lo + k)
theorem itd_rg (lo : Int) (n : Nat) : ItD K F (Itr lo n) (rgD lo n) := by
  refine ⟨_, _, by rw [rgD, List.length_map, List.length_range]; exact walk_range, fun _ _ => trivial, fun i H x H' F1 U l ha y hi => ?_⟩
  obtain ⟨rfl, rfl⟩ := y
  rw [rgD, List.length_map, List.length_range] at hi
  exact ⟨F1, .int (lo + i), .refl, ha, by simp [rgD, hi], .int _⟩
def iR1 (fas : M (List AR)) : M (List D) := fun s => (fas s).bind fun a => match a.1 with
  | [.inl (.int j)] => if -(2 ^ 62) ≤ j ∧ j < 2 ^ 62 then some (rgD 0 j.toNat, a.2) else none
  | _ => none
def iR2 (fas : M (List AR)) : M (List D) := fun s => (fas s).bind fun a => match a.1 with
  | [.inl (.int i), .inl (.int j)] => if -(2 ^ 62) ≤ i ∧ i < 2 ^ 62 ∧ -(2 ^ 62) ≤ j ∧ j < 2 ^ 62 then some (rgD i (j - i).toNat, a.2) else none
  | _ => none
variable {fas : M (List AR)}
theorem i_range1 {p0 : Pos} (hg : Gl X "range") (hm : X.mg "range" = none) (ha : PA X [a] (tFA K fas)) (hs : starEach [a] X.env = [(false, eval a X.env)] := by rfl) : PI X tg (.Call (.Name "range" p0) [a] [] pos) (tIF K (iR1 fas)) := pi_same (pi_range1 hg hm ha hs) fun σ H Q z => by
  obtain ⟨p, F, R, s, r, s', hr, e, k⟩ := z
  obtain ⟨⟨as, s1⟩, ex, e⟩ := Option.bind_eq_some_iff.mp e
  refine ⟨p, F, R, s, as, s1, hr, ex, fun vs H1 F1 C1 l1 o1 r1 => ?_⟩
  match as, o1, e with
  | [.inl (.int j)], .d o .nil, e =>
    obtain ⟨rfl, rfl⟩ := own_int o
    change (if -(2 ^ 62) ≤ j ∧ j < 2 ^ 62 then some (rgD 0 j.toNat, s1) else none) = some (r, s') at e
    split at e
    · rename_i hb
      cases e
      exact ⟨j, rfl, hb.1, hb.2, k _ H1 F1 l1 r1 (itd_rg _ _)⟩
    · cases e
theorem i_range2 {p0 : Pos} (hg : Gl X "range") (hm : X.mg "range" = none) (ha : PA X [a, b] (tFA K fas)) (hs : starEach [a, b] X.env = [(false, eval a X.env), (false, eval b X.env)] := by rfl) (hs2 : starEach [b] X.env = [(false, eval b X.env)] := by rfl) :
    PI X tg (.Call (.Name "range" p0) [a, b] [] pos) (tIF K (iR2 fas)) := pi_same (pi_range2 hg hm ha hs hs2) fun σ H Q z => by
  obtain ⟨p, F, R, s, r, s', hr, e, k⟩ := z
  obtain ⟨⟨as, s1⟩, ex, e⟩ := Option.bind_eq_some_iff.mp e
  refine ⟨p, F, R, s, as, s1, hr, ex, fun vs H1 F1 C1 l1 o1 r1 => ?_⟩
  match as, o1, e with
  | [.inl (.int i), .inl (.int j)], .d o (.d o' .nil), e =>
    obtain ⟨rfl, rfl⟩ := own_int o
    obtain ⟨rfl, rfl⟩ := own_int o'
    change (if -(2 ^ 62) ≤ i ∧ i < 2 ^ 62 ∧ -(2 ^ 62) ≤ j ∧ j < 2 ^ 62 then some (rgD i (j - i).toNat, s1) else none) = some (r, s') at e
    split at e
    · rename_i hb
      cases e
      exact ⟨i, j, rfl, hb, k _ H1 F1 l1 r1 (itd_rg _ _)⟩
    · cases e
def pairD (x y : D) : D := .tup false [x, y]
def iE (fas : M (List AR)) : M (List D) := fun s => (fas s).bind fun a => match a.1 with
  | [.inl d] => (lstOf d).map fun ds => (ds.mapIdx fun i x => pairD (.int i) x, a.2)
  | _ => none
def iZ (fas : M (List AR)) : M (List D) := fun s => (fas s).bind fun a => match a.1 with
  | [.inl d, .inl e] => (lstOf d).bind fun ds => (lstOf e).map fun es => (List.zipWith pairD ds es, a.2)
  | _ => none
theorem i_enum {p0 tpos : Pos} {elts : List Expr} {kk : Nat} (hK : X.K = K) (hg : Gl X "enumerate") (hm : X.mg "enumerate" = none) (ha : PA X [e] (tFA K fas)) (hs : starEach [e] X.env = [(false, eval e X.env)] := by rfl) :
    PI X (.Tuple elts kk tpos) (.Call (.Name "enumerate" p0) [e] [] pos) (tIF K (iE fas)) := pi_same (k_enum hK hg hm ha hs) fun σ H Q z => by
  obtain ⟨p, F, R, s, r, s', hr, e, k⟩ := z
  obtain ⟨⟨as, s1⟩, ex, e⟩ := Option.bind_eq_some_iff.mp e
  refine ⟨p, F, R, s, as, s1, hr, ex, fun vs H1 F1 C1 l1 o1 ⟨C, hs, ha⟩ => ?_⟩
  match as, o1, e with
  | [.inl d], .d (C1 := C1) o .nil, e =>
    obtain ⟨ds, ed, e⟩ := Option.map_eq_some_iff.mp e
    cases e
    obtain ⟨F2, l2, h2, d2⟩ := fzz (U := C ++ R) o (ha.sub fun x => by simp only [cn_append, cn_nil]; omega)
    rw [lstOf_fz ed] at d2
    cases d2 with
    | lst q t =>
      refine ⟨_, _, rfl, sqL_mono h2.fr q.l, k _ H1 F2 (l1.trans l2) ⟨C, hs.mono l2, h2⟩ ?_⟩
      refine ⟨_, _, by rw [List.length_mapIdx, ← t.length]; exact walk_enum, fun H l => sqL_mono l q.l, fun i H x H' F1 U l ha y hi => ?_⟩
      obtain ⟨T, u, z, rfl, np, rfl, e1, e2⟩ := y
      cases e1
      obtain ⟨d', h1, h3⟩ := t.get e2
      obtain ⟨h4, l4⟩ := ha.newF np (.tup [.int (i : Nat), z])
      exact ⟨_, pairD (.int i) d', l4, h4, by simp [h1], .tup (.inl (.inl upd_same)) (.cons (.int _) (.cons (h3.mono (l.trans l4)) .nil))⟩
theorem i_zip {e2 : Expr} {p0 tpos : Pos} {elts : List Expr} {kk : Nat} (hK : X.K = K) (hg : Gl X "zip") (hm : X.mg "zip" = none) (ha : PA X [e, e2] (tFA K fas)) (hs : starEach [e, e2] X.env = (false, eval e X.env) :: starEach [e2] X.env := by rfl)
    (hpl : (backTo pos (starEach [e2] X.env)).any (·.1) = false := by rfl) : PI X (.Tuple elts kk tpos) (.Call (.Name "zip" p0) [e, e2] [] pos) (tIF K (iZ fas)) := pi_same (k_zip hK hg hm ha hs hpl) fun σ H Q z => by
  obtain ⟨p, F, R, s, r, s', hr, e, k⟩ := z
  obtain ⟨⟨as, s1⟩, ex, e⟩ := Option.bind_eq_some_iff.mp e
  refine ⟨p, F, R, s, as, s1, hr, ex, fun vs H1 F1 C1 l1 o1 ⟨C, hs, ha⟩ => ?_⟩
  match as, o1, e with
  | [.inl d, .inl d'], .d (C1 := Ca) o (.d (C1 := Cb) o' .nil), e =>
    obtain ⟨ds, ed, e⟩ := Option.bind_eq_some_iff.mp e
    obtain ⟨es, ee, e⟩ := Option.map_eq_some_iff.mp e
    cases e
    obtain ⟨F2, l2, h2, d2⟩ := fzz (U := Cb ++ (C ++ R)) o (ha.sub fun x => by simp only [cn_append, cn_nil]; omega)
    obtain ⟨F3, l3, h3, d3⟩ := fzz (U := C ++ R) (o'.mono l2) h2
    rw [lstOf_fz ed] at d2
    rw [lstOf_fz ee] at d3
    replace d2 := d2.mono l3
    cases d2 with
    | lst q t =>
      cases d3 with
      | lst q' t' =>
        refine ⟨_, _, _, _, rfl, sqL_mono h3.fr q.l, sqL_mono h3.fr q'.l, k _ H1 F3 (l1.trans (l2.trans l3)) ⟨C, hs.mono (l2.trans l3), h3⟩ ?_⟩
        refine ⟨fun H => SqL K H _ _ ∧ SqL K H _ _, _, by rw [List.length_zipWith, ← t.length, ← t'.length]; exact walk_zip rfl, fun H l => ⟨sqL_mono l q.l, sqL_mono l q'.l⟩, fun i H x H' F1 U l ha y hi => ?_⟩
        obtain ⟨T, u, z, rfl, np, rfl, e1, e2⟩ := y
        obtain ⟨d4, h1, h5⟩ := t.get e1
        obtain ⟨d5, h6, h7⟩ := t'.get e2
        obtain ⟨h4, l4⟩ := ha.newF np (.tup [u, z])
        exact ⟨_, pairD d4 d5, l4, h4, by simp [List.getElem?_zipWith, h1, h6], .tup (.inl (.inl upd_same)) (.cons (h5.mono (l.trans l4)) (.cons (h7.mono (l.trans l4)) .nil))⟩
/-! ### for, while -/
def fLoop (step : D → S → Option Out) : List D → S → Option Out
  | [], s => some (.nx s)
  | d :: ds, s => (step d s).bind fun o => match o with
    | .nx s' => fLoop step ds s'
    | .ct s' => fLoop step ds s'
    | .bk s' => some (.nx s')
    | .rt r s' => some (.rt r s')
def sFor (fi : M (List D)) (fg : D → S → Option S) (fb : S → Option Out) : S → Option Out := fun s => (fi s).bind fun x => fLoop (fun d s => (fg d s).bind fb) x.1 x.2
theorem s_for {iter : Expr} {body : List Stmt} {fi : M (List D)} {fb : S → Option Out} (hp : PassesOwn (model X.prog X.w) X.A X.env X.xe) (hc : X.calm = true) (hi : PI X tg iter (tIF K fi)) (hg : PG X tg (tGF K js fg)) (hb : PSs X body (tSF K fb))
    (hs : ∀ x, foldedSetIterable iter X.env x = pure x := by intro _; rfl) : PS X (.For tg iter body [] pos) (tSF K (sFor fi fg fb)) := ps_same (ps_for hp hc hi hg hb hs) fun E σ H z => by
  obtain ⟨p, F, R, s, o, hr, e, k⟩ := z
  obtain ⟨⟨ds, s1⟩, ex, e⟩ := Option.bind_eq_some_iff.mp e
  refine ⟨p, F, R, s, ds, s1, hr, ex, fun J H1 F1 l1 r1 hJ => ?_⟩
  obtain ⟨G, Y, w, hG, hY⟩ := hJ
  refine for_it w (fun i σ H => ∃ F' si, Le F1 F' ∧ Rel K p F' R σ H si ∧ fLoop (fun d s => (fg d s).bind fb) (ds.drop i) si = some o) ⟨F1, s1, .refl, r1, by simpa using e⟩ ?_ ?_ ?_
  · rintro i σ H _ ⟨F', si, l, ⟨C, _, ha⟩, _⟩
    exact hG H (l.trans ha.fr)
  · rintro i x σ H H' hi ⟨F', si, l, ⟨C, hs, ha⟩, el⟩ y
    obtain ⟨F2, d, l2, h2, hd, dd⟩ := hY i H x H' F' (C ++ R) l ha y hi
    rw [List.drop_eq_getElem_cons hi] at el
    have hd' : ds[i] = d := by rw [List.getElem?_eq_getElem hi] at hd; exact Option.some.inj hd
    rw [hd'] at el
    rw [fLoop] at el
    obtain ⟨o1, e1, e2⟩ := Option.bind_eq_some_iff.mp el
    obtain ⟨s2, e3, e4⟩ := Option.bind_eq_some_iff.mp e1
    refine ⟨p, F2, R, si, d, [], s2, .z dd, ⟨C, hs.mono l2, h2⟩, e3, fun σ' H' F3 l3 r3 _ _ => ?_⟩
    refine ⟨p, F3, R, s2, o1, r3, e4, ?_⟩
    have l13 : Le F1 F3 := l.trans (l2.trans l3)
    cases o1 with
    | nx s' => exact fun σ4 H4 F4 l4 r4 => ⟨F4, s', l13.trans l4, r4, e2⟩
    | ct s' => exact fun σ4 H4 F4 l4 r4 => ⟨F4, s', l13.trans l4, r4, e2⟩
    | bk s' => cases e2; exact fun σ4 H4 F4 l4 r4 => k σ4 H4 F4 (l1.trans (l13.trans l4)) r4
    | rt r s' => cases e2; exact fun v σ4 H4 F4 C4 l4 o4 r4 => k v σ4 H4 F4 C4 (l1.trans (l13.trans l4)) o4 r4
  · rintro σ H ⟨F', si, l, r, el⟩
    rw [List.drop_length] at el
    cases el
    exact k σ H F' (l1.trans l) r
def fWh (ft : M Bool) (fb : S → Option Out) : Nat → S → Option Out
  | 0, _ => none
  | n + 1, s => (ft s).bind fun x => if x.1 = true then (fb x.2).bind fun o => match o with
      | .nx s' => fWh ft fb n s'
      | .ct s' => fWh ft fb n s'
      | .bk s' => some (.nx s')
      | .rt r s' => some (.rt r s')
    else some (.nx x.2)
open Classical in
noncomputable def sWh (ft : M Bool) (fb : S → Option Out) : S → Option Out := fun s => if h : ∃ n o, fWh ft fb n s = some o then some (choose (choose_spec h)) else none
theorem fWh_mono {fb : S → Option Out} : ∀ {n : Nat} {s : S} {o : Out}, fWh ft fb n s = some o → ∀ m, n ≤ m → fWh ft fb m s = some o := by
  intro n
  induction n with
  | zero => intro s o h; cases h
  | succ n ih =>
    intro s o h m hm
    obtain ⟨m, rfl⟩ : ∃ k, m = k + 1 := ⟨m - 1, by omega⟩
    rw [fWh] at h ⊢
    obtain ⟨x, ex, h⟩ := Option.bind_eq_some_iff.mp h
    rw [ex]
    show (if x.1 = true then _ else _) = _
    split at h
    · rename_i q
      rw [if_pos q]
      obtain ⟨o1, e1, h⟩ := Option.bind_eq_some_iff.mp h
      rw [e1]
      cases o1 with
      | nx s' => exact ih h m (by omega)
      | ct s' => exact ih h m (by omega)
      | bk s' => exact h
      | rt r s' => exact h
    · rename_i q
      rw [if_neg q]; exact h
theorem sWh_of {fb : S → Option Out} {n : Nat} {s : S} {o : Out} (h : fWh ft fb n s = some o) : sWh ft fb s = some o := by
  unfold sWh
  have hx : ∃ n o, fWh ft fb n s = some o := ⟨n, o, h⟩
  rw [dif_pos hx]
  have h2 := Classical.choose_spec (Classical.choose_spec hx)
  have h3 := fWh_mono h (max n (Classical.choose hx)) (by omega)
  have h4 := fWh_mono h2 (max n (Classical.choose hx)) (by omega)
  rw [h3] at h4
  exact h4.symm
theorem sWh_ex {fb : S → Option Out} {s : S} {o : Out} (h : sWh ft fb s = some o) : ∃ n, fWh ft fb n s = some o := by
  unfold sWh at h
  split at h
  · rename_i hx
    have h2 := Classical.choose_spec (Classical.choose_spec hx)
    cases h
    exact ⟨_, h2⟩
  · cases h
theorem s_while {c : Expr} {body : List Stmt} {fb : S → Option Out} (hp : PassesOwn (model X.prog X.w) X.A X.env X.xe) (hc : PT X c (tFT K ft)) (hb : PSs X body (tSF K fb)) : PS X (.While c body [] pos) (tSF K (sWh ft fb)) := ps_same (ps_while hp hc hb) fun E σ H z => by
  obtain ⟨p, F, R, s, o, hr, e, k⟩ := z
  obtain ⟨n, e⟩ := sWh_ex e
  refine ⟨fun m σ H => ∃ F' si, Le F F' ∧ Rel K p F' R σ H si ∧ fWh ft fb m si = some o, ⟨n, F, s, .refl, hr, e⟩, ?_⟩
  rintro m σ H ⟨F', si, l, r, el⟩
  cases m with
  | zero => cases el
  | succ m =>
    rw [fWh] at el
    obtain ⟨x, ex, h⟩ := Option.bind_eq_some_iff.mp el
    refine ⟨p, F', R, si, x.1, x.2, r, ex, fun H1 F1 l1 r1 => ?_⟩
    split at h
    · rename_i q
      rw [if_pos q]
      obtain ⟨o1, e1, h⟩ := Option.bind_eq_some_iff.mp h
      refine ⟨fun σ' H' => ∃ F'' si, Le F F'' ∧ Rel K p F'' R σ' H' si ∧ fWh ft fb m si = some o, fun σ' H' w => ⟨m, by omega, w⟩, p, F1, R, x.2, o1, r1, e1, ?_⟩
      cases o1 with
      | nx s' => exact fun σ4 H4 F4 l4 r4 => ⟨F4, s', l.trans (l1.trans l4), r4, h⟩
      | ct s' => exact fun σ4 H4 F4 l4 r4 => ⟨F4, s', l.trans (l1.trans l4), r4, h⟩
      | bk s' => cases h; exact fun σ4 H4 F4 l4 r4 => k σ4 H4 F4 (l.trans (l1.trans l4)) r4
      | rt rr s' => cases h; exact fun v σ4 H4 F4 C4 l4 o4 r4 => k v σ4 H4 F4 C4 (l.trans (l1.trans l4)) o4 r4
    · rename_i q
      rw [if_neg q]
      cases h
      exact k σ H1 F1 (l.trans l1) r1
end
end DL
set_option Elab.async false
set_option linter.all false
set_option maxRecDepth 100000
set_option maxHeartbeats 2000000
set_option exponentiation.threshold 600
/-! comprehensions, calls, methods, defs -/
namespace DL
open PySem PySem.Spec PyProof.Rows L2 LB
theorem wipe_get (σ : L2.St) (vs : List Nat) (i : Nat) : (wipe σ vs)[i]? = if i ∈ vs then σ[i]?.map (fun _ => none) else σ[i]? := by
  induction vs with
  | nil => simp [wipe]
  | cons v vs ih =>
    rw [wipe, List.getElem?_set, ih]
    by_cases h : v = i
    · subst h
      simp only [List.mem_cons, true_or, if_true, wipe_length]
      split
      · rename_i q; simp [q]
      · rename_i q; rw [List.getElem?_eq_none (by omega)]; rfl
    · rw [if_neg h]
      have e : (i ∈ v :: vs) ↔ i ∈ vs := by simp [Ne.symm h]
      simp only [e]
theorem wipe_eq {σ σ' : L2.St} {vs : List Nat} (l : σ'.length = σ.length) (h : ∀ i, i ∉ vs → σ'[i]? = σ[i]?) : wipe σ' vs = wipe σ vs := by
  apply List.ext_getElem?
  intro i
  rw [wipe_get, wipe_get]
  by_cases hi : i ∈ vs
  · rw [if_pos hi, if_pos hi]
    by_cases q : i < σ.length
    · rw [List.getElem?_eq_getElem q, List.getElem?_eq_getElem (by omega)]; rfl
    · rw [List.getElem?_eq_none (by omega), List.getElem?_eq_none (by omega)]
  · rw [if_neg hi, if_neg hi, h i hi]
def wipeS : List Nat → S → S
  | [], s => s
  | v :: vs, s => (wipeS vs s).set v .no
theorem wipeS_len : ∀ (vs : List Nat) (s : S), (wipeS vs s).length = s.length
  | [], s => rfl
  | v :: vs, s => by rw [wipeS, List.length_set, wipeS_len]
theorem wipeS_in {vs : List Nat} {s : S} {i : Nat} (h : i ∈ vs) : (wipeS vs s)[i]? = some .no ∨ s.length ≤ i := by
  induction vs with
  | nil => cases h
  | cons v vs ih =>
    rw [wipeS, List.getElem?_set]
    by_cases e : v = i
    · subst e
      rw [if_pos rfl, wipeS_len]
      by_cases q : v < s.length
      · rw [if_pos q]; exact .inl rfl
      · exact .inr (by omega)
    · rw [if_neg e]
      refine ih ?_
      rcases List.mem_cons.mp h with z | z
      · exact absurd z.symm e
      · exact z
section
variable {K : PySem.W.Frag} {F F' : Hp} {σ σ' p : L2.St} {s : S} {C : CL}
theorem Slots.wipe (h : Slots K F σ p s C) : ∀ vs, ∃ C', Slots K F σ p (wipeS vs s) C' ∧ ∀ x, cn x C' ≤ cn x C
  | [] => ⟨C, h, fun _ => Nat.le_refl _⟩
  | v :: vs => by
    obtain ⟨C', h1, h2⟩ := Slots.wipe h vs
    obtain ⟨C'', h3, h4⟩ := h1.forget v
    exact ⟨C'', h3, fun x => Nat.le_trans (h4 x) (h2 x)⟩
/-- what is wiped may hold anything -/
theorem Slots.wiped {vs : List Nat} (h : Slots K F σ p (wipeS vs s) C) (l : σ'.length = σ.length) (q : ∀ i, i ∉ vs → σ'[i]? = σ[i]?) : Slots K F σ' p (wipeS vs s) C := by
  refine h.ofne l fun i hi => ?_
  by_cases hv : i ∈ vs
  · rcases wipeS_in (s := s) hv with z | z
    · exact absurd z hi
    · have := h.len.1
      rw [wipeS_len] at this
      rw [List.getElem?_eq_none (by omega), List.getElem?_eq_none (by omega)]
  · exact q i hv
end
section
variable {X : Cx} {K : PySem.W.Frag} {e a b tg : Expr} {fe fa fb : M D} {pos : Pos} {ft : M Bool} {st : Stmt} {rest : List Stmt} {f g : S → Option Out} {p : L2.St} {F F' : Hp} {R : CL} {E : Ends} {js : List Nat} {fg : D → S → Option S} {fgs : List D → S → Option S} {fas : M (List AR)}
/-! ### comprehensions -/
def fYes : M Bool := fun s => some (true, s)
theorem pts_same {ifs : List Expr} {t t' : TT} (h : PTs X ifs t) (q : ∀ σ H Q, t' σ H Q → t σ H Q) : PTs X ifs t' := ⟨fun pins s σ H Q I z => h.run pins s σ H Q I (q _ _ _ z)⟩
theorem l_nil : PTs X [] (tFT K fYes) := pts_same pts_nil fun σ H Q z => by
  obtain ⟨p, F, R, s, r, s', hr, e, k⟩ := z
  cases e
  exact k H F .refl hr
theorem l_one {c : Expr} (h : PT X c (tFT K ft)) : PTs X [c] (tFT K ft) := pts_one h
def lcGo (fg : D → S → Option S) (ft : M Bool) (fe : M D) (vs : List Nat) : List D → S → Option (List D × S)
  | [], s => some ([], s)
  | d :: ds, s => (fg d (wipeS vs s)).bind fun s1 => (ft s1).bind fun t => if t.1 = true then (fe t.2).bind fun r => (lcGo fg ft fe vs ds r.2).map fun q => (r.1 :: q.1, q.2) else lcGo fg ft fe vs ds t.2
def fLc (fi : M (List D)) (fg : D → S → Option S) (ft : M Bool) (fe : M D) (vs : List Nat) : M D := fun s => (fi s).bind fun x => if x.1.length ≤ mx then (lcGo fg ft fe vs x.1 x.2).map fun q => (.lst true q.1, wipeS vs q.2) else none
theorem mx_lt {n : Nat} (h : n < mx) : n < sizeLine := szl h
theorem tF_lc {fi : M (List D)} {vs : List Nat} (hj : ∀ j ∈ js, j ∈ vs) {σ : L2.St} {H : Hp} {Q : VK} (z : tF K (fLc fi fg ft fe vs) σ H Q) : tLc (tIF K fi) (tGF K js fg) (tFT K ft) (tF K fe) vs σ H Q := by
  obtain ⟨p, F, R, s, r, s', hr, e, k⟩ := z
  obtain ⟨⟨ds, s1⟩, ex, e⟩ := Option.bind_eq_some_iff.mp e
  change (if ds.length ≤ mx then (lcGo fg ft fe vs ds s1).map fun q => (D.lst true q.1, wipeS vs q.2) else none) = some (r, s') at e
  split at e
  rotate_left
  · cases e
  rename_i hl
  obtain ⟨⟨out, s9⟩, eg, e⟩ := Option.map_eq_some_iff.mp e
  cases e
  refine ⟨p, F, R, s, ds, s1, hr, ex, fun J H1 F1 l1 ⟨C1, hs1, ha1⟩ hJ A nA => ?_⟩
  obtain ⟨G, Y, w, hG, hY⟩ := hJ
  refine L2.lc_it w (fun i H => ∃ F' si accV accD Ca Cs rest, Le F1 F' ∧ Slots K F' σ p (wipeS vs si) Cs ∧ OwnL K F' accV accD Ca ∧ HA F' ((A, .lst accV) :: (Ca ++ (Cs ++ R))) H ∧ accD.length ≤ i ∧
    lcGo fg ft fe vs (ds.drop i) si = some (rest, s9) ∧ out = accD ++ rest) ?_ ?_ ?_ ?_
  · obtain ⟨C', h2, h3⟩ := hs1.wipe vs
    exact ⟨F1, s1, [], [], [], C', out, .refl, h2, .nil, (ha1.new nA _).sub fun x => by simp only [cn_append, cn_cons, cn_nil]; have := h3 x; omega, Nat.le_refl _, by simpa using eg, rfl⟩
  · rintro i H _ ⟨F', si, accV, accD, Ca, Cs, rest, l, hs, hacc, ha, _⟩
    exact hG H (l.trans ha.fr)
  · rintro i x H H' hi ⟨F', si, accV, accD, Ca, Cs, rest, l, hs, hacc, ha, hn, hgo, ho⟩ y
    obtain ⟨F2, d, l2, h2, hd, dd⟩ := hY i H x H' F' _ l ha y hi
    rw [List.drop_eq_getElem_cons hi] at hgo
    have hd' : ds[i] = d := by rw [List.getElem?_eq_getElem hi] at hd; exact Option.some.inj hd
    rw [hd', lcGo] at hgo
    obtain ⟨s2, e2, hgo⟩ := Option.bind_eq_some_iff.mp hgo
    obtain ⟨⟨tb, s3⟩, e3, hgo⟩ := Option.bind_eq_some_iff.mp hgo
    have hs' : Slots K F2 (wipe σ vs) p (wipeS vs si) Cs := (hs.mono l2).wiped (wipe_length _ _) fun i hi => by rw [wipe_get, if_neg hi]
    refine ⟨p, F2, (A, .lst accV) :: (Ca ++ R), wipeS vs si, d, [], s2, .z dd, ⟨Cs, hs', h2.sub fun x => by simp only [cn_append, cn_cons, cn_nil]; omega⟩, e2, fun σ3 H3 F3 l3 r3 n3 q3 => ?_⟩
    have q3' : ∀ i, i ∉ vs → σ3[i]? = σ[i]? := fun i hi => by rw [q3 i fun z => hi (hj i z), wipe_get, if_neg hi]
    have n3' : σ3.length = σ.length := n3.trans (wipe_length _ _)
    refine ⟨wipe_eq n3' q3', p, F3, _, s2, tb, s3, r3, e3, fun H4 F4 l4 r4 => ?_⟩
    have l14 : Le F1 F4 := l.trans (l2.trans (l3.trans l4))
    have back : ∀ {F5 : Hp} {s5 : S} {R5 : CL} {H5 : Hp}, Rel K p F5 R5 σ3 H5 s5 → ∃ C', Slots K F5 σ p (wipeS vs s5) C' ∧ HA F5 (C' ++ R5) H5 := by
      rintro F5 s5 R5 H5 ⟨C5, hs5, ha5⟩
      obtain ⟨C', h6, h7⟩ := hs5.wipe vs
      exact ⟨C', h6.wiped n3'.symm fun i hi => (q3' i hi).symm, ha5.sub fun x => by simp only [cn_append]; have := h7 x; omega⟩
    cases tb with
    | true =>
      refine iteT ?_
      change ((fe s3).bind fun r => (lcGo fg ft fe vs (ds.drop (i + 1)) r.2).map fun q => (r.1 :: q.1, q.2)) = some (rest, s9) at hgo
      obtain ⟨⟨r5, s5⟩, e5, hgo⟩ := Option.bind_eq_some_iff.mp hgo
      obtain ⟨⟨q6, s6⟩, e6, hgo⟩ := Option.map_eq_some_iff.mp hgo
      cases hgo
      refine ⟨p, F4, _, s3, r5, s5, r4, e5, fun v H5 F5 C5 l5 o5 r5' => ?_⟩
      obtain ⟨C', h6, h7⟩ := back r5'
      refine ⟨accV, (h7.ow (A, .lst accV) (by simp)).1, szl (by rw [hacc.length]; have : mx = 1000000 := rfl; omega), F5, s5, accV ++ [v], accD ++ [r5], Ca ++ (C5 ++ []), C', q6, l14.trans l5, h6, ?_, ?_, by simp; omega, e6, by rw [ho]; simp⟩
      · exact (hacc.mono (l2.trans (l3.trans (l4.trans l5)))).append (.cons o5 .nil)
      · have h8 : HA F5 ((A, .lst accV) :: (C' ++ (C5 ++ (Ca ++ R)))) H5 := h7.sub fun x => by simp only [cn_append, cn_cons]; omega
        exact (h8.put _).sub fun x => by simp only [cn_append, cn_cons, cn_nil]; omega
    | false =>
      refine iteF ?_
      change lcGo fg ft fe vs (ds.drop (i + 1)) s3 = some (rest, s9) at hgo
      obtain ⟨C', h6, h7⟩ := back r4
      exact ⟨F4, s3, accV, accD, Ca, C', rest, l14, h6, hacc.mono (l2.trans (l3.trans l4)), h7.sub fun x => by simp only [cn_append, cn_cons]; omega, by omega, hgo, ho⟩
  · rintro H ⟨F', si, accV, accD, Ca, Cs, rest, l, hs, hacc, ha, hn, hgo, ho⟩
    rw [List.drop_length] at hgo
    cases hgo
    rw [List.append_nil] at ho
    subst ho
    exact k _ H F' _ (l1.trans l) (.lst hacc) ⟨Cs, hs, ha.sub fun x => by simp only [cn_append, cn_cons]; omega⟩
theorem e_lc {elt iter : Expr} {ifs : List Expr} {scope : Scope} {own : List (Str × Nat)} {vs : List Nat} {fi : M (List D)} (hv : own.map (·.2) = vs) (hj : ∀ j ∈ js, j ∈ vs) (hc : X.calm = true) (hN : X.N.Nodup) (hi : PI X tg iter (tIF K fi)) (ok : BlkOk X.N X.env.scope scope own)
    (hg : ∀ (s : Shared) (H : Hp) (C : Addr) (cl : List (Str × Addr)) (fp : List Addr), PG (X.blk s H scope (compEnvC scope cl C X.env) fp) tg (tGF K js fg)) (ht : ∀ (s : Shared) (H : Hp) (C : Addr) (cl : List (Str × Addr)) (fp : List Addr), PTs (X.blk s H scope (compEnvC scope cl C X.env) fp) ifs (tFT K ft))
    (he : ∀ (s : Shared) (H : Hp) (C : Addr) (cl : List (Str × Addr)) (fp : List Addr), PE (X.blk s H scope (compEnvC scope cl C X.env) fp) elt (tF K fe)) (hs : ∀ x, foldedSetIterable iter X.env x = pure x := by intro _; rfl) :
    PE X (.ListComp elt [⟨tg, iter, ifs, 0⟩] scope pos) (tF K (fLc fi fg ft fe vs)) := by
  subst hv
  exact pe_same (pe_lc hc hN hi ok hg ht he hs) fun σ H Q z => tF_lc hj z
theorem s_setLc {i : Nat} {y : Str} {py : Pos} {elt iter : Expr} {ifs : List Expr} {scope : Scope} {own : List (Str × Nat)} {vs : List Nat} {spos : Pos} {fi : M (List D)} (hv : own.map (·.2) = vs) (hj : ∀ j ∈ js, j ∈ vs) (hc : X.calm = true) (hN : X.N.Nodup) (hy : X.N[i]? = some y) (hyl : X.env.scope.names.lookup y = some .local)
    (hsw : swapsWith (.ListComp elt [⟨tg, iter, ifs, 0⟩] scope pos) (some (.Name y py)) spos.line X.env = pure true) (hi : PI X tg iter (tIF K fi)) (ok : BlkOk X.N X.env.scope scope own)
    (hg : ∀ (s : Shared) (H : Hp) (C : Addr) (cl : List (Str × Addr)) (fp : List Addr), PG (X.blk s H scope (compEnvC scope cl C X.env) fp) tg (tGF K js fg)) (ht : ∀ (s : Shared) (H : Hp) (C : Addr) (cl : List (Str × Addr)) (fp : List Addr), PTs (X.blk s H scope (compEnvC scope cl C X.env) fp) ifs (tFT K ft))
    (he : ∀ (s : Shared) (H : Hp) (C : Addr) (cl : List (Str × Addr)) (fp : List Addr), PE (X.blk s H scope (compEnvC scope cl C X.env) fp) elt (tF K fe)) (ms : List Nat) (hs : ∀ x, foldedSetIterable iter X.env x = pure x := by intro _; rfl) :
    PS X (.Assign [.Name y py] (.ListComp elt [⟨tg, iter, ifs, 0⟩] scope pos) spos) (tSF K (sAsg (fSc ms (fLc fi fg ft fe vs)) (gS i))) := by
  subst hv
  refine ps_same (ps_setLc hc hN hy hyl hsw hi ok hg ht he hs) fun E σ H z => tS_asg (fun σ H Q z => tF_lc hj (tF_sc ms z)) (fun _ _ _ _ z => tG_name z) z
/-! ### calls: slots that are lent -/
def takeIO : List AR → S → Option (List D × List (Nat × Bool) × S)
  | [], s => some ([], [], s)
  | .inl d :: as, s => (takeIO as s).map fun r => (d :: r.1, r.2)
  | .inr i :: as, s => match s[i]? with
    | some (.va d) => (takeIO as (s.set i .no)).map fun r => (d :: r.1, (i, false) :: r.2.1, r.2.2)
    | some (.pn d) => (takeIO as (s.set i .no)).map fun r => (d :: r.1, (i, true) :: r.2.1, r.2.2)
    | _ => none
def giveIO : List (Nat × Bool) → List D → S → Option S
  | [], [], s => some s
  | (i, b) :: l, d :: ds, s => match s[i]? with
    | some .no => giveIO l ds (s.set i (if b = true then .pn d else .va d))
    | _ => none
  | _, _, _ => none
def pick : List Bool → List V → List V
  | true :: l, v :: vs => v :: pick l vs
  | false :: l, _ :: vs => pick l vs
  | _, _ => []
theorem takeIO_ok {σ p : L2.St} : ∀ {as : List AR} {vs : List V} {s : S} {ds : List D} {ln : List (Nat × Bool)} {s2 : S} {C Cs : CL}, takeIO as s = some (ds, ln, s2) → OwnA K F σ vs as C → Slots K F σ p s Cs →
    ∃ Ca C2, OwnL K F vs ds Ca ∧ Slots K F σ p s2 C2 ∧ (∀ x, cn x Ca + cn x C2 = cn x C + cn x Cs) ∧ vs.length = as.length ∧
      ∀ F' outs Co s3 s4 C5, OwnL K F' (pick (as.map Sum.isRight) vs) outs Co → Slots K F' σ p s3 C5 → giveIO ln outs s3 = some s4 → ∃ C4, Slots K F' σ p s4 C4 ∧ ∀ x, cn x C4 = cn x Co + cn x C5 := by
  intro as
  induction as with
  | nil =>
    intro vs s ds ln s2 C Cs e o h
    cases o
    cases e
    refine ⟨[], Cs, .nil, h, fun x => rfl, rfl, fun F' outs Co s3 s4 C5 o' h' g => ?_⟩
    cases outs with
    | nil => cases o'; cases g; exact ⟨C5, h', fun x => by rw [cn_nil]; omega⟩
    | cons d ds => cases g
  | cons r as ih =>
    intro vs s ds ln s2 C Cs e o h
    cases r with
    | inl d =>
      rw [takeIO] at e
      obtain ⟨⟨q1, q2⟩, eq, e⟩ := Option.map_eq_some_iff.mp e
      cases e
      cases o with
      | @d v vs _ _ C1 C2 o t =>
        obtain ⟨Ca, C2, h1, h2, h3, h4, h5⟩ := ih eq t h
        exact ⟨C1 ++ Ca, C2, .cons o h1, h2, fun x => by rw [cn_append, cn_append]; have := h3 x; omega, by simp [h4], h5⟩
    | inr i =>
      cases o with
      | @io v vs _ _ C2 hv t =>
        rw [takeIO] at e
        split at e
        · rename_i d q
          obtain ⟨⟨q1, q2, q3⟩, eq, e⟩ := Option.map_eq_some_iff.mp e
          cases e
          obtain ⟨v', C1, Cr, k1, k2, k3, k4⟩ := h.takeV q
          have ev : v' = v := by rw [k1] at hv; exact Option.some.inj (Option.some.inj hv)
          subst ev
          obtain ⟨Ca, C6, h1, h2, h3, h4, h5⟩ := ih eq t k3
          refine ⟨C1 ++ Ca, C6, .cons k2 h1, h2, fun x => by rw [cn_append]; have := h3 x; have := k4 x; omega, by simp [h4], fun F' outs Co s3 s4 C5 o' h' g => ?_⟩
          cases outs with
          | nil => cases o'
          | cons d' outs =>
            cases o' with
            | @cons _ _ _ _ D1 D2 o1 o2 =>
              rw [giveIO] at g
              split at g
              · rename_i qn
                obtain ⟨C7, m1, m2⟩ := h'.giveV o1 qn hv
                obtain ⟨C8, m3, m4⟩ := h5 F' outs D2 _ s4 C7 o2 m1 g
                exact ⟨C8, m3, fun x => by rw [m4, m2, cn_append]; omega⟩
              · cases g
        · rename_i d q
          obtain ⟨⟨q1, q2, q3⟩, eq, e⟩ := Option.map_eq_some_iff.mp e
          cases e
          obtain ⟨v', C1, Cr, k1, k0, k2, k3, k4⟩ := h.takeP q
          have ev : v' = v := by rw [k1] at hv; exact Option.some.inj (Option.some.inj hv)
          subst ev
          obtain ⟨Ca, C6, h1, h2, h3, h4, h5⟩ := ih eq t k3
          refine ⟨C1 ++ Ca, C6, .cons k2 h1, h2, fun x => by rw [cn_append]; have := h3 x; have := k4 x; omega, by simp [h4], fun F' outs Co s3 s4 C5 o' h' g => ?_⟩
          cases outs with
          | nil => cases o'
          | cons d' outs =>
            cases o' with
            | @cons _ _ _ _ D1 D2 o1 o2 =>
              rw [giveIO] at g
              split at g
              · rename_i qn
                obtain ⟨C7, m1, m2⟩ := h'.giveP o1 qn hv k0
                obtain ⟨C8, m3, m4⟩ := h5 F' outs D2 _ s4 C7 o2 m1 g
                exact ⟨C8, m3, fun x => by rw [m4, m2, cn_append]; omega⟩
              · cases g
        · cases e
/-- the promise of a def: FD tells its result and what becomes of the parameters that are changed in place -/
def spD (K : PySem.W.Frag) (io : List Bool) (FD : List D → Option (D × List D)) : Sp := fun vs H Q _ => ∃ F R ds C r outs, vs.length = io.length ∧ OwnL K F vs ds C ∧ HA F (C ++ R) H ∧ FD ds = some (r, outs) ∧
  ∀ v H' F' Cr Co, Le F F' → Own K F' v r Cr → OwnL K F' (pick io vs) outs Co → HA F' (Cr ++ (Co ++ R)) H' → Q v H'
/-- what comes back to slots: not to what was made for the call alone -/
def selO : List Bool → List AR → List D → List D
  | true :: io, .inr _ :: as, d :: outs => d :: selO io as outs
  | true :: io, .inl _ :: as, _ :: outs => selO io as outs
  | false :: io, _ :: as, outs => selO io as outs
  | _, _, _ => []
def okIO : List Bool → List AR → Bool
  | true :: io, _ :: as => okIO io as
  | false :: io, .inl _ :: as => okIO io as
  | [], [] => true
  | _, _ => false
theorem okIO_len : ∀ {io : List Bool} {as : List AR}, okIO io as = true → as.length = io.length
  | [], [], _ => rfl
  | true :: io, _ :: as, h => by simp [okIO_len (io := io) (as := as) (by simpa [okIO] using h)]
  | false :: io, .inl _ :: as, h => by simp [okIO_len (io := io) (as := as) (by simpa [okIO] using h)]
  | false :: io, .inr _ :: as, h => by simp [okIO] at h
  | true :: io, [], h => by simp [okIO] at h
  | false :: io, [], h => by simp [okIO] at h
  | [], _ :: _, h => by simp [okIO] at h
theorem selO_ok {F : Hp} : ∀ {io : List Bool} {as : List AR} {vs : List V} {outs : List D} {Co : CL}, okIO io as = true → OwnL K F (pick io vs) outs Co → ∃ Co', OwnL K F (pick (as.map Sum.isRight) vs) (selO io as outs) Co' ∧ ∀ x, cn x Co' ≤ cn x Co
  | [], as, vs, outs, Co, h, o => by
    have : as = [] := List.eq_nil_of_length_eq_zero (okIO_len h)
    subst this
    exact ⟨[], .nil, fun x => by rw [cn_nil]; omega⟩
  | true :: io, [], vs, outs, Co, h, o => by simp [okIO] at h
  | false :: io, [], vs, outs, Co, h, o => by simp [okIO] at h
  | false :: io, .inr _ :: as, vs, outs, Co, h, o => by simp [okIO] at h
  | true :: io, a :: as, [], outs, Co, h, o => by
    cases a <;> (cases o; exact ⟨[], .nil, fun x => by rw [cn_nil]; omega⟩)
  | false :: io, .inl _ :: as, [], outs, Co, h, o => by
    have h2 := selO_ok (vs := []) (outs := outs) (Co := Co) (io := io) (as := as) (by simpa [okIO] using h) (by cases io <;> first | exact o | (rename_i b _; cases b <;> exact o))
    obtain ⟨Co', h3, h4⟩ := h2
    refine ⟨Co', ?_, h4⟩
    have e : ∀ l : List Bool, pick l [] = [] := fun l => by cases l <;> first | rfl | (rename_i b _; cases b <;> rfl)
    rw [e] at h3 ⊢
    exact h3
  | true :: io, .inr i :: as, v :: vs, outs, Co, h, o => by
    cases o with
    | @cons _ _ d ds C1 C2 o t =>
      obtain ⟨Co', h3, h4⟩ := selO_ok (by simpa [okIO] using h) t
      exact ⟨C1 ++ Co', .cons o h3, fun x => by rw [cn_append, cn_append]; have := h4 x; omega⟩
  | true :: io, .inl i :: as, v :: vs, outs, Co, h, o => by
    cases o with
    | @cons _ _ d ds C1 C2 o t =>
      obtain ⟨Co', h3, h4⟩ := selO_ok (by simpa [okIO] using h) t
      exact ⟨Co', h3, fun x => by rw [cn_append]; have := h4 x; omega⟩
  | false :: io, .inl i :: as, v :: vs, outs, Co, h, o => by
    obtain ⟨Co', h3, h4⟩ := selO_ok (io := io) (as := as) (vs := vs) (outs := outs) (Co := Co) (by simpa [okIO] using h) o
    exact ⟨Co', h3, h4⟩
def fCall (io : List Bool) (FD : List D → Option (D × List D)) (fas : M (List AR)) : M D := fun s => (fas s).bind fun a => if okIO io a.1 = true then (takeIO a.1 a.2).bind fun t => (FD t.1).bind fun r => (giveIO t.2.1 (selO io a.1 r.2) t.2.2).map fun s3 => (r.1, s3) else none
theorem tF_call {io : List Bool} {FD : List D → Option (D × List D)} {σ : L2.St} {H : Hp} {Q : VK} {E : XK} (z : tF K (fCall io FD fas) σ H Q) : tCall (spD K io FD) [] E (tFA K fas) σ H Q := by
  obtain ⟨p, F, R, s, r, s', hr, e, k⟩ := z
  obtain ⟨⟨as, s1⟩, ea, e⟩ := Option.bind_eq_some_iff.mp e
  change (if okIO io as = true then _ else none) = _ at e
  split at e
  rotate_left
  · cases e
  rename_i hio
  obtain ⟨⟨ds, ln, s2⟩, et, e⟩ := Option.bind_eq_some_iff.mp e
  obtain ⟨⟨rr, outs⟩, er, e⟩ := Option.bind_eq_some_iff.mp e
  obtain ⟨s3, eg, e⟩ := Option.map_eq_some_iff.mp e
  cases e
  refine ⟨p, F, R, s, as, s1, hr, ea, fun vs H1 F1 C1 l1 o1 ⟨Cs, hs, ha⟩ => ?_⟩
  obtain ⟨Ca, C2, h1, h2, h3, h4, h5⟩ := takeIO_ok et o1 hs
  rw [List.append_nil]
  refine ⟨F1, C2 ++ R, ds, Ca, rr, outs, by rw [h4, okIO_len hio], h1, ha.sub fun x => by simp only [cn_append]; have := h3 x; omega, er, fun v H' F' Cr Co l o oo hh => ?_⟩
  obtain ⟨Co', oo', hco⟩ := selO_ok hio oo
  obtain ⟨C4, h6, h7⟩ := h5 F' _ Co' s2 s' C2 oo' (h2.mono l) eg
  exact k v H' F' Cr (l1.trans l) o ⟨C4, h6, hh.sub fun x => by simp only [cn_append, h7]; have := hco x; omega⟩
theorem e_call {x : Str} {ps : List Str} {k : Nat} {io : List Bool} {FD : List D → Option (D × List D)} {es : List Expr} {p0 : Pos} (h : Has X.prog X.w X.K X.mg X.base CX0 x ps k (spD K io FD)) (hr : Rm k X.A) (hg : Gl X x) (ha : PA X (e :: es) (tFA K fas)) (hdb : (x == ("__debug__" : Str)) = false := by decide)
    (he : starEach (e :: es) X.env = (false, eval e X.env) :: starEach es X.env := by rfl) (hpl : (backTo pos (starEach es X.env)).any (·.1) = false := by rfl) :
    PE X (.Call (.Name x p0) (e :: es) [] pos) (tF K (fCall io FD fas)) := pe_same (pe_callH h hr hg ha hdb he hpl) fun σ H Q z => tF_call z
/-! ### methods that change a list -/
/-- the owned list of a slot -/
def Sl.ls : Option Sl → Option (List D)
  | some (.va (.lst true ds)) => some ds
  | some (.pn (.lst true ds)) => some ds
  | _ => none
def Sl.put (s : S) (j : Nat) (d : D) : S := match s[j]? with
  | some (.pn _) => s.set j (.pn d)
  | _ => s.set j (.va d)
theorem ls_take {σ : L2.St} {s : S} {C : CL} {j : Nat} {ds : List D} (h : Slots K F σ p s C) (e : Sl.ls s[j]? = some ds) : ∃ a xs C1 C2, σ[j]? = some (some (.ref a)) ∧ OwnL K F xs ds C1 ∧ (∀ x, cn x C = c1 x (a, .lst xs) + cn x C1 + cn x C2) ∧
    ∀ F' xs' ds' C', Le F F' → OwnL K F' xs' ds' C' → ∃ C'', Slots K F' σ p (Sl.put s j (.lst true ds')) C'' ∧ ∀ x, cn x C'' = c1 x (a, .lst xs') + cn x C' + cn x C2 := by
  cases q : s[j]? with
  | none => rw [q] at e; cases e
  | some sl =>
    rw [q] at e
    have hj : j < s.length := (List.getElem?_eq_some_iff.mp q).1
    match sl, e with
    | .va (.lst true _), e =>
      cases e
      obtain ⟨v, C1, C2, h1, h2, h3, h4⟩ := h.takeV q
      cases h2 with
      | z q => cases q
      | @lst a xs _ C1 t =>
        refine ⟨a, xs, C1, C2, h1, t, fun x => by rw [h4, cn_cons], fun F' xs' ds' C' l t' => ?_⟩
        obtain ⟨C3, h5, h6⟩ := (h3.mono l).giveV (.lst t') (i := j) (by simp [hj]) h1
        rw [List.set_set] at h5
        refine ⟨C3, ?_, fun x => by rw [h6, cn_cons]⟩
        unfold Sl.put
        rw [q]
        exact h5
    | .pn (.lst true _), e =>
      cases e
      obtain ⟨v, C1, C2, h1, h0, h2, h3, h4⟩ := h.takeP q
      cases h2 with
      | z q => cases q
      | @lst a xs _ C1 t =>
        refine ⟨a, xs, C1, C2, h1, t, fun x => by rw [h4, cn_cons], fun F' xs' ds' C' l t' => ?_⟩
        obtain ⟨C3, h5, h6⟩ := (h3.mono l).giveP (.lst t') (i := j) (by simp [hj]) h1 h0
        rw [List.set_set] at h5
        refine ⟨C3, ?_, fun x => by rw [h6, cn_cons]⟩
        unfold Sl.put
        rw [q]
        exact h5
def MtD (K : PySem.W.Frag) (r : V → List V → Hp → VK → Prop) (g : List D → List D → Option (D × List D)) : Prop := ∀ {F : Hp} {U C1 C2 : CL} {H : Hp} {a : Addr} {xs vs : List V} {ds as ds' : List D} {z : D} {Q : VK}, g ds as = some (z, ds') → OwnL K F xs ds C1 → OwnL K F vs as C2 → HA F ((a, .lst xs) :: (C1 ++ (C2 ++ U))) H →
  (∀ v H' F' xs' C' Cz, Le F F' → OwnL K F' xs' ds' C' → Own K F' v z Cz → HA F' ((a, .lst xs') :: (C' ++ (Cz ++ U))) H' → Q v H') → r (.ref a) vs H Q
def fMt (j : Nat) (g : List D → List D → Option (D × List D)) (fas : M (List AR)) : M D := fun s => if (Sl.ls s[j]?).isSome = true then (fas s).bind fun a => (ARall a.1).bind fun as => (Sl.ls a.2[j]?).bind fun ds => (g ds as).map fun z => (z.1, Sl.put a.2 j (.lst true z.2)) else none
theorem tF_mt {r : V → List V → Hp → VK → Prop} {g : List D → List D → Option (D × List D)} {j : Nat} (hg : MtD K r g) {σ : L2.St} {H : Hp} {Q : VK} (z : tF K (fMt j g fas) σ H Q) : tBM K "list" r (tVar j) (tFA K fas) σ H Q := by
  obtain ⟨p, F, R, s, rr, s', ⟨C, hs, ha⟩, e, k⟩ := z
  unfold fMt at e
  split at e
  rotate_left
  · cases e
  rename_i hj
  obtain ⟨ds0, hj⟩ := Option.isSome_iff_exists.mp hj
  obtain ⟨⟨as, s1⟩, ea, e⟩ := Option.bind_eq_some_iff.mp e
  obtain ⟨ar, ee, e⟩ := Option.bind_eq_some_iff.mp e
  obtain ⟨ds, ed, e⟩ := Option.bind_eq_some_iff.mp e
  obtain ⟨⟨z, ds'⟩, ez, e⟩ := Option.map_eq_some_iff.mp e
  cases e
  obtain ⟨a, xs, C1, C2, h1, h2, h3, h4⟩ := ls_take hs hj
  have hm : H a = some (.lst xs) := ((ha.sub (U' := (a, .lst xs) :: (C1 ++ (C2 ++ R))) fun x => by simp only [cn_append, cn_cons]; have := h3 x; omega).ow _ List.mem_cons_self).1
  refine ⟨.ref a, h1, .inl ⟨rfl, xs, .inl (.inl hm)⟩, p, F, R, s, as, s1, ⟨C, hs, ha⟩, ea, fun vs H1 F1 Ca l1 o1 ⟨Cs, hs1, ha1⟩ => ?_⟩
  obtain ⟨a', xs1, C3, C4, k1, k2, k3, k4⟩ := ls_take hs1 ed
  have ea' : a' = a := by rw [h1] at k1; cases k1; rfl
  subst ea'
  refine hg (U := C4 ++ R) ez k2 (o1.all ee) (ha1.sub fun x => by simp only [cn_append, cn_cons]; have := k3 x; omega) fun v H' F' xs' C' Cz l t o h => ?_
  obtain ⟨C5, h5, h6⟩ := k4 F' xs' ds' C' l t
  exact k v H' F' Cz (l1.trans l) o ⟨C5, h5, h.sub fun x => by simp only [cn_append, cn_cons]; have := h6 x; omega⟩
/-- slot[i] = e -/
def sStore (j : Nat) (fe fi : M D) : S → Option Out := fun s => (fe s).bind fun x => if (Sl.ls x.2[j]?).isSome = true then (fi x.2).bind fun y => (asI y.1).bind fun i => (Sl.ls y.2[j]?).bind fun ds => (ixN ds.length i).map fun n => .nx (Sl.put y.2 j (.lst true (ds.set n x.1))) else none
theorem OwnL.set {vs : List V} {ds : List D} {C C1 : CL} {v : V} {d : D} (h : OwnL K F vs ds C) (o : Own K F v d C1) : ∀ n, n < ds.length → ∃ C', OwnL K F (vs.set n v) (ds.set n d) C' ∧ ∀ x, cn x C' ≤ cn x C + cn x C1 := by
  induction ds generalizing vs C with
  | nil => intro n hn; simp at hn
  | cons d0 ds ih =>
    intro n hn
    cases h with
    | @cons v0 vs _ _ D1 D2 q t =>
      cases n with
      | zero => exact ⟨C1 ++ D2, .cons o t, fun x => by rw [cn_append, cn_append]; omega⟩
      | succ n =>
        obtain ⟨C', h1, h2⟩ := ih t n (by simpa using hn)
        exact ⟨D1 ++ C', .cons q h1, fun x => by rw [cn_append, cn_append]; have := h2 x; omega⟩
theorem s_store {j : Nat} {fi : M D} (he : PE X e (tF K fe)) (hg : PG X tg (gSub (tVar j) (tF K fi) rSetL)) (hs : swapsWithSole [tg] e pos.line X.env = pure false := by rfl) (hw : swappedStores [tg] e X.env = pure none := by rfl)
    (h1 : (assignEach [tg] X.env).map (·.2) = [assign tg X.env] := by rfl) : PS X (.Assign [tg] e pos) (tSF K (sStore j fe fi)) := ps_same (ps_asg he hg hs hw h1) fun E σ H z => by
  obtain ⟨p, F, R, s, o, hr, e, k⟩ := z
  obtain ⟨x, ex, e⟩ := Option.bind_eq_some_iff.mp e
  split at e
  rotate_left
  · cases e
  rename_i hj
  obtain ⟨ds0, hj⟩ := Option.isSome_iff_exists.mp hj
  obtain ⟨y, ey, e⟩ := Option.bind_eq_some_iff.mp e
  obtain ⟨i, ei, e⟩ := Option.bind_eq_some_iff.mp e
  obtain ⟨ds, ed, e⟩ := Option.bind_eq_some_iff.mp e
  obtain ⟨n, en, e⟩ := Option.map_eq_some_iff.mp e
  cases e
  refine ⟨p, F, R, s, x.1, x.2, hr, ex, fun v H1 F1 C1 l1 o1 r1 => ?_⟩
  obtain ⟨C, hs, ha⟩ := r1
  obtain ⟨a, xs, D1, D2, h1, h2, h3, h4⟩ := ls_take hs hj
  refine ⟨.ref a, h1, p, F1, C1 ++ R, x.2, y.1, y.2, ⟨C, hs, ha⟩, ey, fun iv H2 F2 C2 l2 o2 ⟨Cs, hs2, ha2⟩ => ?_⟩
  rw [asI_some ei] at o2
  obtain ⟨rfl, rfl⟩ := own_int o2
  obtain ⟨a', xs1, C3, C4, k1, k2, k3, k4⟩ := ls_take hs2 ed
  have ea' : a' = a := by rw [h1] at k1; cases k1; rfl
  subst ea'
  have hlt := (ixN_seq en).2.1
  have hA : HA F2 ((a', .lst xs1) :: (C3 ++ (C4 ++ (C1 ++ R)))) H2 := ha2.sub fun x => by simp only [cn_append, cn_cons, cn_nil]; have := k3 x; omega
  obtain ⟨C5, m1, m2⟩ := k2.set (o1.mono l2) n hlt
  obtain ⟨C6, m3, m4⟩ := k4 F2 _ _ C5 .refl m1
  refine ⟨a', xs1, i, n, rfl, rfl, (hA.ow _ List.mem_cons_self).1, by rw [k2.length]; exact en, ?_⟩
  exact k σ _ F2 (l1.trans l2) ⟨C6, m3, (hA.put _).sub fun x => by simp only [cn_append, cn_cons]; have := m2 x; have := m4 x; omega⟩
end
/-! ### defs -/
def initS : List Bool → List D → S
  | true :: io, d :: ds => .pn d :: initS io ds
  | false :: io, d :: ds => .va d :: initS io ds
  | _, _ => []
def outsD : List Bool → S → Option (List D)
  | true :: io, .pn d :: s => (outsD io s).map fun ds => d :: ds
  | true :: _, _ => none
  | false :: io, _ :: s => outsD io s
  | false :: _, [] => none
  | [], _ => some []
def defD0 (io : List Bool) (n : Nat) (fb : S → Option Out) : List D → Option (D × List D) := fun ds => if ds.length = io.length then (fb (initS io ds ++ List.replicate n .no)).bind fun o => match o with
  | .rt r s => (outsD io s).map fun os => (r, os)
  | .nx s => (outsD io s).map fun os => (.non, os)
  | _ => none else none
/-- what is only read is read as frozen -/
def frzIO : List Bool → List D → List D
  | true :: io, d :: ds => d :: frzIO io ds
  | false :: io, d :: ds => d.frz :: frzIO io ds
  | _, ds => ds
def defD (io : List Bool) (n : Nat) (fb : S → Option Out) (ds : List D) : Option (D × List D) := defD0 io n fb (frzIO io ds)
section
variable {K : PySem.W.Frag}
theorem own_split {F : Hp} : ∀ {io : List Bool} {vs : List V} {ds : List D} {C : CL}, OwnL K F vs ds C → ∃ C1 C2, (∀ x, cn x C = cn x C1 + cn x C2) ∧ ∀ F', Le F F' → (∀ x ∈ C1, F' x.1 = some x.2) → OwnL K F' vs (frzIO io ds) C2 := by
  intro io
  induction io with
  | nil =>
    intro vs ds C o
    exact ⟨[], C, fun x => by rw [cn_nil]; omega, fun F' l _ => by cases ds <;> exact o.mono l⟩
  | cons b io ih =>
    intro vs ds C o
    cases o with
    | nil => exact ⟨[], [], fun x => by rw [cn_nil], fun F' l _ => by cases b <;> exact .nil⟩
    | @cons v vs d ds Ca Cb h t =>
      obtain ⟨C1, C2, h1, h2⟩ := ih t
      cases b with
      | true => exact ⟨C1, Ca ++ C2, fun x => by rw [cn_append, cn_append, h1 x]; omega, fun F' l c => .cons (h.mono l) (h2 F' l c)⟩
      | false => exact ⟨Ca ++ C1, C2, fun x => by rw [cn_append, cn_append, h1 x]; omega, fun F' l c => .cons (C1 := []) (.z (Own.frz l h fun x hx => c x (List.mem_append_left _ hx))) (h2 F' l fun x hx => c x (List.mem_append_right _ hx))⟩
theorem slots_rep {F : Hp} : ∀ n : Nat, Slots K F (List.replicate n none) (List.replicate n none) (List.replicate n .no) []
  | 0 => .nil
  | n + 1 => .no (slots_rep n)
theorem slots_init {F : Hp} {n : Nat} : ∀ {io : List Bool} {vs : List V} {ds : List D} {C : CL}, ds.length = io.length → OwnL K F vs ds C → Slots K F (vs.map some ++ List.replicate n none) (vs.map some ++ List.replicate n none) (initS io ds ++ List.replicate n .no) C := by
  intro io
  induction io with
  | nil =>
    intro vs ds C hl o
    have : ds = [] := List.eq_nil_of_length_eq_zero hl
    subst this
    cases o
    exact slots_rep n
  | cons b io ih =>
    intro vs ds C hl o
    cases ds with
    | nil => simp at hl
    | cons d ds =>
      cases o with
      | cons q t =>
        have := ih (by simpa using hl) t
        cases b with
        | true => exact .pn q this
        | false => exact .va q this
theorem outs_ok {F : Hp} {n : Nat} : ∀ {io : List Bool} {vs : List V} {σ : L2.St} {s : S} {C : CL} {outs : List D}, vs.length = io.length → Slots K F σ (vs.map some ++ List.replicate n none) s C → outsD io s = some outs → ∃ Co, OwnL K F (pick io vs) outs Co ∧ ∀ x, cn x Co ≤ cn x C := by
  intro io
  induction io with
  | nil =>
    intro vs σ s C outs hl h e
    cases e
    have : vs = [] := List.eq_nil_of_length_eq_zero hl
    subst this
    exact ⟨[], .nil, fun x => by rw [cn_nil]; omega⟩
  | cons b io ih =>
    intro vs σ s C outs hl h e
    cases vs with
    | nil => simp at hl
    | cons v vs =>
      cases b with
      | true =>
        cases h with
        | no h => cases e
        | va o h => cases e
        | @pn v' d σ p s C1 C o h =>
          rw [outsD] at e
          obtain ⟨os, e1, e⟩ := Option.map_eq_some_iff.mp e
          cases e
          obtain ⟨Co, h1, h2⟩ := ih (by simpa using hl) h e1
          exact ⟨C1 ++ Co, .cons o h1, fun x => by rw [cn_append, cn_append]; have := h2 x; omega⟩
      | false =>
        cases h with
        | no h =>
          obtain ⟨Co, h1, h2⟩ := ih (by simpa using hl) h e
          exact ⟨Co, h1, h2⟩
        | va o h =>
          obtain ⟨Co, h1, h2⟩ := ih (by simpa using hl) h e
          exact ⟨Co, h1, fun x => by rw [cn_append]; have := h2 x; omega⟩
        | pn o h =>
          obtain ⟨Co, h1, h2⟩ := ih (by simpa using hl) h e
          exact ⟨Co, h1, fun x => by rw [cn_append]; have := h2 x; omega⟩
variable {P : Program} {w : World} {mg : Str → Option Value} {base : Heap}
theorem def_run0 {n : Nat} {io : List Bool} {fb : S → Option Out} {N : List Str} {vs : List V} {G : Hp} {R C : CL} {ds outs : List D} {r : D} {H : Hp} {Q : VK} (h1 : vs.length = io.length) (hn : N.length - io.length = n) (o : OwnL K G vs ds C) (ha : HA G (C ++ R) H) (e : defD0 io n fb ds = some (r, outs))
    (k : ∀ v H' F' Cr Co, Le G F' → Own K F' v r Cr → OwnL K F' (pick io vs) outs Co → HA F' (Cr ++ (Co ++ R)) H' → Q v H') : tSF K fb { nx := fun _ H' => Q .non H', rt := Q } (L2.start N vs) H := by
  unfold defD0 at e
  have hl : ds.length = io.length := by rw [← o.length]; exact h1
  rw [if_pos hl] at e
  obtain ⟨ot, e1, e⟩ := Option.bind_eq_some_iff.mp e
  have hst : L2.start N vs = vs.map some ++ List.replicate n none := by unfold L2.start; rw [h1, hn]
  rw [hst]
  refine ⟨_, G, R, _, ot, ⟨C, slots_init hl o, ha⟩, e1, ?_⟩
  cases ot with
  | nx s' =>
    obtain ⟨os, e2, e⟩ := Option.map_eq_some_iff.mp e
    cases e
    rintro σ H' F' l ⟨C', hs, ha'⟩
    obtain ⟨Co, h2, h3⟩ := outs_ok h1 hs e2
    exact k .non H' F' [] Co l (.z .non) h2 (ha'.sub fun x => by simp only [cn_append, cn_nil]; have := h3 x; omega)
  | rt r' s' =>
    obtain ⟨os, e2, e⟩ := Option.map_eq_some_iff.mp e
    cases e
    rintro v σ H' F' Cr l o' ⟨C', hs, ha'⟩
    obtain ⟨Co, h2, h3⟩ := outs_ok h1 hs e2
    exact k v H' F' Cr Co l o' h2 (ha'.sub fun x => by simp only [cn_append]; have := h3 x; omega)
  | bk s' => cases e
  | ct s' => cases e
theorem def_run {n : Nat} {io : List Bool} {fb : S → Option Out} {N : List Str} {vs : List V} {G : Hp} {R C : CL} {ds outs : List D} {r : D} {H : Hp} {Q : VK} (h1 : vs.length = io.length) (hn : N.length - io.length = n) (o : OwnL K G vs ds C) (ha : HA G (C ++ R) H) (e : defD io n fb ds = some (r, outs))
    (k : ∀ v H' F' Cr Co, Le G F' → Own K F' v r Cr → OwnL K F' (pick io vs) outs Co → HA F' (Cr ++ (Co ++ R)) H' → Q v H') : tSF K fb { nx := fun _ H' => Q .non H', rt := Q } (L2.start N vs) H := by
  obtain ⟨C1, C2, q1, q2⟩ := own_split (io := io) o
  have hb : HA G (C1 ++ (C2 ++ R)) H := ha.sub fun x => by simp only [cn_append]; have := q1 x; omega
  obtain ⟨y1, y2, y3, _⟩ := hb.frz
  exact def_run0 h1 hn (q2 _ y2 fun x hx => (y3 x hx).1) y1 e fun v H' F' Cr Co l => k v H' F' Cr Co (y2.trans l)
theorem okD {x qual : Str} {st : Stmt} {f : Addr} {fd : FuncData} {N ps : List Str} {k n : Nat} {io : List Bool} {fb : S → Option Out} (F : Fun K x qual st f fd) (Sc : FnScope N ps (defScope st)) (hio : io.length = ps.length) (hn : N.length - io.length = n)
    (body : ∀ (cdv : Value) (A : Around) (outer : List Env) (s : Shared) (H : Hp) (E : XK), Rm k (A.deeper (envOfC qual (defScope st) s.heap.objs.size f cdv)) →
        PSs (cxOf CX0 P w K mg base N qual (defScope st) f cdv A outer s H E).nox (defBody st) (tSF K fb)) :
    FnG P w K mg base CX0 (k + 1) f fd ps (spD K io (defD io n fb)) := by
  refine okG0 F Sc ?_ ?_
  · rintro vs H Q E ⟨F, R, ds, C, r, outs, h1, _⟩
    rw [h1, hio]
  · rintro cdv A outer s H vs Q E hr ⟨G, R, ds, C, r, outs, h1, o, ha, e, k⟩
    exact ⟨_, body cdv A outer s H E hr, def_run h1 hn o ha e k⟩
/-- the law's end -/
theorem dn_ints {F : Hp} {a : Addr} {ns : List Int} (h : SqX K F a (ns.map V.int)) : Dn K F (.ref a) (.lst false (ns.map D.int)) := by
  refine .lst h ?_
  clear h
  induction ns with
  | nil => exact .nil
  | cons n ns ih => exact .cons (.int n) ih
theorem law_end {FD : List D → Option (D × List D)} {H : Hp} {a : Addr} {ns : List Int} (h : SqX K H a (ns.map V.int)) (e : FD [.lst false (ns.map D.int)] = some (.bl true, [])) : spD K [false] FD [.ref a] H (fun v _ => v = .bl true) E0 := by
  refine ⟨H, [], [.lst false (ns.map D.int)], [], .bl true, [], rfl, .cons (C1 := []) (.z (dn_ints h)) .nil, ⟨Le.refl, fun x hx => (by cases hx), List.nodup_nil⟩, e, fun v H' F' Cr Co l o _ _ => ?_⟩
  exact (own_bl o).1
end
end DL
set_option Elab.async false
set_option linter.all false
set_option maxRecDepth 100000
set_option maxHeartbeats 2000000
set_option exponentiation.threshold 600
/-! operators and built-ins over data -/
namespace DL
open PySem PySem.Spec PyProof.Rows L2 LB
def dII (f : Int → Int → Option D) : D → D → Option D
  | .int i, .int j => f i j
  | _, _ => none
theorem dII_some {f : Int → Int → Option D} {d e z : D} (h : dII f d e = some z) : ∃ i j, d = .int i ∧ e = .int j ∧ f i j = some z := by
  cases d <;> cases e <;> first | exact ⟨_, _, rfl, rfl, h⟩ | cases h
section
variable {K : PySem.W.Frag}
theorem opd_I {C : Int → Int → Prop} {g : Int → Int → V} {f : Int → Int → Option D} (hf : ∀ i j z, f i j = some z → C i j ∧ ∀ F, Dn K F (g i j) z) : OpD K (rI C g) (dII f) := by
  intro F U C1 C2 H x y d e z Q hz o1 o2 ha k
  obtain ⟨i, j, rfl, rfl, h⟩ := dII_some hz
  obtain ⟨rfl, rfl⟩ := own_int o1
  obtain ⟨rfl, rfl⟩ := own_int o2
  exact ⟨i, j, rfl, rfl, (hf i j z h).1, k _ H F [] .refl (.z ((hf i j z h).2 F)) ha⟩
theorem opd_I0 {g : Int → Int → V} {f : Int → Int → Option D} (hf : ∀ i j z, f i j = some z → ∀ F, Dn K F (g i j) z) : OpD K (rI0 g) (dII f) := by
  intro F U C1 C2 H x y d e z Q hz o1 o2 ha k
  obtain ⟨i, j, rfl, rfl, h⟩ := dII_some hz
  obtain ⟨rfl, rfl⟩ := own_int o1
  obtain ⟨rfl, rfl⟩ := own_int o2
  exact ⟨i, j, rfl, rfl, k _ H F [] .refl (.z (hf i j z h F)) ha⟩
def dAdd := dII fun i j => some (.int (i + j))
def dSub := dII fun i j => some (.int (i - j))
def dMul := dII fun i j => if i.natAbs < 10 ^ 100 ∧ j.natAbs < 10 ^ 100 then some (.int (i * j)) else none
def dPow := dII fun i j => if i.natAbs < 10 ^ 100 ∧ 0 ≤ j ∧ j ≤ 1000 then some (.int (i ^ j.toNat)) else none
def dFdiv := dII fun i j => if 0 < j ∧ j.natAbs < 10 ^ 100 then some (.int (i / j)) else none
def dMod := dII fun i j => if 0 < j then some (.int (i % j)) else none
def dLt := dII fun i j => some (.bl (decide (i < j)))
def dLe := dII fun i j => some (.bl (decide (i ≤ j)))
def dGt := dII fun i j => some (.bl (decide (j < i)))
def dGe := dII fun i j => some (.bl (decide (j ≤ i)))
theorem d_add : OpD K (rI0 fun i j => .int (i + j)) dAdd := opd_I0 fun i j z h F => by cases h; exact .int _
theorem d_sub : OpD K (rI0 fun i j => .int (i - j)) dSub := opd_I0 fun i j z h F => by cases h; exact .int _
theorem d_lt : OpD K (rI0 fun i j => .bl (decide (i < j))) dLt := opd_I0 fun i j z h F => by cases h; exact .bl _
theorem d_le : OpD K (rI0 fun i j => .bl (decide (i ≤ j))) dLe := opd_I0 fun i j z h F => by cases h; exact .bl _
theorem d_gt : OpD K (rI0 fun i j => .bl (decide (j < i))) dGt := opd_I0 fun i j z h F => by cases h; exact .bl _
theorem d_ge : OpD K (rI0 fun i j => .bl (decide (j ≤ i))) dGe := opd_I0 fun i j z h F => by cases h; exact .bl _
theorem d_mul : OpD K (rI (fun i j => Mid i ∧ Mid j) fun i j => .int (i * j)) dMul := opd_I fun i j z h => by
  split at h
  · rename_i c; cases h; exact ⟨c, fun F => .int _⟩
  · cases h
theorem d_pow : OpD K (rI (fun i j => Mid i ∧ 0 ≤ j ∧ j ≤ 1000) fun i j => .int (i ^ j.toNat)) dPow := opd_I fun i j z h => by
  split at h
  · rename_i c; cases h; exact ⟨c, fun F => .int _⟩
  · cases h
theorem d_fdiv : OpD K (rI (fun _ j => 0 < j ∧ Mid j) fun i j => .int (i / j)) dFdiv := opd_I fun i j z h => by
  split at h
  · rename_i c; cases h; exact ⟨c, fun F => .int _⟩
  · cases h
theorem d_mod : OpD K (rI (fun _ j => 0 < j) fun i j => .int (i % j)) dMod := opd_I fun i j z h => by
  split at h
  · rename_i c; cases h; exact ⟨c, fun F => .int _⟩
  · cases h
def dNeg : D → Option D
  | .int i => some (.int (-i))
  | _ => none
theorem d_neg : UnD K (rU fun i => .int (-i)) dNeg := by
  intro F U C1 H x d z Q hz o ha k
  cases d <;> first | cases hz | skip
  obtain ⟨rfl, rfl⟩ := own_int o
  exact ⟨_, rfl, k _ H F [] .refl (.z (.int _)) ha⟩
theorem p_add : PIpD K (ipI fun i j => i + j) dAdd := by
  intro F U C1 C2 H x y d e z Q hz o1 o2 ha k
  obtain ⟨i, j, rfl, rfl, h⟩ := dII_some hz
  obtain ⟨rfl, rfl⟩ := own_int o1
  obtain ⟨rfl, rfl⟩ := own_int o2
  cases h
  exact ⟨i, j, rfl, rfl, k _ H F [] .refl (.z (.int _)) ha⟩
theorem p_sub : PIpD K (ipI fun i j => i - j) dSub := by
  intro F U C1 C2 H x y d e z Q hz o1 o2 ha k
  obtain ⟨i, j, rfl, rfl, h⟩ := dII_some hz
  obtain ⟨rfl, rfl⟩ := own_int o1
  obtain ⟨rfl, rfl⟩ := own_int o2
  cases h
  exact ⟨i, j, rfl, rfl, k _ H F [] .refl (.z (.int _)) ha⟩
theorem p_mul : PIpD K (fun x y H Q => ∃ i j, x = .int i ∧ y = .int j ∧ (Mid i ∧ Mid j) ∧ Q (.int (i * j)) H) dMul := by
  intro F U C1 C2 H x y d e z Q hz o1 o2 ha k
  obtain ⟨i, j, rfl, rfl, h⟩ := dII_some hz
  obtain ⟨rfl, rfl⟩ := own_int o1
  obtain ⟨rfl, rfl⟩ := own_int o2
  split at h
  · rename_i c; cases h
    exact ⟨i, j, rfl, rfl, c, k _ H F [] .refl (.z (.int _)) ha⟩
  · cases h
/-! == -/
mutual
def D.py : D → PyData
  | .non => .none
  | .bl b => .bool b
  | .int i => .int i
  | .str s => .str s
  | .ty _ => .dict []
  | .lst _ xs => .list (D.pyL xs)
  | .tup _ xs => .tuple (D.pyL xs)
  | .dct _ _ => .dict []
def D.pyL : List D → List PyData
  | [] => []
  | d :: ds => d.py :: D.pyL ds
end
mutual
theorem py_frz : ∀ d : D, d.frz.py = d.py
  | .non => rfl
  | .bl b => rfl
  | .int i => rfl
  | .str s => rfl
  | .ty _ => rfl
  | .lst _ xs => by rw [D.frz, D.py, D.py, pyL_frz xs]
  | .tup _ xs => by rw [D.frz, D.py, D.py, pyL_frz xs]
  | .dct _ _ => rfl
theorem pyL_frz : ∀ d : List D, D.pyL (D.frzL d) = D.pyL d
  | [] => rfl
  | d :: ds => by rw [D.frzL, D.pyL, D.pyL, py_frz d, pyL_frz ds]
end
mutual
theorem Dn.dp {F : Hp} : ∀ {v : V} {d : D}, Dn K F v d → d.py.canLay0 = true → Dp K F v d.py
  | _, _, .non, _ => .non
  | _, _, .bl b, _ => .bl b
  | _, _, .int i, _ => .int i
  | _, _, .str s, _ => .str s
  | _, _, .ty _, c => by cases c
  | _, _, .lst s h, c => .lst s.l (DnL.dp h c)
  | _, _, .tup s h, c => .tup s (DnL.dp h c)
  | _, _, .dct _ _, c => by cases c
theorem DnL.dp {F : Hp} : ∀ {v : List V} {d : List D}, DnL K F v d → PyData.canLayAll0 (D.pyL d) = true → DpAll K F v (D.pyL d)
  | _, _, .nil, _ => .nil
  | _, _, .cons h t, c => by
    rw [D.pyL, PyData.canLayAll0, Bool.and_eq_true] at c
    exact .cons (Dn.dp h c.1) (DnL.dp t c.2)
end
theorem Own.dp {F : Hp} {v : V} {d : D} {C U : CL} {H : Hp} (o : Own K F v d C) (h : HA F (C ++ U) H) (c : d.py.canLay0 = true) : Dp K H v d.py := by
  obtain ⟨F', l, h', q⟩ := fzz o h
  have := (q.mono h'.fr).dp (by rw [py_frz]; exact c)
  rw [py_frz] at this
  exact this
def D.shp (d : D) : Bool := SeqAt.shaped d.py
def D.eqv (d e : D) : Bool := PyData.eqv d.py e.py
def dEq (d e : D) : Option D := if d.shp = true ∧ e.shp = true then some (.bl (d.eqv e)) else none
def dNe (d e : D) : Option D := if d.shp = true ∧ e.shp = true then some (.bl (!d.eqv e)) else none
theorem d_eq : OpD K (rEqD K) dEq := by
  intro F U C1 C2 H x y d e z Q hz o1 o2 ha k
  unfold dEq at hz
  split at hz
  · rename_i c; cases hz
    refine ⟨d.py, e.py, o1.dp ha (SeqAt.canLay_of_shaped c.1), o2.dp (U := C1 ++ U) (ha.sub fun x => by simp only [cn_append]; omega) (SeqAt.canLay_of_shaped c.2), c.1, c.2, ?_⟩
    exact k _ H F [] .refl (.z (.bl _)) (ha.sub fun x => by simp only [cn_append, cn_nil]; omega)
  · cases hz
theorem d_ne : OpD K (rNeD K) dNe := by
  intro F U C1 C2 H x y d e z Q hz o1 o2 ha k
  unfold dNe at hz
  split at hz
  · rename_i c; cases hz
    refine ⟨d.py, e.py, o1.dp ha (SeqAt.canLay_of_shaped c.1), o2.dp (U := C1 ++ U) (ha.sub fun x => by simp only [cn_append]; omega) (SeqAt.canLay_of_shaped c.2), c.1, c.2, ?_⟩
    exact k _ H F [] .refl (.z (.bl _)) (ha.sub fun x => by simp only [cn_append, cn_nil]; omega)
  · cases hz
/-! is -/
def D.isN : D → Bool
  | .non => true
  | _ => false
def dIsN : D → D → Option D
  | d, .non => some (.bl d.isN)
  | _, _ => none
def dNotN : D → D → Option D
  | d, .non => some (.bl !d.isN)
  | _, _ => none
theorem own_isN {F : Hp} {v : V} {d : D} {C : CL} (o : Own K F v d C) : decide (v = .non) = d.isN := by
  cases o with
  | z h => cases h <;> simp [D.isN]
  | lst h => simp [D.isN]
  | tup h => simp [D.isN]
  | dct h => simp [D.isN]
theorem d_isN : OpD K (fun x y H Q => y = .non ∧ Q (.bl (decide (x = .non))) H) dIsN := by
  intro F U C1 C2 H x y d e z Q hz o1 o2 ha k
  cases e <;> first | (cases hz; done) | skip
  cases hz
  obtain ⟨rfl, rfl⟩ := own_non o2
  rw [own_isN o1]
  exact ⟨rfl, k _ H F [] .refl (.z (.bl _)) (ha.sub fun x => by simp only [cn_append, cn_nil]; omega)⟩
theorem d_notN : OpD K (fun x y H Q => y = .non ∧ Q (.bl (!decide (x = .non))) H) dNotN := by
  intro F U C1 C2 H x y d e z Q hz o1 o2 ha k
  cases e <;> first | (cases hz; done) | skip
  cases hz
  obtain ⟨rfl, rfl⟩ := own_non o2
  rw [own_isN o1]
  exact ⟨rfl, k _ H F [] .refl (.z (.bl _)) (ha.sub fun x => by simp only [cn_append, cn_nil]; omega)⟩
def dIsB : D → D → Option D
  | .bl a, .bl b => some (.bl (decide (a = b)))
  | _, _ => none
def dNotB : D → D → Option D
  | .bl a, .bl b => some (.bl (!decide (a = b)))
  | _, _ => none
theorem d_isB : OpD K rIsB dIsB := by
  intro F U C1 C2 H x y d e z Q hz o1 o2 ha k
  cases d <;> cases e <;> first | (cases hz; done) | skip
  cases hz
  obtain ⟨rfl, rfl⟩ := own_bl o1
  obtain ⟨rfl, rfl⟩ := own_bl o2
  exact ⟨_, _, rfl, rfl, k _ H F [] .refl (.z (.bl _)) ha⟩
theorem d_notB : OpD K rNotB dNotB := by
  intro F U C1 C2 H x y d e z Q hz o1 o2 ha k
  cases d <;> cases e <;> first | (cases hz; done) | skip
  cases hz
  obtain ⟨rfl, rfl⟩ := own_bl o1
  obtain ⟨rfl, rfl⟩ := own_bl o2
  exact ⟨_, _, rfl, rfl, k _ H F [] .refl (.z (.bl _)) ha⟩
/-! in -/
def D.flat : D → Bool
  | .non => true
  | .bl _ => true
  | .int _ => true
  | .str _ => true
  | _ => false
def eqF : D → D → Bool
  | .non, .non => true
  | .bl a, .bl b => a == b
  | .bl a, .int b => (if a then 1 else 0) == b
  | .int a, .bl b => a == (if b then 1 else 0)
  | .int a, .int b => a == b
  | .str a, .str b => a == b
  | _, _ => false
def inF (d : D) (ds : List D) : Bool := ds.any fun e => eqF e d
def dIn (neg : Bool) (d e : D) : Option D := (itemsOf e).bind fun ds => if d.flat = true ∧ ds.all D.flat = true then some (.bl (if neg = true then !inF d ds else inF d ds)) else none
theorem own_flat {F : Hp} {v : V} {d : D} {C : CL} (o : Own K F v d C) (f : d.flat = true) : flatV v = true := by
  cases o with
  | z h => cases h <;> first | rfl | cases f
  | lst h => cases f
  | tup h => cases f
  | dct h => cases f
theorem own_eqF {F : Hp} {v w : V} {d e : D} {C C' : CL} (o : Own K F v d C) (o' : Own K F w e C') (f : d.flat = true) (f' : e.flat = true) : eqV v w = eqF d e := by
  cases o with
  | z h =>
    cases o' with
    | z h' => cases h <;> cases h' <;> first | rfl | (cases f; done) | (cases f'; done)
    | lst h => cases f'
    | tup h => cases f'
    | dct h => cases f'
  | lst h => cases f
  | tup h => cases f
  | dct h => cases f
theorem own_inF {F : Hp} {v : V} {d : D} {C' : CL} (o : Own K F v d C') (f : d.flat = true) : ∀ {xs : List V} {ds : List D} {C : CL}, OwnL K F xs ds C → ds.all D.flat = true → xs.all flatV = true ∧ inV v xs = inF d ds := by
  intro xs ds
  induction ds generalizing xs with
  | nil => intro C h _; cases h; exact ⟨rfl, rfl⟩
  | cons e ds ih =>
    intro C h fs
    rw [List.all_cons, Bool.and_eq_true] at fs
    cases h with
    | cons q t =>
      obtain ⟨h1, h2⟩ := ih t fs.2
      refine ⟨by rw [List.all_cons, own_flat q fs.1, h1]; rfl, ?_⟩
      unfold inV inF at h2 ⊢
      rw [List.any_cons, List.any_cons, h2, own_eqF q o fs.1 f]
theorem d_in (neg : Bool) : OpD K (rIn K neg) (dIn neg) := by
  intro F U C1 C2 H x y d e z Q hz o1 o2 ha k
  unfold dIn at hz
  obtain ⟨ds, ed, hz⟩ := Option.bind_eq_some_iff.mp hz
  split at hz
  · rename_i c; cases hz
    have key : ∃ b xs C3, y = .ref b ∧ (SqL K H b xs ∨ SqT K H b xs) ∧ OwnL K F xs ds C3 := by
      have ha' : HA F (C2 ++ (C1 ++ U)) H := ha.sub fun x => by simp only [cn_append]; omega
      cases e with
      | lst o xs =>
        cases ed
        obtain ⟨b, xs, C3, h1, h2, h3, h4⟩ := o2.seqL ha'
        exact ⟨b, xs, C3, h1, .inl h2.l, h3⟩
      | tup o xs =>
        cases ed
        obtain ⟨b, xs, C3, h1, h2, h3, h4⟩ := o2.seqT ha'
        exact ⟨b, xs, C3, h1, .inr h2, h3⟩
      | _ => cases ed
    obtain ⟨b, xs, C3, rfl, h2, h3⟩ := key
    obtain ⟨h4, h5⟩ := own_inF o1 c.1 h3 c.2
    refine ⟨b, xs, rfl, h2, own_flat o1 c.1, h4, ?_⟩
    rw [h5]
    exact k _ H F [] .refl (.z (.bl _)) (ha.sub fun x => by simp only [cn_append, cn_nil]; omega)
  · cases hz
/-! subscripts, slices -/
def dIx : D → D → Option D
  | .lst _ ds, .int i => atI ds i
  | _, _ => none
theorem atI_own {F : Hp} {xs : List V} {ds : List D} {C : CL} {i : Int} {d : D} (h : OwnL K F xs ds C) (e : atI ds i = some d) : ∃ v C1, atI xs i = some v ∧ Own K F v d C1 ∧ ∀ x, cn x C1 ≤ cn x C := by
  unfold atI at e ⊢
  rw [h.length]
  obtain ⟨j, e1, e2⟩ := Option.bind_eq_some_iff.mp e
  rw [e1]
  exact h.get e2
theorem d_ixL : OpD K (rIxL K) dIx := by
  intro F U C1 C2 H x y d e z Q hz o1 o2 ha k
  cases d <;> cases e <;> first | (cases hz; done) | skip
  obtain ⟨b, xs, C3, rfl, h2, h3, h4⟩ := o1.seqL ha
  obtain ⟨rfl, rfl⟩ := own_int o2
  obtain ⟨v, C4, h5, h6, h7⟩ := atI_own h3 hz
  exact ⟨b, xs, _, v, rfl, rfl, h2.l, h5, k v H F C4 .refl h6 (ha.sub fun x => by simp only [cn_append, cn_nil]; have := h4 x; have := h7 x; omega)⟩
def dIxT : D → D → Option D
  | .tup _ ds, .int i => atI ds i
  | _, _ => none
theorem d_ixT : OpD K (rIxT K) dIxT := by
  intro F U C1 C2 H x y d e z Q hz o1 o2 ha k
  cases d <;> cases e <;> first | (cases hz; done) | skip
  obtain ⟨b, xs, C3, rfl, h2, h3, h4⟩ := o1.seqT ha
  obtain ⟨rfl, rfl⟩ := own_int o2
  obtain ⟨v, C4, h5, h6, h7⟩ := atI_own h3 hz
  exact ⟨b, xs, _, v, rfl, rfl, h2, h5, k v H F C4 .refl h6 (ha.sub fun x => by simp only [cn_append, cn_nil]; have := h4 x; have := h7 x; omega)⟩
def cutD (ds : List D) (lo hi : Option Int) : List D := (ds.drop (HT.sIx ds.length 0 lo)).take (HT.sIx ds.length ds.length hi - HT.sIx ds.length 0 lo)
def dSl : D → Option Int → Option Int → Option D
  | .lst _ ds, lo, hi => some (.lst true (cutD ds lo hi))
  | _, _, _ => none
theorem d_slL : SlD K (rSlL K) dSl := by
  intro F U C1 H x d z lo hi Q hz o ha k
  cases d <;> first | (cases hz; done) | skip
  cases hz
  obtain ⟨b, xs, C3, rfl, h2, h3, h4⟩ := o.seqL ha
  obtain ⟨C4, h5, h6⟩ := h3.drop (HT.sIx xs.length 0 lo)
  obtain ⟨C5, h7, h8⟩ := h5.take (HT.sIx xs.length xs.length hi - HT.sIx xs.length 0 lo)
  refine ⟨b, xs, rfl, h2.l, fun p np => ?_⟩
  refine k _ _ F _ .refl (.lst (C := C5) (xs := cutV xs lo hi) ?_) ((ha.new np _).sub fun x => by simp only [cn_append, cn_cons]; have := h4 x; have := h6 x; have := h8 x; omega)
  rw [h3.length] at h7
  unfold cutV
  rw [h3.length]
  exact h7
/-! a + b of lists -/
def dCat : D → D → Option D
  | .lst _ a, .lst _ b => if a.length + b.length ≤ mx then some (.lst true (a ++ b)) else none
  | _, _ => none
def rCatX (K : PySem.W.Frag) : R2 := fun x y H Q => ∃ l b xs zs, x = .ref l ∧ y = .ref b ∧ SqX K H l xs ∧ SqX K H b zs ∧ xs.length + zs.length ≤ mx ∧ ∀ p, H p = none → Q (.ref p) (upd H p (.lst (xs ++ zs)))
theorem inv_lx {X : Cx} {pins : List (Addr × Obj)} {σ : L2.St} {H : Hp} {s : Shared} {l : Addr} {xs : List V} (I : Inv X pins σ H s) (h : SqX X.K H l xs) : ∃ (its : List Value) (n : Nat), Vals xs its ∧ s.heap.get? l = some { cls := .type "list", data := .seq its.toArray n } := by
  rcases h with h | ⟨its, n, h1, h2, h3⟩
  · obtain ⟨_, its, n, r, e⟩ := h.ok I.hok
    exact ⟨its, n, r, e⟩
  · exact ⟨its, n, h3, I.kIn _ _ h1⟩
theorem op_catX {X : Cx} (hK : X.K = K) : OpR X (binaryOp .Add) (rCatX K) := by
  subst hK
  intro pins s σ H x y v u Q I rx ry h
  obtain ⟨l, b, xs, zs, rfl, rfl, h1, h2, hz, q⟩ := h
  cases rx
  cases ry
  obtain ⟨i1, n1, r1, e1⟩ := inv_lx I h1
  obtain ⟨i2, n2, r2, e2⟩ := inv_lx I h2
  have z1 : i1.toArray.size + i2.toArray.size ≤ sizeLine := sz (by rw [List.size_toArray, List.size_toArray, ← r1.length, ← r2.length]; exact hz)
  refine PySem.P.add_list e1 e2 ?_ z1
  rw [show i1.toArray ++ i2.toArray = (i1 ++ i2).toArray by simp]
  refine ⟨.ref _, _, I.lnew (t' := s.toks) (r1.append r2) (sz (by rw [List.length_append]; exact hz)), rfl, q _ I.fresh⟩
theorem d_cat : OpD K (rCatX K) dCat := by
  intro F U C1 C2 H x y d e z Q hz o1 o2 ha k
  cases d <;> cases e <;> first | (cases hz; done) | skip
  rename_i oa as ob bs
  change (if as.length + bs.length ≤ mx then some (D.lst true (as ++ bs)) else none) = some z at hz
  split at hz
  · rename_i hl; cases hz
    obtain ⟨l, xs, C3, rfl, h2, h3, h4⟩ := o1.seqL ha
    obtain ⟨b, ys, C4, rfl, h5, h6, h7⟩ := o2.seqL (U := C1 ++ U) (ha.sub fun x => by simp only [cn_append]; omega)
    refine ⟨l, b, xs, ys, rfl, rfl, h2, h5, by rw [h3.length, h6.length]; exact hl, fun p np => ?_⟩
    exact k _ _ F _ .refl (.lst (h3.append h6)) ((ha.new np _).sub fun x => by simp only [cn_append, cn_cons]; have := h4 x; have := h7 x; omega)
  · cases hz
/-! built-in functions -/
def intsOf : List D → Option (List Int)
  | [] => some []
  | .int i :: r => (intsOf r).map fun ns => i :: ns
  | _ :: _ => none
theorem intsOf_own {F : Hp} : ∀ {xs : List V} {ds : List D} {C : CL} {ns : List Int}, OwnL K F xs ds C → intsOf ds = some ns → xs = ns.map V.int ∧ ds = ns.map D.int := by
  intro xs ds
  induction ds generalizing xs with
  | nil => intro C ns h e; cases h; cases e; exact ⟨rfl, rfl⟩
  | cons d ds ih =>
    intro C ns h e
    cases d <;> first | (cases e; done) | skip
    rw [intsOf] at e
    obtain ⟨r, e1, rfl⟩ := Option.map_eq_some_iff.mp e
    cases h with
    | cons q t =>
      obtain ⟨rfl, rfl⟩ := own_int q
      obtain ⟨h1, h2⟩ := ih t e1
      exact ⟨by rw [h1]; rfl, by rw [h2]; rfl⟩
theorem intsOf_ints (ns : List Int) : intsOf (ns.map D.int) = some ns := by
  induction ns with
  | nil => rfl
  | cons n ns ih => rw [List.map_cons, intsOf, ih]; rfl
def boolsOf : List D → Option (List Bool)
  | [] => some []
  | .bl i :: r => (boolsOf r).map fun ns => i :: ns
  | _ :: _ => none
theorem boolsOf_own {F : Hp} : ∀ {xs : List V} {ds : List D} {C : CL} {ns : List Bool}, OwnL K F xs ds C → boolsOf ds = some ns → xs = ns.map V.bl := by
  intro xs ds
  induction ds generalizing xs with
  | nil => intro C ns h e; cases h; cases e; rfl
  | cons d ds ih =>
    intro C ns h e
    cases d <;> first | (cases e; done) | skip
    rw [boolsOf] at e
    obtain ⟨r, e1, rfl⟩ := Option.map_eq_some_iff.mp e
    cases h with
    | cons q t =>
      obtain ⟨rfl, rfl⟩ := own_bl q
      rw [ih t e1]; rfl
theorem boolsOf_bools (ns : List Bool) : boolsOf (ns.map D.bl) = some ns := by
  induction ns with
  | nil => rfl
  | cons n ns ih => rw [List.map_cons, boolsOf, ih]; rfl
def dLen : List D → Option D
  | [d] => (itemsOf d).map fun ds => .int ds.length
  | _ => none
theorem own1 {F : Hp} {vs : List V} {d : D} {C : CL} (h : OwnL K F vs [d] C) : ∃ v C1, vs = [v] ∧ Own K F v d C1 ∧ ∀ x, cn x C = cn x C1 := by
  cases h with
  | @cons v _ _ _ C1 _ q t => cases t; exact ⟨v, C1, rfl, q, fun x => by rw [cn_append, cn_nil]; omega⟩
theorem own2 {F : Hp} {vs : List V} {d e : D} {C : CL} (h : OwnL K F vs [d, e] C) : ∃ v w C1 C2, vs = [v, w] ∧ Own K F v d C1 ∧ Own K F w e C2 ∧ ∀ x, cn x C = cn x C1 + cn x C2 := by
  cases h with
  | @cons v _ _ _ C1 _ q t =>
    obtain ⟨w, C2, rfl, h1, h2⟩ := own1 t
    exact ⟨v, w, C1, C2, rfl, q, h1, fun x => by rw [cn_append, h2]⟩
theorem items_own {F : Hp} {v : V} {d : D} {C U : CL} {H : Hp} {ds : List D} (o : Own K F v d C) (ha : HA F (C ++ U) H) (e : itemsOf d = some ds) : ∃ b xs C3, v = .ref b ∧ (SqX K H b xs ∨ SqT K H b xs) ∧ OwnL K F xs ds C3 ∧ ∀ x, cn x C3 ≤ cn x C := by
  cases d with
  | lst ob xs =>
    cases e
    obtain ⟨b, xs, C3, h1, h2, h3, h4⟩ := o.seqL ha
    exact ⟨b, xs, C3, h1, .inl h2, h3, h4⟩
  | tup ob xs =>
    cases e
    obtain ⟨b, xs, C3, h1, h2, h3, h4⟩ := o.seqT ha
    exact ⟨b, xs, C3, h1, .inr h2, h3, h4⟩
  | _ => cases e
theorem d_len : CallD K (rLenS K) dLen := by
  intro F U C1 H xs ds z Q hz o ha k
  match ds, hz, o with
  | [d], hz, o =>
    obtain ⟨v, C2, rfl, h1, h2⟩ := own1 o
    obtain ⟨is, e1, e2⟩ := Option.map_eq_some_iff.mp hz
    cases e2
    obtain ⟨b, ys, C3, rfl, h3, h4, h5⟩ := items_own (U := U) h1 (ha.sub fun x => by simp only [cn_append]; have := h2 x; omega) e1
    refine ⟨b, ys, rfl, h3.imp SqX.l id, ?_⟩
    rw [h4.length]
    exact k _ H F [] .refl (.z (.int _)) (ha.sub fun x => by simp only [cn_append, cn_nil]; omega)
def dI1 (f : Int → Int) : List D → Option D
  | [.int i] => some (.int (f i))
  | _ => none
def dI2 (f : Int → Int → Int) : List D → Option D
  | [.int i, .int j] => some (.int (f i j))
  | _ => none
def dAbs := dI1 fun i => if i < 0 then -i else i
def dMax2 := dI2 fun i j => if j > i then j else i
def dMin2 := dI2 fun i j => if j < i then j else i
theorem d_abs : CallD K rAbs dAbs := by
  intro F U C1 H xs ds z Q hz o ha k
  match ds, hz, o with
  | [.int i], hz, o =>
    obtain ⟨v, C2, rfl, h1, h2⟩ := own1 o
    obtain ⟨rfl, rfl⟩ := own_int h1
    cases hz
    exact ⟨i, rfl, k _ H F [] .refl (.z (.int _)) (ha.sub fun x => by simp only [cn_append, cn_nil]; omega)⟩
theorem d_max2 : CallD K rMax2 dMax2 := by
  intro F U C1 H xs ds z Q hz o ha k
  match ds, hz, o with
  | [.int i, .int j], hz, o =>
    obtain ⟨v, w, C2, C3, rfl, h1, h2, h3⟩ := own2 o
    obtain ⟨rfl, rfl⟩ := own_int h1
    obtain ⟨rfl, rfl⟩ := own_int h2
    cases hz
    exact ⟨i, j, rfl, k _ H F [] .refl (.z (.int _)) (ha.sub fun x => by simp only [cn_append, cn_nil]; omega)⟩
theorem d_min2 : CallD K rMin2 dMin2 := by
  intro F U C1 H xs ds z Q hz o ha k
  match ds, hz, o with
  | [.int i, .int j], hz, o =>
    obtain ⟨v, w, C2, C3, rfl, h1, h2, h3⟩ := own2 o
    obtain ⟨rfl, rfl⟩ := own_int h1
    obtain ⟨rfl, rfl⟩ := own_int h2
    cases hz
    exact ⟨i, j, rfl, k _ H F [] .refl (.z (.int _)) (ha.sub fun x => by simp only [cn_append, cn_nil]; omega)⟩
def dAll : List D → Option D
  | [.lst _ ds] => (boolsOf ds).map fun bs => .bl (bs.all id)
  | _ => none
def dAny : List D → Option D
  | [.lst _ ds] => (boolsOf ds).map fun bs => .bl (bs.any id)
  | _ => none
theorem d_all : CallD K (rAll K) dAll := by
  intro F U C1 H xs ds z Q hz o ha k
  match ds, hz, o with
  | [.lst ob ds], hz, o =>
    obtain ⟨v, C2, rfl, h1, h2⟩ := own1 o
    obtain ⟨bs, e1, e2⟩ := Option.map_eq_some_iff.mp hz
    cases e2
    obtain ⟨b, ys, C3, rfl, h3, h4, h5⟩ := h1.seqL (U := U) (ha.sub fun x => by simp only [cn_append]; have := h2 x; omega)
    rw [boolsOf_own h4 e1] at h3
    exact ⟨b, bs, rfl, h3.l, k _ H F [] .refl (.z (.bl _)) (ha.sub fun x => by simp only [cn_append, cn_nil]; omega)⟩
theorem d_any : CallD K (rAny K) dAny := by
  intro F U C1 H xs ds z Q hz o ha k
  match ds, hz, o with
  | [.lst ob ds], hz, o =>
    obtain ⟨v, C2, rfl, h1, h2⟩ := own1 o
    obtain ⟨bs, e1, e2⟩ := Option.map_eq_some_iff.mp hz
    cases e2
    obtain ⟨b, ys, C3, rfl, h3, h4, h5⟩ := h1.seqL (U := U) (ha.sub fun x => by simp only [cn_append]; have := h2 x; omega)
    rw [boolsOf_own h4 e1] at h3
    exact ⟨b, bs, rfl, h3.l, k _ H F [] .refl (.z (.bl _)) (ha.sub fun x => by simp only [cn_append, cn_nil]; omega)⟩
def dSum : List D → Option D
  | [.lst _ ds] => (intsOf ds).map fun bs => .int bs.sum
  | _ => none
theorem d_sum : CallD K (rSum K) dSum := by
  intro F U C1 H xs ds z Q hz o ha k
  match ds, hz, o with
  | [.lst ob ds], hz, o =>
    obtain ⟨v, C2, rfl, h1, h2⟩ := own1 o
    obtain ⟨bs, e1, e2⟩ := Option.map_eq_some_iff.mp hz
    cases e2
    obtain ⟨b, ys, C3, rfl, h3, h4, h5⟩ := h1.seqL (U := U) (ha.sub fun x => by simp only [cn_append]; have := h2 x; omega)
    rw [(intsOf_own h4 e1).1] at h3
    exact ⟨b, bs, rfl, h3.l, k _ H F [] .refl (.z (.int _)) (ha.sub fun x => by simp only [cn_append, cn_nil]; omega)⟩
def dMaxL : List D → Option D
  | [.lst _ ds] => (intsOf ds).bind fun bs => if 0 < bs.length then some (.int (maxL bs)) else none
  | _ => none
theorem d_maxL : CallD K (rMax K) dMaxL := by
  intro F U C1 H xs ds z Q hz o ha k
  match ds, hz, o with
  | [.lst ob ds], hz, o =>
    obtain ⟨v, C2, rfl, h1, h2⟩ := own1 o
    obtain ⟨bs, e1, e2⟩ := Option.bind_eq_some_iff.mp hz
    split at e2
    · rename_i hl
      cases e2
      obtain ⟨b, ys, C3, rfl, h3, h4, h5⟩ := h1.seqL (U := U) (ha.sub fun x => by simp only [cn_append]; have := h2 x; omega)
      rw [(intsOf_own h4 e1).1] at h3
      refine ⟨b, bs, rfl, h3.l, hl, fun m hm hx => ?_⟩
      rw [maxL_is hm hx]
      exact k _ H F [] .refl (.z (.int _)) (ha.sub fun x => by simp only [cn_append, cn_nil]; omega)
    · cases e2
def minL (l : List Int) : Int := -(maxL (l.map fun x => -x))
def dMinL : List D → Option D
  | [.lst _ ds] => (intsOf ds).bind fun bs => if 0 < bs.length then some (.int (minL bs)) else none
  | _ => none
theorem minL_is {l : List Int} {m : Int} (h : m ∈ l) (h2 : ∀ y, y ∈ l → m ≤ y) : m = minL l := by
  have : -m = maxL (l.map fun x => -x) := maxL_is (List.mem_map.mpr ⟨m, h, rfl⟩) fun y hy => by
    obtain ⟨x, hx, rfl⟩ := List.mem_map.mp hy
    have := h2 x hx
    omega
  unfold minL
  omega
theorem d_minL : CallD K (rMin K) dMinL := by
  intro F U C1 H xs ds z Q hz o ha k
  match ds, hz, o with
  | [.lst ob ds], hz, o =>
    obtain ⟨v, C2, rfl, h1, h2⟩ := own1 o
    obtain ⟨bs, e1, e2⟩ := Option.bind_eq_some_iff.mp hz
    split at e2
    · rename_i hl
      cases e2
      obtain ⟨b, ys, C3, rfl, h3, h4, h5⟩ := h1.seqL (U := U) (ha.sub fun x => by simp only [cn_append]; have := h2 x; omega)
      rw [(intsOf_own h4 e1).1] at h3
      refine ⟨b, bs, rfl, h3.l, hl, fun m hm hx => ?_⟩
      rw [minL_is hm hx]
      exact k _ H F [] .refl (.z (.int _)) (ha.sub fun x => by simp only [cn_append, cn_nil]; omega)
    · cases e2
/-- list(..), of a list or a tuple -/
def dList : List D → Option D
  | [d] => (itemsOf d).map fun ds => .lst true ds
  | _ => none
theorem d_list : CallD K (rListS K) dList := by
  intro F U C1 H xs ds z Q hz o ha k
  match ds, hz, o with
  | [d], hz, o =>
    obtain ⟨v, C2, rfl, h1, h2⟩ := own1 o
    obtain ⟨is, e1, e2⟩ := Option.map_eq_some_iff.mp hz
    cases e2
    obtain ⟨b, ys, C3, rfl, h3, h4, h5⟩ := items_own (U := U) h1 (ha.sub fun x => by simp only [cn_append]; have := h2 x; omega) e1
    exact ⟨b, ys, rfl, h3.imp SqX.l id, fun p np => k _ _ F _ .refl (.lst h4) ((ha.new np _).sub fun x => by simp only [cn_append, cn_cons]; have := h2 x; have := h5 x; omega)⟩
def dTupC : List D → Option D
  | [.lst _ ds] => some (.tup true ds)
  | [.tup o ds] => some (.tup o ds)
  | _ => none
theorem d_tupC : CallD K (rTupS K) dTupC := by
  intro F U C1 H xs ds z Q hz o ha k
  match ds, hz, o with
  | [.lst ob ds], hz, o =>
    obtain ⟨v, C2, rfl, h1, h2⟩ := own1 o
    cases hz
    obtain ⟨b, ys, C3, rfl, h3, h4, h5⟩ := h1.seqL (U := U) (ha.sub fun x => by simp only [cn_append]; have := h2 x; omega)
    exact ⟨b, ys, rfl, .inl ⟨h3.l, fun p np => k _ _ F _ .refl (.tup h4) ((ha.new np _).sub fun x => by simp only [cn_append, cn_cons]; have := h2 x; have := h5 x; omega)⟩⟩
  | [.tup ob ds], hz, o =>
    obtain ⟨v, C2, rfl, h1, h2⟩ := own1 o
    cases hz
    obtain ⟨b, ys, C3, rfl, h3, h4, h5⟩ := h1.seqT (U := U) (ha.sub fun x => by simp only [cn_append]; have := h2 x; omega)
    exact ⟨b, ys, rfl, .inr ⟨h3, k _ _ F C2 .refl h1 (ha.sub fun x => by simp only [cn_append, cn_cons]; have := h2 x; omega)⟩⟩
def dIntC : List D → Option D
  | [.int i] => some (.int i)
  | [.bl b] => some (.int (b2i b))
  | _ => none
theorem d_intC : CallD K rInt1 dIntC := by
  intro F U C1 H xs ds z Q hz o ha k
  match ds, hz, o with
  | [.int i], hz, o =>
    obtain ⟨v, C2, rfl, h1, h2⟩ := own1 o
    obtain ⟨rfl, rfl⟩ := own_int h1
    cases hz
    exact .inl ⟨i, rfl, k _ H F [] .refl (.z (.int _)) (ha.sub fun x => by simp only [cn_append, cn_nil]; omega)⟩
  | [.bl i], hz, o =>
    obtain ⟨v, C2, rfl, h1, h2⟩ := own1 o
    obtain ⟨rfl, rfl⟩ := own_bl h1
    cases hz
    exact .inr ⟨i, rfl, k _ H F [] .refl (.z (.int _)) (ha.sub fun x => by simp only [cn_append, cn_nil]; omega)⟩
/-! sorted, of ints -/
def insI (x : Int) : List Int → List Int
  | [] => [x]
  | y :: l => if x ≤ y then x :: y :: l else y :: insI x l
def sortI : List Int → List Int
  | [] => []
  | x :: l => insI x (sortI l)
theorem insI_perm (x : Int) : ∀ l, (insI x l).Perm (x :: l)
  | [] => .refl _
  | y :: l => by
    unfold insI
    split
    · exact .refl _
    · exact (List.Perm.cons y (insI_perm x l)).trans (List.Perm.swap _ _ _)
theorem sortI_perm : ∀ l, (sortI l).Perm l
  | [] => .refl _
  | x :: l => (insI_perm x (sortI l)).trans (List.Perm.cons x (sortI_perm l))
theorem insI_up (x : Int) : ∀ {l : List Int}, l.Pairwise (· ≤ ·) → (insI x l).Pairwise (· ≤ ·)
  | [], _ => by simp [insI]
  | y :: l, h => by
    have h' := List.pairwise_cons.mp h
    unfold insI
    split
    · rename_i q
      refine List.pairwise_cons.mpr ⟨fun z hz => ?_, h⟩
      rcases List.mem_cons.mp hz with rfl | hz
      · exact q
      · exact Int.le_trans q (h'.1 z hz)
    · rename_i q
      refine List.pairwise_cons.mpr ⟨fun z hz => ?_, insI_up x h'.2⟩
      rcases List.mem_cons.mp ((insI_perm x l).mem_iff.mp hz) with rfl | hz
      · omega
      · exact h'.1 z hz
theorem sortI_up : ∀ l, (sortI l).Pairwise (· ≤ ·)
  | [] => .nil
  | x :: l => insI_up x (sortI_up l)
theorem up_uniq : ∀ {a b : List Int}, a.Perm b → a.Pairwise (· ≤ ·) → b.Pairwise (· ≤ ·) → a = b := by
  intro a
  induction a with
  | nil => intro b p _ _; exact p.nil_eq
  | cons x a ih =>
    intro b p ha hb
    cases b with
    | nil => exact absurd p.length_eq (by simp)
    | cons y b =>
      have ha' := List.pairwise_cons.mp ha
      have hb' := List.pairwise_cons.mp hb
      have e : x = y := by
        have h1 : x ≤ y := by
          rcases List.mem_cons.mp (p.mem_iff.mpr List.mem_cons_self) with h | h
          · omega
          · exact ha'.1 y h
        have h2 : y ≤ x := by
          rcases List.mem_cons.mp (p.mem_iff.mp List.mem_cons_self) with h | h
          · omega
          · exact hb'.1 x h
        omega
      subst e
      rw [ih (List.Perm.cons_inv p) ha'.2 hb'.2]
def dSorted : List D → Option D
  | [.lst _ ds] => (intsOf ds).bind fun ns => if ns.length < 64 then some (.lst true ((sortI ns).map D.int)) else none
  | _ => none
theorem own_ints {F : Hp} (ns : List Int) : OwnL K F (ns.map V.int) (ns.map D.int) [] := by
  induction ns with
  | nil => exact .nil
  | cons n ns ih => exact .cons (C1 := []) (.z (.int n)) ih
theorem d_sorted : CallD K (rSorted K) dSorted := by
  intro F U C1 H xs ds z Q hz o ha k
  match ds, hz, o with
  | [.lst ob ds], hz, o =>
    obtain ⟨v, C2, rfl, h1, h2⟩ := own1 o
    obtain ⟨bs, e1, e2⟩ := Option.bind_eq_some_iff.mp hz
    split at e2
    · rename_i hl
      cases e2
      obtain ⟨b, ys, C3, rfl, h3, h4, h5⟩ := h1.seqL (U := U) (ha.sub fun x => by simp only [cn_append]; have := h2 x; omega)
      rw [(intsOf_own h4 e1).1] at h3
      refine ⟨b, bs, rfl, h3.l, hl, fun ns' p hp hu np => ?_⟩
      rw [up_uniq (hp.trans (sortI_perm bs).symm) hu (sortI_up bs)]
      exact k _ _ F _ .refl (.lst (own_ints _)) ((ha.new np _).sub fun x => by simp only [cn_append, cn_cons, cn_nil]; omega)
    · cases e2
/-! isinstance -/
def D.tyS : D → Option String
  | .non => some "NoneType"
  | .bl _ => some "bool"
  | .int _ => some "int"
  | .str _ => some "str"
  | .lst _ _ => some "list"
  | .tup _ _ => some "tuple"
  | .dct _ _ => some "dict"
  | .ty _ => none
theorem own_tyX {F : Hp} {v : V} {d : D} {C U : CL} {H : Hp} {T : String} (o : Own K F v d C) (ha : HA F (C ++ U) H) (e : d.tyS = some T) : TyX K H v (.type T) := by
  cases o with
  | z h =>
    cases h with
    | non => cases e; exact .base .non
    | bl b => cases e; exact .base (.bl b)
    | int b => cases e; exact .base (.int b)
    | str b => cases e; exact .base (.str b)
    | ty b => cases e
    | lst s t => cases e; exact sq_ty (sqX_mono ha.fr s).l
    | tup s t =>
      cases e
      rcases sqT_mono ha.fr s with (h | ⟨o, h⟩) | ⟨o, its, n, h1, h2, _⟩
      · exact .base (.tup h)
      · exact .fTuple h
      · exact .kTuple h1 h2
    | dct s t => cases e; exact .base (.dK (ha.fr _ _ s))
  | lst h => cases e; exact .base (.lst (ha.ow _ List.mem_cons_self).1)
  | tup h => cases e; exact .base (.tup (ha.ow _ List.mem_cons_self).1)
  | dct h => cases e; exact .base (.dK (ha.ow _ List.mem_cons_self).1)
def dIsi : List D → Option D
  | [d, .ty c] => d.tyS.bind fun T => (kitB T c).map D.bl
  | _ => none
theorem d_isi : CallD K (rIsi K) dIsi := by
  intro F U C1 H xs ds z Q hz o ha k
  match ds, hz, o with
  | [d, .ty c], hz, o =>
    obtain ⟨v, w, C2, C3, rfl, h1, h2, h3⟩ := own2 o
    cases h2 with
    | z h2 =>
      cases h2
      obtain ⟨T, e1, e2⟩ := Option.bind_eq_some_iff.mp hz
      obtain ⟨b, e3, e4⟩ := Option.map_eq_some_iff.mp e2
      cases e4
      exact ⟨v, .ty c, _, _, b, rfl, .ty c, own_tyX (U := U) h1 (ha.sub fun x => by simp only [cn_append]; have := h3 x; omega) e1, kit_ty e3, k _ H F [] .refl (.z (.bl _)) (ha.sub fun x => by simp only [cn_append, cn_nil]; omega)⟩
def tysOf : List D → Option (List String)
  | [] => some []
  | .ty n :: r => (tysOf r).map fun ns => n :: ns
  | _ :: _ => none
def kitL (T : String) : List String → Option Bool
  | [] => some false
  | c :: r => (kitB T c).bind fun b => if b = true then some true else kitL T r
theorem kitL_ok {T : String} : ∀ {cs : List String} {b : Bool}, kitL T cs = some b → PySem.W.kitAny K (.type T) (cs.map Value.type) = some b
  | [], b, h => h
  | c :: cs, b, h => by
    rw [kitL] at h
    obtain ⟨b1, e1, e2⟩ := Option.bind_eq_some_iff.mp h
    rw [List.map_cons, PySem.W.kitAny, kit_ty e1]
    cases b1 with
    | true => cases e2; rfl
    | false => exact kitL_ok e2
theorem tysOf_own {F : Hp} : ∀ {xs : List V} {ds : List D} {C : CL} {ns : List String}, OwnL K F xs ds C → tysOf ds = some ns → Paired ClsV xs (ns.map Value.type) := by
  intro xs ds
  induction ds generalizing xs with
  | nil => intro C ns h e; cases h; cases e; exact .nil
  | cons d ds ih =>
    intro C ns h e
    cases d <;> first | (cases e; done) | skip
    rw [tysOf] at e
    obtain ⟨r, e1, rfl⟩ := Option.map_eq_some_iff.mp e
    cases h with
    | cons q t =>
      cases q with
      | z q => cases q; exact .cons (.ty _) (ih t e1)
def dIsiT : List D → Option D
  | [d, .tup true cs] => d.tyS.bind fun T => (tysOf cs).bind fun ns => (kitL T ns).map D.bl
  | _ => none
theorem d_isiT : CallD K (rIsiT K) dIsiT := by
  intro F U C1 H xs ds z Q hz o ha k
  match ds, hz, o with
  | [d, .tup true cs], hz, o =>
    obtain ⟨v, w, C2, C3, rfl, h1, h2, h3⟩ := own2 o
    cases h2 with
    | z h2 => cases h2
    | @tup a xs _ C4 h2 =>
      obtain ⟨T, e1, e2⟩ := Option.bind_eq_some_iff.mp hz
      obtain ⟨ns, e5, e6⟩ := Option.bind_eq_some_iff.mp e2
      obtain ⟨b, e3, e4⟩ := Option.map_eq_some_iff.mp e6
      cases e4
      have ha2 : HA F ((a, .tup xs) :: (C4 ++ (C2 ++ U))) H := ha.sub fun x => by simp only [cn_append, cn_cons]; have := h3 x; simp only [cn_cons] at this; omega
      exact ⟨v, a, xs, _, _, b, rfl, (ha2.ow _ List.mem_cons_self).1, tysOf_own h2 e5, own_tyX (U := U) h1 (ha.sub fun x => by simp only [cn_append]; have := h3 x; omega) e1, kitL_ok e3, k _ H F [] .refl (.z (.bl _)) (ha.sub fun x => by simp only [cn_append, cn_nil]; omega)⟩
end
end DL
set_option Elab.async false
set_option linter.all false
set_option maxRecDepth 100000
set_option maxHeartbeats 2000000
set_option exponentiation.threshold 600
/-! methods of lists, slices by a step, calls with keywords, repr -/
namespace DL
open PySem PySem.Spec PyProof.Rows L2 LB
section
variable {K : PySem.W.Frag}
/-! ### methods that change a list -/
theorem OwnL.snoc {F : Hp} {xs : List V} {ds : List D} {C C1 : CL} {v : V} {d : D} (h : OwnL K F xs ds C) (o : Own K F v d C1) : OwnL K F (xs ++ [v]) (ds ++ [d]) (C ++ (C1 ++ [])) := h.append (.cons o .nil)
def mAppend : List D → List D → Option (D × List D)
  | ds, [d] => if ds.length < mx then some (.non, ds ++ [d]) else none
  | _, _ => none
theorem m_append : MtD K rAppend mAppend := by
  intro F U C1 C2 H a xs vs ds as ds' z Q hz o1 o2 ha k
  match as, hz, o2 with
  | [d], hz, o2 =>
    obtain ⟨v, C3, rfl, h1, h2⟩ := own1 o2
    change (if ds.length < mx then some (D.non, ds ++ [d]) else none) = some (z, ds') at hz
    split at hz
    · rename_i hl
      cases hz
      refine ⟨a, xs, v, rfl, rfl, (ha.ow _ List.mem_cons_self).1, szl (by rw [o1.length]; exact hl), ?_⟩
      exact k .non _ F _ _ [] .refl (o1.snoc h1) (.z .non) ((ha.put _).sub fun x => by simp only [cn_append, cn_cons, cn_nil]; have := h2 x; omega)
    · cases hz
def rExtX (K : PySem.W.Frag) : V → List V → Hp → VK → Prop := fun x vs H Q => ∃ l b xs zs, x = .ref l ∧ vs = [.ref b] ∧ H l = some (.lst xs) ∧ SqX K H b zs ∧ xs.length + zs.length ≤ mx ∧ Q .non (upd H l (.lst (xs ++ zs)))
theorem mt_extX {X : Cx} (hK : X.K = K) : MtR X "list.extend" (rExtX K) := by
  subst hK
  intro pins s σ H x vs v us Q I rx rv h
  obtain ⟨l, b, xs, zs, rfl, rfl, hl, hb, hz, q⟩ := h
  cases rx
  obtain ⟨u, rfl, ru⟩ := rv.one
  cases ru
  obtain ⟨_, i1, n1, r1, k1, e1⟩ := I.lstM hl
  obtain ⟨i2, n2, r2, e2⟩ := inv_lx I hb
  have k2 := r2.length
  have z1 : i1.toArray.size + i2.toArray.size ≤ sizeLine := sz (by rw [List.size_toArray, List.size_toArray, ← k1, ← k2]; exact hz)
  have z2 : ¬ (!i1.toArray.isEmpty && Builtin.List.listTooLong (i1.toArray.size + i2.toArray.size)) = true := by rw [notLongL z1]; simp
  have z3 : i1.toArray.size ≤ sizeLine := Nat.le_trans (Nat.le_add_right _ _) z1
  have z4 : i1.toArray.size + i2.toArray.size ≤ sizeLine + 1 := Nat.le_succ_of_le z1
  refine call_meets F.slot_list_extend ⟨_, e1, rfl⟩ F.entry_list_extend (F.args_list_extend_2 _ _)
    (AutoSeq1.list_extend_list_list_0 l i1.toArray n1 b i2.toArray n2 z2 z3 z4) ⟨e1, e2, ?_⟩
  exact ⟨.non, _, I.lset (its' := i1 ++ i2) hl e1 (by simp) (r1.append r2) (sz (by rw [List.length_append]; exact hz)), rfl, q⟩
def mExtend : List D → List D → Option (D × List D)
  | ds, [.lst _ es] => if ds.length + es.length ≤ mx then some (.non, ds ++ es) else none
  | _, _ => none
theorem m_extend : MtD K (rExtX K) mExtend := by
  intro F U C1 C2 H a xs vs ds as ds' z Q hz o1 o2 ha k
  match as, hz, o2 with
  | [.lst ob es], hz, o2 =>
    obtain ⟨v, C3, rfl, h1, h2⟩ := own1 o2
    change (if ds.length + es.length ≤ mx then some (D.non, ds ++ es) else none) = some (z, ds') at hz
    split at hz
    · rename_i hl
      cases hz
      obtain ⟨b, ys, C4, rfl, h3, h4, h5⟩ := h1.seqL (U := (a, .lst xs) :: (C1 ++ U)) (ha.sub fun x => by simp only [cn_append, cn_cons]; have := h2 x; omega)
      refine ⟨a, b, xs, ys, rfl, rfl, (ha.ow _ List.mem_cons_self).1, h3, by rw [o1.length, h4.length]; exact hl, ?_⟩
      exact k .non _ F _ _ [] .refl (o1.append h4) (.z .non) ((ha.put _).sub fun x => by simp only [cn_append, cn_cons, cn_nil]; have := h2 x; have := h5 x; omega)
    · cases hz
theorem OwnL.erase {F : Hp} {vs : List V} {ds : List D} {C : CL} (h : OwnL K F vs ds C) : ∀ {k : Nat} {d : D}, ds[k]? = some d → ∃ v C1 C2, vs[k]? = some v ∧ Own K F v d C1 ∧ OwnL K F (vs.eraseIdx k) (ds.eraseIdx k) C2 ∧ ∀ x, cn x C = cn x C1 + cn x C2 := by
  induction ds generalizing vs C with
  | nil => intro k d e; simp at e
  | cons d0 ds ih =>
    intro k d e
    cases h with
    | @cons v vs _ _ C1 C2 q t =>
      cases k with
      | zero => simp at e; subst e; exact ⟨v, C1, C2, rfl, q, t, fun x => cn_append x _ _⟩
      | succ k =>
        obtain ⟨w, D1, D2, h1, h2, h3, h4⟩ := ih t (by simpa using e)
        exact ⟨w, D1, C1 ++ D2, by simpa using h1, h2, .cons q h3, fun x => by rw [cn_append, cn_append, h4]; omega⟩
def mPop : List D → List D → Option (D × List D)
  | ds, [] => (ds[ds.length - 1]?).map fun d => (d, ds.dropLast)
  | ds, [.int i] => if -(2 ^ 63) ≤ i ∧ i < 2 ^ 63 then (seqIndex? i ds.length).bind fun k => (ds[k]?).map fun d => (d, ds.eraseIdx k) else none
  | _, _ => none
def mPop0 (ds as : List D) : Option (D × List D) := if as.length = 0 then mPop ds as else none
theorem m_pop : MtD K rPop mPop0 := by
  intro F U C1 C2 H a xs vs ds as ds' z Q hz o1 o2 ha k
  unfold mPop0 at hz
  split at hz
  rotate_left
  · cases hz
  rename_i hl0
  obtain rfl := List.eq_nil_of_length_eq_zero hl0
  · cases o2
    change (ds[ds.length - 1]?).map (fun d => (d, ds.dropLast)) = some (z, ds') at hz
    obtain ⟨d, e1, e2⟩ := Option.map_eq_some_iff.mp hz
    cases e2
    obtain ⟨v, D1, D2, h1, h2, h3, h4⟩ := o1.erase e1
    rw [List.eraseIdx_length_sub_one, ← o1.length, List.eraseIdx_length_sub_one] at h3
    rw [← o1.length] at h1
    refine ⟨a, xs, v, rfl, rfl, (ha.ow _ List.mem_cons_self).1, h1, ?_⟩
    exact k v _ F _ D2 D1 .refl h3 h2 ((ha.put _).sub fun x => by simp only [cn_append, cn_cons, cn_nil]; have := h4 x; omega)
def mPopAt (ds as : List D) : Option (D × List D) := if as.length = 1 then mPop ds as else none
theorem m_popAt : MtD K rPopAt mPopAt := by
  intro F U C1 C2 H a xs vs ds as ds' z Q hz o1 o2 ha k
  unfold mPopAt at hz
  split at hz
  rotate_left
  · cases hz
  match as, hz, o2 with
  | [.int i], hz, o2 =>
    obtain ⟨v, C3, rfl, h1, h2⟩ := own1 o2
    obtain ⟨rfl, rfl⟩ := own_int h1
    change (if -(2 ^ 63) ≤ i ∧ i < 2 ^ 63 then (seqIndex? i ds.length).bind fun k => (ds[k]?).map fun d => (d, ds.eraseIdx k) else none) = some (z, ds') at hz
    split at hz
    · rename_i hi
      obtain ⟨j, e1, e2⟩ := Option.bind_eq_some_iff.mp hz
      obtain ⟨d, e3, e4⟩ := Option.map_eq_some_iff.mp e2
      cases e4
      obtain ⟨v, D1, D2, h3, h4, h5, h6⟩ := o1.erase e3
      refine ⟨a, xs, i, j, v, rfl, rfl, (ha.ow _ List.mem_cons_self).1, hi.1, hi.2, by rw [o1.length]; exact e1, h3, ?_⟩
      exact k v _ F _ D2 D1 .refl h5 h4 ((ha.put _).sub fun x => by simp only [cn_append, cn_cons, cn_nil]; have := h6 x; omega)
    · cases hz
def mReverse : List D → List D → Option (D × List D)
  | ds, [] => some (.non, ds.reverse)
  | _, _ => none
theorem m_reverse : MtD K rReverse mReverse := by
  intro F U C1 C2 H a xs vs ds as ds' z Q hz o1 o2 ha k
  match as, hz, o2 with
  | [], hz, o2 =>
    cases o2
    cases hz
    obtain ⟨C3, h1, h2⟩ := o1.rev
    exact ⟨a, xs, rfl, rfl, (ha.ow _ List.mem_cons_self).1, k .non _ F _ C3 [] .refl h1 (.z .non) ((ha.put _).sub fun x => by simp only [cn_append, cn_cons, cn_nil]; have := h2 x; omega)⟩
def mClear : List D → List D → Option (D × List D)
  | _, [] => some (.non, [])
  | _, _ => none
theorem m_clear : MtD K rClear mClear := by
  intro F U C1 C2 H a xs vs ds as ds' z Q hz o1 o2 ha k
  match as, hz, o2 with
  | [], hz, o2 =>
    cases o2
    cases hz
    exact ⟨a, xs, rfl, rfl, (ha.ow _ List.mem_cons_self).1, k .non _ F _ [] [] .refl .nil (.z .non) ((ha.put _).sub fun x => by simp only [cn_append, cn_cons, cn_nil]; omega)⟩
def mInsert : List D → List D → Option (D × List D)
  | ds, [.int i, d] => if 0 ≤ i ∧ i < 2 ^ 63 ∧ ds.length < mx then some (.non, ds.take i.toNat ++ [d] ++ ds.drop i.toNat) else none
  | _, _ => none
def rInsert : V → List V → Hp → VK → Prop := fun x vs H Q => ∃ (l : Addr) (xs : List V) (i : Int) (y : V), x = .ref l ∧ vs = [.int i, y] ∧ H l = some (.lst xs) ∧ xs.length < sizeLine ∧ 0 ≤ i ∧ i < 2 ^ 63 ∧ Q .non (upd H l (.lst (xs.take i.toNat ++ [y] ++ xs.drop i.toNat)))
theorem OwnL.split {F : Hp} {vs : List V} {ds : List D} {C : CL} (h : OwnL K F vs ds C) (n : Nat) : ∃ C1 C2, OwnL K F (vs.take n) (ds.take n) C1 ∧ OwnL K F (vs.drop n) (ds.drop n) C2 ∧ ∀ x, cn x C = cn x C1 + cn x C2 := by
  induction ds generalizing vs C n with
  | nil => cases h; exact ⟨[], [], by simpa using OwnL.nil, by simpa using OwnL.nil, fun x => rfl⟩
  | cons d ds ih =>
    cases h with
    | @cons v vs _ _ C1 C2 q t =>
      cases n with
      | zero => exact ⟨[], C1 ++ C2, by simpa using OwnL.nil, .cons q t, fun x => by rw [cn_nil]; omega⟩
      | succ n =>
        obtain ⟨D1, D2, h1, h2, h3⟩ := ih t n
        exact ⟨C1 ++ D1, D2, by simpa using OwnL.cons q h1, by simpa using h2, fun x => by rw [cn_append, cn_append, h3]; omega⟩
theorem m_insert : MtD K rInsert mInsert := by
  intro F U C1 C2 H a xs vs ds as ds' z Q hz o1 o2 ha k
  match as, hz, o2 with
  | [.int i, d], hz, o2 =>
    obtain ⟨v, w, C3, C4, rfl, h1, h2, h3⟩ := own2 o2
    obtain ⟨rfl, rfl⟩ := own_int h1
    change (if 0 ≤ i ∧ i < 2 ^ 63 ∧ ds.length < mx then some (D.non, ds.take i.toNat ++ [d] ++ ds.drop i.toNat) else none) = some (z, ds') at hz
    split at hz
    · rename_i hi
      cases hz
      obtain ⟨D1, D2, h4, h5, h6⟩ := o1.split i.toNat
      refine ⟨a, xs, i, w, rfl, rfl, (ha.ow _ List.mem_cons_self).1, szl (by rw [o1.length]; exact hi.2.2), hi.1, hi.2.1, ?_⟩
      exact k .non _ F _ _ [] .refl ((h4.snoc h2).append h5) (.z .non) ((ha.put _).sub fun x => by simp only [cn_append, cn_cons, cn_nil]; have := h6 x; have := h3 x; simp only [cn_nil] at this; omega)
    · cases hz
def mRemove : List D → List D → Option (D × List D)
  | ds, [.int k] => (intsOf ds).bind fun ns => if k ∈ ns then some (.non, (ns.erase k).map D.int) else none
  | _, _ => none
theorem m_remove : MtD K rRemI mRemove := by
  intro F U C1 C2 H a xs vs ds as ds' z Q hz o1 o2 ha k
  match as, hz, o2 with
  | [.int i], hz, o2 =>
    obtain ⟨v, C3, rfl, h1, h2⟩ := own1 o2
    obtain ⟨rfl, rfl⟩ := own_int h1
    obtain ⟨ns, e1, e2⟩ := Option.bind_eq_some_iff.mp hz
    split at e2
    · rename_i hm
      cases e2
      obtain ⟨rfl, rfl⟩ := intsOf_own o1 e1
      have hlt := List.idxOf_lt_length_of_mem hm
      have hm2 := (ha.ow _ List.mem_cons_self).1
      refine ⟨a, ns, i, ns.idxOf i, rfl, rfl, hm2, ?_, fun m hmj e => ?_, ?_⟩
      · rw [List.getElem?_eq_getElem hlt, List.getElem_idxOf hlt]
      · have := List.idxOf_lt_length_of_mem hm
        have hml : m < ns.length := by omega
        rw [List.getElem?_eq_getElem hml] at e
        have e' := Option.some.inj e
        have : ns.idxOf i ≤ m := by
          have h3 := List.not_of_lt_findIdx (p := (· == i)) (xs := ns) (i := m) (by simpa [List.idxOf] using hmj)
          simp [e'] at h3
        omega
      · rw [← List.erase_eq_eraseIdx_of_idxOf rfl]
        exact k .non _ F _ [] [] .refl (own_ints _) (.z .non) ((ha.put _).sub fun x => by simp only [cn_append, cn_cons, cn_nil]; omega)
    · cases e2
end
end DL
set_option Elab.async false
set_option linter.all false
set_option maxRecDepth 100000
set_option maxHeartbeats 2000000
set_option exponentiation.threshold 600
/-! methods called, slices by a step, ranges, calls by keywords, repr -/
namespace DL
open PySem PySem.Spec PyProof.Rows L2 LB
section
variable {X : Cx} {K : PySem.W.Frag} {e a b o tg : Expr} {fe fa fb fo : M D} {pos : Pos} {es : List Expr} {fas fks : M (List AR)} {apos cpos : Pos}
/-! ### a method that changes its list, in slot j -/
theorem e_mt {j : Nat} {r : V → List V → Hp → VK → Prop} {g : List D → List D → Option (D × List D)} (h : PE X e (tBM K "list" r (tVar j) (tFA K fas))) (hg : MtD K r g) : PE X e (tF K (fMt j g fas)) := pe_same h fun σ H Q z => tF_mt hg z
def fMt0 (j : Nat) (g : List D → List D → Option (D × List D)) : M D := fMt j g fAN
theorem e_mt0 {j : Nat} {r : V → List V → Hp → VK → Prop} {g : List D → List D → Option (D × List D)} (h : PE X e (tBM0 K "list" r (tVar j))) (hg : MtD K r g) : PE X e (tF K (fMt0 j g)) := pe_same h fun σ H Q z => by
  obtain ⟨v, hv, ty, p, F, R, s, as, s1, hr, ea, k⟩ := tF_mt hg z
  cases ea
  exact ⟨v, hv, ty, k [] H F [] .refl .nil hr⟩
/-! ### a method that only reads -/
def MvD (K : PySem.W.Frag) (r : V → List V → Hp → VK → Prop) (g : D → List D → Option D) : Prop := ∀ {F : Hp} {U C1 C2 : CL} {H : Hp} {x : V} {vs : List V} {d z : D} {as : List D} {Q : VK}, g d as = some z → Own K F x d C1 → OwnL K F vs as C2 → HA F (C1 ++ (C2 ++ U)) H →
  (∀ v H' F' C, Le F F' → Own K F' v z C → HA F' (C ++ U) H' → Q v H') → r x vs H Q
def D.isL : D → Bool
  | .lst _ _ => true
  | _ => false
def fBM (g : D → List D → Option D) (fo : M D) (fas : M (List AR)) : M D := fun s => (fo s).bind fun x => if x.1.isL = true then (fas x.2).bind fun a => (ARall a.1).bind fun as => (g x.1 as).map fun z => (z, a.2) else none
theorem e_bm {r : V → List V → Hp → VK → Prop} {g : D → List D → Option D} (h : PE X e (tBM K "list" r (tF K fo) (tFA K fas))) (hg : MvD K r g) : PE X e (tF K (fBM g fo fas)) := pe_same h fun σ H Q z => by
  obtain ⟨p, F, R, s, rr, s', hr, e, k⟩ := z
  obtain ⟨x, ex, e⟩ := Option.bind_eq_some_iff.mp e
  split at e
  rotate_left
  · cases e
  rename_i hl
  obtain ⟨a, ea, e⟩ := Option.bind_eq_some_iff.mp e
  obtain ⟨as, ee, e⟩ := Option.bind_eq_some_iff.mp e
  obtain ⟨z, ez, e⟩ := Option.map_eq_some_iff.mp e
  cases e
  refine ⟨p, F, R, s, x.1, x.2, hr, ex, fun v1 H1 F1 C1 l1 o1 r1 => ?_⟩
  obtain ⟨C, hs, ha⟩ := r1
  refine ⟨?_, p, F1, C1 ++ R, x.2, a.1, a.2, ⟨C, hs, ha⟩, ea, fun vs H2 F2 C2 l2 o2 ⟨Cs, hs2, ha2⟩ => ?_⟩
  · cases q : x.1 with
    | lst ob ds =>
      rw [q] at o1
      obtain ⟨b, xs, C3, rfl, h2, _⟩ := o1.seqL (U := C ++ R) (ha.sub fun x => by simp only [cn_append]; omega)
      exact .inl ⟨rfl, xs, h2.l⟩
    | _ => rw [q] at hl; cases hl
  · refine hg (U := Cs ++ R) ez (o1.mono l2) (o2.all ee) (ha2.sub fun x => by simp only [cn_append]; omega) fun v H' F' C' l o h => ?_
    exact k v H' F' C' (l1.trans (l2.trans l)) o ⟨Cs, hs2.mono l, h.sub fun x => by simp only [cn_append]; omega⟩
def vIndex : D → List D → Option D
  | .lst _ ds, [e] => if e.flat = true ∧ ds.all D.flat = true then (ds.findIdx? fun z => eqF z e).map fun j => .int (j : Nat) else none
  | _, _ => none
theorem v_index : MvD K (rIndex K) vIndex := by
  intro F U C1 C2 H x vs d z as Q hz o1 o2 ha k
  cases d <;> first | (cases hz; done) | skip
  rename_i ob ds
  match as, hz, o2 with
  | [e], hz, o2 =>
    obtain ⟨v, C3, rfl, h1, h2⟩ := own1 o2
    change (if e.flat = true ∧ ds.all D.flat = true then (ds.findIdx? fun z => eqF z e).map fun j => D.int (j : Nat) else none) = some z at hz
    split at hz
    · rename_i c
      obtain ⟨j, e1, e2⟩ := Option.map_eq_some_iff.mp hz
      cases e2
      obtain ⟨b, xs, C4, rfl, h3, h4, h5⟩ := o1.seqL ha
      obtain ⟨h6, _⟩ := own_inF h1 c.1 h4 c.2
      rw [List.findIdx?_eq_some_iff_getElem] at e1
      obtain ⟨hj, e1, e2⟩ := e1
      obtain ⟨w, C5, h7, h8, _⟩ := h4.get (List.getElem?_eq_getElem hj)
      have fl : ∀ y ∈ ds, y.flat = true := List.all_eq_true.mp c.2
      refine ⟨b, xs, v, j, w, rfl, rfl, h3.l, own_flat h1 c.1, h6, h7, ?_, fun m z' hm hz' => ?_, ?_⟩
      · rw [own_eqF h8 h1 (fl _ (List.getElem_mem hj)) c.1]; exact e1
      · have hm2 : m < ds.length := Nat.lt_trans hm hj
        obtain ⟨w', C6, k1, k2, _⟩ := h4.get (List.getElem?_eq_getElem hm2)
        have : w' = z' := by rw [k1] at hz'; exact Option.some.inj hz'
        subst this
        rw [own_eqF k2 h1 (fl _ (List.getElem_mem hm2)) c.1]
        simpa using e2 m hm
      · exact k _ H F [] .refl (.z (.int _)) (ha.sub fun x => by simp only [cn_append, cn_nil]; omega)
    · cases hz
def vCount : D → List D → Option D
  | .lst _ ds, [.int k] => (intsOf ds).map fun ns => .int (ns.count k : Nat)
  | _, _ => none
theorem v_count : MvD K (rCntI K) vCount := by
  intro F U C1 C2 H x vs d z as Q hz o1 o2 ha k
  cases d <;> first | (cases hz; done) | skip
  rename_i ob ds
  match as, hz, o2 with
  | [.int i], hz, o2 =>
    obtain ⟨v, C3, rfl, h1, h2⟩ := own1 o2
    obtain ⟨rfl, rfl⟩ := own_int h1
    obtain ⟨ns, e1, e2⟩ := Option.map_eq_some_iff.mp hz
    cases e2
    obtain ⟨b, xs, C4, rfl, h3, h4, h5⟩ := o1.seqL ha
    rw [(intsOf_own h4 e1).1] at h3
    exact ⟨b, ns, i, rfl, rfl, h3.l, k _ H F [] .refl (.z (.int _)) (ha.sub fun x => by simp only [cn_append, cn_nil]; omega)⟩
theorem k_count (hK : X.K = K) : MtR X "list.count" (rCntI K) := by subst hK; exact mt_lcount
/-! ### slices by a step -/
def fRev (fe : M D) : M D := fun s => (fe s).bind fun x => match x.1 with
  | .lst _ ds => some (.lst true ds.reverse, x.2)
  | _ => none
theorem e_rev (hK : X.K = K) {kk : Nat} {p1 p2 p3 : Pos} (h : PE X e (tF K fe)) : PE X (.Subscript e (.Slice none none (some (.UnaryOp .USub (.Constant (.int 1) kk p1) p2)) p3) pos) (tF K (fRev fe)) := pe_same (k_rev hK h) fun σ H Q z => by
  obtain ⟨p, F, R, s, r, s', hr, e, k⟩ := z
  obtain ⟨⟨d, s1⟩, ex, e⟩ := Option.bind_eq_some_iff.mp e
  refine ⟨p, F, R, s, d, s1, hr, ex, fun v1 H1 F1 C1 l1 o1 ⟨C, hs, ha⟩ => ?_⟩
  cases d <;> first | (cases e; done) | skip
  cases e
  obtain ⟨b, xs, C2, rfl, h2, h3, h4⟩ := o1.seqL (U := C ++ R) (ha.sub fun x => by simp only [cn_append]; omega)
  obtain ⟨C3, h5, h6⟩ := h3.rev
  exact ⟨b, xs, rfl, h2.l, fun p np => k _ _ F1 _ l1 (.lst h5) ⟨C, hs, (ha.new np _).sub fun x => by simp only [cn_append, cn_cons]; have := h4 x; have := h6 x; omega⟩⟩
def dStep : D → D → Option D
  | .lst _ ds, .int c => if c = 1 then some (.lst true ds) else if c = -1 then some (.lst true ds.reverse) else none
  | _, _ => none
def fStep (fe fc : M D) : M D := fOp dStep fe fc
theorem e_step (hK : X.K = K) {c : Expr} {fc : M D} {p3 : Pos} (h : PE X e (tF K fe)) (hc : PE X c (tF K fc)) : PE X (.Subscript e (.Slice none none (some c) p3) pos) (tF K (fStep fe fc)) := pe_same (k_step hK h hc) fun σ H Q z => by
  obtain ⟨p, F, R, s, r, s', hr, e, k⟩ := z
  obtain ⟨⟨d, s1⟩, ex, e⟩ := Option.bind_eq_some_iff.mp e
  obtain ⟨⟨d2, s2⟩, ey, e⟩ := Option.bind_eq_some_iff.mp e
  refine ⟨p, F, R, s, d, s1, hr, ex, fun v1 H1 F1 C1 l1 o1 r1 => ?_⟩
  refine ⟨p, F1, C1 ++ R, s1, d2, s2, r1, ey, fun v2 H2 F2 C2 l2 o2 ⟨C, hs, ha⟩ => ?_⟩
  obtain ⟨zz, ez, e'⟩ := Option.map_eq_some_iff.mp e
  obtain ⟨rfl, rfl⟩ := Prod.mk.inj e'
  match d, d2, o1, o2, ez with
  | .lst ob ds, .int c, o1, o2, e =>
    obtain ⟨rfl, rfl⟩ := own_int o2
    obtain ⟨b, xs, C3, rfl, h2, h3, h4⟩ := (o1.mono l2).seqL (U := C ++ R) (ha.sub fun x => by simp only [cn_append, cn_nil]; omega)
    change (if c = 1 then some (D.lst true ds) else if c = -1 then some (D.lst true ds.reverse) else none) = some zz at e
    refine ⟨c, rfl, b, xs, c, rfl, rfl, h2.l, ?_⟩
    split at e
    · rename_i q
      cases e
      exact .inl ⟨q, fun p np => k _ _ F2 _ (l1.trans l2) (.lst h3) ⟨C, hs, (ha.new np _).sub fun x => by simp only [cn_append, cn_cons, cn_nil]; have := h4 x; omega⟩⟩
    · split at e
      · rename_i q
        cases e
        obtain ⟨C4, h5, h6⟩ := h3.rev
        exact .inr ⟨q, fun p np => k _ _ F2 _ (l1.trans l2) (.lst h5) ⟨C, hs, (ha.new np _).sub fun x => by simp only [cn_append, cn_cons, cn_nil]; have := h4 x; have := h6 x; omega⟩⟩
      · cases e
/-! ### list(range(..)) -/
theorem own_rg {F : Hp} (lo : Int) (n : Nat) : OwnL K F (rgV lo (lo + n)) (rgD lo n) [] := by
  unfold rgV rgD
  rw [show (lo + (n : Int) - lo).toNat = n by omega]
  induction List.range n with
  | nil => exact .nil
  | cons k r ih => exact .cons (C1 := []) (.z (.int _)) ih
def fRg1 (fe : M D) : M D := fun s => (fe s).bind fun x => (asI x.1).bind fun n => if -1000000 ≤ n ∧ n ≤ 1000000 then some (.lst true (rgD 0 n.toNat), x.2) else none
def fRg2 (fa fb : M D) : M D := fun s => (fa s).bind fun x => (fb x.2).bind fun y => (asI x.1).bind fun lo => (asI y.1).bind fun hi => if -1000000 ≤ lo ∧ lo ≤ 1000000 ∧ -1000000 ≤ hi ∧ hi ≤ 1000000 then some (.lst true (rgD lo (hi - lo).toNat), y.2) else none
theorem rgV_toNat (lo hi : Int) : rgV lo hi = rgV lo (lo + (hi - lo).toNat) := by
  unfold rgV
  rw [show (lo + ((hi - lo).toNat : Int) - lo).toNat = (hi - lo).toNat by omega]
theorem e_rg1 (h : PE X e (tLstRg (tRg1 (tF K fe)))) : PE X e (tF K (fRg1 fe)) := pe_same h fun σ H Q z => by
  obtain ⟨p, F, R, s, r, s', hr, e, k⟩ := z
  obtain ⟨x, ex, e⟩ := Option.bind_eq_some_iff.mp e
  obtain ⟨n, en, e⟩ := Option.bind_eq_some_iff.mp e
  split at e
  · rename_i hn
    cases e
    refine ⟨p, F, R, s, x.1, x.2, hr, ex, fun v1 H1 F1 C1 l1 o1 ⟨C, hs, ha⟩ => ?_⟩
    rw [asI_some en] at o1
    obtain ⟨rfl, rfl⟩ := own_int o1
    refine ⟨n, rfl, ⟨by omega, by omega, by omega, by omega, by omega⟩, fun p np => ?_⟩
    refine k _ _ F1 _ l1 (.lst (C := []) (xs := rgV 0 n) ?_) ⟨C, hs, (ha.new np _).sub fun x => by simp only [cn_append, cn_cons, cn_nil]; omega⟩
    have := own_rg (K := K) (F := F1) 0 n.toNat
    rw [rgV_toNat, show n - 0 = n by omega]
    exact this
  · cases e
theorem e_rg2 (h : PE X e (tLstRg (tRg2 (tF K fa) (tF K fb)))) : PE X e (tF K (fRg2 fa fb)) := pe_same h fun σ H Q z => by
  obtain ⟨p, F, R, s, r, s', hr, e, k⟩ := z
  obtain ⟨x, ex, e⟩ := Option.bind_eq_some_iff.mp e
  obtain ⟨y, ey, e⟩ := Option.bind_eq_some_iff.mp e
  obtain ⟨lo, el, e⟩ := Option.bind_eq_some_iff.mp e
  obtain ⟨hi, eh, e⟩ := Option.bind_eq_some_iff.mp e
  split at e
  · rename_i hn
    cases e
    refine ⟨p, F, R, s, x.1, x.2, hr, ex, fun v1 H1 F1 C1 l1 o1 r1 => ?_⟩
    refine ⟨p, F1, C1 ++ R, x.2, y.1, y.2, r1, ey, fun v2 H2 F2 C2 l2 o2 ⟨C, hs, ha⟩ => ?_⟩
    rw [asI_some el] at o1
    rw [asI_some eh] at o2
    obtain ⟨rfl, rfl⟩ := own_int o1
    obtain ⟨rfl, rfl⟩ := own_int o2
    refine ⟨lo, hi, rfl, rfl, ⟨by omega, by omega, by omega, by omega, by omega⟩, fun p np => ?_⟩
    refine k _ _ F2 _ (l1.trans l2) (.lst (C := []) (xs := rgV lo hi) ?_) ⟨C, hs, (ha.new np _).sub fun x => by simp only [cn_append, cn_cons, cn_nil]; omega⟩
    rw [rgV_toNat]
    exact own_rg lo _
  · cases e
/-! ### calls with keywords -/
theorem pk_same {kws : List Keyword} {t t' : TA} (h : PK X kws t) (q : ∀ σ H Q, t' σ H Q → t σ H Q) : PK X kws t' := ⟨fun pos pins s σ H Q I z => h.run pos pins s σ H Q I (q _ _ _ z)⟩
theorem k_nil : PK X [] (tFA K fAN) := pk_same pk_nil fun σ H Q z => by
  obtain ⟨p, F, R, s, r, s', hr, e, k⟩ := z
  cases e
  exact k [] H F [] .refl .nil hr
theorem k_cons {nm : Option Str} {kpos : Pos} {kws : List Keyword} (ha : PE X e (tF K fe)) (hr : PK X kws (tFA K fas)) : PK X (⟨nm, e, kpos⟩ :: kws) (tFA K (fAC fe fas)) := pk_same (pk_cons ha hr) fun σ H Q z => by
  obtain ⟨p, F, R, s, r, s', hr, e, k⟩ := z
  obtain ⟨x, ex, e⟩ := Option.bind_eq_some_iff.mp e
  obtain ⟨y, ey, e⟩ := Option.map_eq_some_iff.mp e
  cases e
  refine ⟨p, F, R, s, x.1, x.2, hr, ex, fun v1 H1 F1 C1 l1 o1 r1 => ?_⟩
  refine ⟨p, F1, C1 ++ R, x.2, y.1, y.2, r1, ey, fun vs H2 F2 C2 l2 o2 r2 => ?_⟩
  exact k (v1 :: vs) H2 F2 (C1 ++ C2) (l1.trans l2) (.d (o1.mono l2) o2) (r2.sub fun x => by simp only [cn_append]; omega)
theorem OwnL.cells {F : Hp} {vs : List V} {ds : List D} {C : CL} (h : OwnL K F vs ds C) : ∃ Cs : List CL, Cs.length = ds.length ∧ C = Cs.flatten ∧ ∀ (i : Nat) (v : V) (d : D) (c : CL), vs[i]? = some v → ds[i]? = some d → Cs[i]? = some c → Own K F v d c := by
  induction ds generalizing vs C with
  | nil => cases h; exact ⟨[], rfl, rfl, fun i v d c h => by simp at h⟩
  | cons d ds ih =>
    cases h with
    | @cons v vs _ _ C1 C2 q t =>
      obtain ⟨Cs, h1, h2, h3⟩ := ih t
      refine ⟨C1 :: Cs, by simp [h1], by simp [h2], fun i v' d' c e1 e2 e3 => ?_⟩
      cases i with
      | zero => simp at e1 e2 e3; subst e1; subst e2; subst e3; exact q
      | succ i => exact h3 i v' d' c (by simpa using e1) (by simpa using e2) (by simpa using e3)
theorem cn_set {x : Addr × HO} : ∀ {Cs : List CL} {i : Nat} {c : CL}, Cs[i]? = some c → cn x Cs.flatten = cn x c + cn x (Cs.set i []).flatten
  | [], i, c, h => by simp at h
  | c0 :: Cs, 0, c, h => by simp at h; subst h; simp [cn_append, cn_nil]
  | c0 :: Cs, i + 1, c, h => by
    have := cn_set (x := x) (Cs := Cs) (i := i) (c := c) (by simpa using h)
    simp only [List.flatten_cons, cn_append, List.set_cons_succ]
    omega
theorem cn_pick {x : Addr × HO} : ∀ {idx : List Nat} {Cs : List CL}, idx.Nodup → cn x (pickL idx Cs).flatten ≤ cn x Cs.flatten
  | [], Cs, _ => by simp [pickL, cn_nil]
  | i :: r, Cs, h => by
    have h' := List.nodup_cons.mp h
    rw [pickL]
    cases e : Cs[i]? with
    | none => exact cn_pick h'.2
    | some c =>
      have e2 : pickL r Cs = pickL r (Cs.set i []) := by
        have : ∀ {r : List Nat}, i ∉ r → pickL r Cs = pickL r (Cs.set i []) := by
          intro r
          induction r with
          | nil => intro _; rfl
          | cons j r ih =>
            intro hj
            rw [List.mem_cons, not_or] at hj
            rw [pickL, pickL, ih hj.2, List.getElem?_set_ne hj.1]
        exact this h'.1
      have h3 := cn_pick (x := x) (idx := r) (Cs := Cs.set i []) h'.2
      show cn x (c :: pickL r Cs).flatten ≤ _
      rw [List.flatten_cons, cn_append, e2, cn_set e]
      omega
theorem OwnL.pick {F : Hp} {vs : List V} {ds : List D} {C : CL} (h : OwnL K F vs ds C) {idx : List Nat} (nd : idx.Nodup) : ∃ C', OwnL K F (pickL idx vs) (pickL idx ds) C' ∧ ∀ x, cn x C' ≤ cn x C := by
  obtain ⟨Cs, h1, h2, h3⟩ := h.cells
  refine ⟨(pickL idx Cs).flatten, ?_, fun x => by rw [h2]; exact cn_pick nd⟩
  clear nd
  have hl := h.length
  induction idx with
  | nil => exact .nil
  | cons i r ih =>
    rw [pickL, pickL, pickL]
    by_cases hi : i < ds.length
    · have e1 : vs[i]? = some vs[i] := List.getElem?_eq_getElem (by omega)
      have e2 : ds[i]? = some ds[i] := List.getElem?_eq_getElem hi
      have e3 : Cs[i]? = some Cs[i] := List.getElem?_eq_getElem (by omega)
      rw [e1, e2, e3]
      exact .cons (h3 i _ _ _ e1 e2 e3) ih
    · rw [List.getElem?_eq_none (by omega), List.getElem?_eq_none (by omega), List.getElem?_eq_none (by omega)]
      exact ih
/-- no argument is changed in place -/
def fCallK (n m : Nat) (idx : List Nat) (io : List Bool) (FD : List D → Option (D × List D)) (fas fks : M (List AR)) : M D := fun s => (fas s).bind fun a => (ARall a.1).bind fun ds => (fks a.2).bind fun b => (ARall b.1).bind fun es =>
  if ds.length = n ∧ es.length = m ∧ io.all (fun b => !b) = true ∧ (pickL idx (ds ++ es)).length = io.length then (FD (pickL idx (ds ++ es))).bind fun r => if r.2.length = 0 then some (r.1, b.2) else none else none
theorem pick_none : ∀ {io : List Bool} {vs : List V}, io.all (fun b => !b) = true → DL.pick io vs = []
  | [], vs, _ => rfl
  | false :: io, [], _ => rfl
  | false :: io, v :: vs, h => by rw [DL.pick]; exact pick_none (by simpa using h)
  | true :: io, vs, h => by simp at h
theorem tF_callK {n m : Nat} {idx : List Nat} {io : List Bool} {FD : List D → Option (D × List D)} (nd : idx.Nodup) {σ : L2.St} {H : Hp} {Q : VK} {E : XK} (z : tF K (fCallK n m idx io FD fas fks) σ H Q) : tCallK (spD K io FD) (kwG n m idx) E (tFA K fas) (tFA K fks) σ H Q := by
  obtain ⟨p, F, R, s, r, s', hr, e, k⟩ := z
  obtain ⟨a, ea, e⟩ := Option.bind_eq_some_iff.mp e
  obtain ⟨ds, ed, e⟩ := Option.bind_eq_some_iff.mp e
  obtain ⟨b, eb, e⟩ := Option.bind_eq_some_iff.mp e
  obtain ⟨es, ee, e⟩ := Option.bind_eq_some_iff.mp e
  split at e
  rotate_left
  · cases e
  rename_i hc
  obtain ⟨⟨rr, os⟩, er, e⟩ := Option.bind_eq_some_iff.mp e
  change (if os.length = 0 then some (rr, b.2) else none) = some (r, s') at e
  split at e
  rotate_left
  · cases e
  rename_i h0
  cases e
  obtain rfl := List.eq_nil_of_length_eq_zero h0
  refine ⟨p, F, R, s, a.1, a.2, hr, ea, fun vs H1 F1 C1 l1 o1 r1 => ?_⟩
  refine ⟨p, F1, C1 ++ R, a.2, b.1, b.2, r1, eb, fun ws H2 F2 C2 l2 o2 ⟨Cs, hs, ha⟩ => ?_⟩
  have q1 := (o1.mono l2).all ed
  have q2 := o2.all ee
  obtain ⟨C3, h3, h4⟩ := (q1.append q2).pick nd
  have e9 : kwG n m idx vs ws = pickL idx (vs ++ ws) := by unfold kwG; rw [if_pos ⟨q1.length.trans hc.1, q2.length.trans hc.2.1⟩]
  show spD K io FD (kwG n m idx vs ws) H2 Q E
  rw [e9]
  refine ⟨F2, Cs ++ R, _, C3, r, [], h3.length.trans hc.2.2.2, h3, ha.sub fun x => by simp only [cn_append]; have := h4 x; simp only [cn_append] at this; omega, er, fun v H' F' Cr Co l o oo hh => ?_⟩
  rw [pick_none hc.2.2.1] at oo
  cases oo
  exact k v H' F' Cr (l1.trans (l2.trans l)) o ⟨Cs, hs.mono l, hh.sub fun x => by simp only [cn_append, cn_nil]; omega⟩
theorem e_callK {x : Str} {ps ks : List Str} {k n m : Nat} {idx : List Nat} {io : List Bool} {FD : List D → Option (D × List D)} {kws : List Keyword} {p0 : Pos} (h : PE X e (tCallK (spD K io FD) (kwG n m idx) E0 (tFA K fas) (tFA K fks))) (nd : idx.Nodup) : PE X e (tF K (fCallK n m idx io FD fas fks)) :=
  pe_same h fun σ H Q z => tF_callK nd z
theorem e_callK0 {n m : Nat} {idx : List Nat} {io : List Bool} {FD : List D → Option (D × List D)} (h : PE X e (tCallK (spD K io FD) (kwG n m idx) E0 tNil (tFA K fks))) (nd : idx.Nodup) : PE X e (tF K (fCallK n m idx io FD fAN fks)) :=
  pe_same h fun σ H Q z => by
    obtain ⟨p, F, R, s, as, s1, hr, ea, k⟩ := tF_callK nd z
    cases ea
    exact k [] H F [] .refl .nil hr
/-! ### repr -/
def dRepr : List D → Option D
  | [d] => if d.py.canLay0 = true ∧ d.py.showable = true ∧ d.py.depth ≤ 60 ∧ d.py.shown.length ≤ sizeLine ∧ (itemsOf d).isSome = true then some (.str d.py.shown) else none
  | _ => none
theorem d_repr : CallD K (rRepr K) dRepr := by
  intro F U C1 H xs ds z Q hz o ha k
  match ds, hz, o with
  | [d], hz, o =>
    obtain ⟨v, C2, rfl, h1, h2⟩ := own1 o
    change (if d.py.canLay0 = true ∧ d.py.showable = true ∧ d.py.depth ≤ 60 ∧ d.py.shown.length ≤ sizeLine ∧ (itemsOf d).isSome = true then some (D.str d.py.shown) else none) = some z at hz
    split at hz
    · rename_i c
      cases hz
      have hA : HA F (C2 ++ U) H := ha.sub fun x => by simp only [cn_append]; have := h2 x; omega
      obtain ⟨is, hi⟩ := Option.isSome_iff_exists.mp c.2.2.2.2
      have hd := h1.dp hA c.1
      obtain ⟨b, ys, C3, rfl, _⟩ := items_own h1 hA hi
      exact ⟨b, d.py, rfl, hd, c.2.1, c.2.2.1, c.2.2.2.1, k _ H F [] .refl (.z (.str _)) (ha.sub fun x => by simp only [cn_append, cn_nil]; omega)⟩
    · cases hz
end
end DL
set_option Elab.async false
set_option linter.all false
set_option maxRecDepth 100000
set_option maxHeartbeats 2000000
set_option exponentiation.threshold 600
/-! rules that ask what kind of data it is -/
namespace DL
open PySem PySem.Spec PyProof.Rows L2 LB
section
variable {X : Cx} {K : PySem.W.Frag} {e a b tg : Expr} {fe fa fb : M D} {pos : Pos}
/-- sealed -/
theorem wax_ex {α : Type} (a : α) : ∃ x, x = a := ⟨a, rfl⟩
noncomputable def wax {α : Type} (a : α) : α := Classical.choose (wax_ex a)
theorem wax_is {α : Type} (a : α) : wax a = a := Classical.choose_spec (wax_ex a)
def R2or (r1 r2 : R2) : R2 := fun x y H Q => r1 x y H Q ∨ r2 x y H Q
theorem opr_or {f : Value → Value → Sem Value} {r1 r2 : R2} (h1 : OpR X f r1) (h2 : OpR X f r2) : OpR X f (R2or r1 r2) := by
  intro pins s σ H x y v u Q I rx ry h
  exact Or.elim h (h1 pins s σ H x y v u Q I rx ry) (h2 pins s σ H x y v u Q I rx ry)
theorem opd_or {r1 r2 : R2} {g1 g2 : D → D → Option D} (h1 : OpD K r1 g1) (h2 : OpD K r2 g2) : OpD K (R2or r1 r2) (fun d e => (g1 d e).or (g2 d e)) := by
  intro F U C1 C2 H x y d e z Q hz o1 o2 ha k
  rcases Option.or_eq_some_iff.mp hz with h | ⟨_, h⟩
  · exact .inl (h1 h o1 o2 ha k)
  · exact .inr (h2 h o1 o2 ha k)
theorem ixr_or {r1 r2 : R2} (h1 : IxR X r1) (h2 : IxR X r2) : IxR X (R2or r1 r2) := by
  intro va sl pins s σ H x y v u Q I rx ry h hh
  exact Or.elim h (fun h => h1 va sl pins s σ H x y v u Q I rx ry h hh) (fun h => h2 va sl pins s σ H x y v u Q I rx ry h hh)
/-! a + b -/
def dAddS : D → D → Option D
  | .str a, .str b => if a.length + b.length ≤ mx then some (.str (a ++ b)) else none
  | _, _ => none
theorem d_addS : OpD K (fun x y H Q => ∃ i j, x = .str i ∧ y = .str j ∧ i.length + j.length ≤ sizeLine ∧ Q (.str (i ++ j)) H) dAddS := by
  intro F U C1 C2 H x y d e z Q hz o1 o2 ha k
  match d, e, hz, o1, o2 with
  | .str a, .str b, hz, o1, o2 =>
    obtain ⟨rfl, rfl⟩ := own_str o1
    obtain ⟨rfl, rfl⟩ := own_str o2
    change (if a.length + b.length ≤ mx then some (D.str (a ++ b)) else none) = some z at hz
    split at hz
    · rename_i hl
      cases hz
      exact ⟨a, b, rfl, rfl, sz hl, k _ H F [] .refl (.z (.str _)) ha⟩
    · cases hz
def dAddA (d e : D) : Option D := (dAdd d e).or ((dCat d e).or (dAddS d e))
theorem op_addA (hK : X.K = K) : OpR X (binaryOp .Add) (R2or (rI0 fun i j => .int (i + j)) (R2or (rCatX K) (fun x y H Q => ∃ i j, x = .str i ∧ y = .str j ∧ i.length + j.length ≤ sizeLine ∧ Q (.str (i ++ j)) H))) := opr_or op_add (opr_or (op_catX hK) op_add_str)
theorem d_addA : OpD K (R2or (rI0 fun i j => .int (i + j)) (R2or (rCatX K) (fun x y H Q => ∃ i j, x = .str i ∧ y = .str j ∧ i.length + j.length ≤ sizeLine ∧ Q (.str (i ++ j)) H))) dAddA := opd_or d_add (opd_or d_cat d_addS)
/-! a * b -/
def rRepX (K : PySem.W.Frag) : R2 := fun x y H Q => ∃ l k xs, x = .ref l ∧ y = .int k ∧ SqX K H l xs ∧ 0 ≤ k ∧ k < 2 ^ 63 ∧ xs.length * k.toNat ≤ mx ∧ ∀ p, H p = none → Q (.ref p) (upd H p (.lst (List.replicate k.toNat xs).flatten))
def dRep : D → D → Option D
  | .lst _ ds, .int k => if 0 ≤ k ∧ k < 2 ^ 63 ∧ ds.length * k.toNat ≤ mx ∧ ds.all D.isFz = true then some (.lst true (List.replicate k.toNat ds).flatten) else none
  | _, _ => none
theorem own_flatL {F : Hp} : ∀ {xs : List V} {ds : List D} {C : CL}, OwnL K F xs ds C → ds.all D.isFz = true → OwnL K F xs ds [] := by
  intro xs ds
  induction ds generalizing xs with
  | nil => intro C h _; cases h; exact .nil
  | cons d ds ih =>
    intro C h f
    rw [List.all_cons, Bool.and_eq_true] at f
    cases h with
    | cons q t =>
      refine .cons (C1 := []) ?_ (ih t f.2)
      cases q with
      | z q => exact .z q
      | lst q => exact absurd f.1 (by simp [D.isFz])
      | tup q => exact absurd f.1 (by simp [D.isFz])
      | dct q => exact absurd f.1 (by simp [D.isFz])
theorem own_reps {F : Hp} {xs : List V} {ds : List D} (h : OwnL K F xs ds []) : ∀ n : Nat, OwnL K F (List.replicate n xs).flatten (List.replicate n ds).flatten []
  | 0 => .nil
  | n + 1 => by
    rw [List.replicate_succ, List.replicate_succ, List.flatten_cons, List.flatten_cons]
    exact h.append (own_reps h n)
theorem d_rep : OpD K (rRepX K) dRep := by
  intro F U C1 C2 H x y d e z Q hz o1 o2 ha k
  match d, e, hz, o1, o2 with
  | .lst ob ds, .int n, hz, o1, o2 =>
    obtain ⟨rfl, rfl⟩ := own_int o2
    change (if 0 ≤ n ∧ n < 2 ^ 63 ∧ ds.length * n.toNat ≤ mx ∧ ds.all D.isFz = true then some (D.lst true (List.replicate n.toNat ds).flatten) else none) = some z at hz
    split at hz
    · rename_i c
      cases hz
      obtain ⟨b, xs, C3, rfl, h2, h3, h4⟩ := o1.seqL ha
      have h5 := own_reps (own_flatL h3 c.2.2.2) n.toNat
      exact ⟨b, n, xs, rfl, rfl, h2, c.1, c.2.1, by rw [h3.length]; exact c.2.2.1, fun p np => k _ _ F _ .refl (.lst h5) ((ha.new np _).sub fun x => by simp only [cn_append, cn_cons, cn_nil]; omega)⟩
    · cases hz
theorem op_repX (hK : X.K = K) : OpR X (binaryOp .Mult) (rRepX K) := by
  subst hK
  intro pins s σ H x y v u Q I rx ry h
  obtain ⟨l, n, xs, rfl, rfl, h1, g0, g1, hz, q⟩ := h
  cases rx
  obtain ⟨t, rfl⟩ := ry
  obtain ⟨i1, n1, r1, e1⟩ := inv_lx I h1
  have k1 := r1.length
  have c1 : i1.toArray.size * n.toNat ≤ sizeLine := sz (by rw [List.size_toArray, ← k1]; exact hz)
  have c2 : ¬ i1.toArray.size * n.toNat > (2 ^ 63 - 1) / 8 := fun z => absurd (Nat.lt_of_lt_of_le z c1) (by decide)
  have c3 : ¬ (!Builtin.List.listFitsIndex n) = true := by rw [fitsIndex_of g0 g1]; decide
  have c4 : ¬ Builtin.List.listTooLong (i1.toArray.size * n.toNat) = true := by rw [notLongL c1]; decide
  have c5 : ∀ m : Nat, List.foldl (fun x1 x2 => x1 ++ x2) #[] (List.replicate m i1.toArray) = (List.replicate m i1).flatten.toArray := fun m => by
    simpa using foldl_rep i1 m []
  have c6 : List.foldl (fun x1 x2 => x1 ++ x2) #[] (List.replicate (if i1.toArray.isEmpty = true then 0 else n.toNat) i1.toArray) = (List.replicate n.toNat i1).flatten.toArray := by
    rw [c5]
    cases i1 with
    | nil => simp
    | cons w r => rw [if_neg (by simp)]
  have c7 := PySem.F.fills_int_mul
  refine wpAny_binaryOp_repeat_ref (T := "list") (U := "int") (by decide) ⟨_, e1, rfl⟩ (fun s' => typeIs_int s' n t) noFill_list_mul c7 F.slot_int_rmul repeat_list F.slot_int_index.lookup
    (call_meets F.slot_int_rmul (typeIs_int s n t) F.entry_int_rmul (F.args_int_rmul_2 _ _) (int___rmul___int_list n t l i1.toArray n1)
      ⟨e1, rfl, ⟨_, e1, rfl⟩, call_meets F.slot_list_mul ⟨_, e1, rfl⟩ F.entry_list_mul (F.args_list_mul_2 _ _) (AutoListH.list___mul___list_int_3 l i1.toArray n1 n t c3 c2 c4) ⟨e1, ?_⟩⟩)
  rw [c6]
  exact ⟨.ref _, _, I.lnew (t' := s.toks) (r1.rep n.toNat) (sz (by rw [PyProof.Rows.lm_len_rep_flat, Nat.mul_comm]; exact hz)), rfl, q _ I.fresh⟩
/-- sealed, so that no one reckons its bounds -/
noncomputable def dMulA : D → D → Option D := wax fun d e => (dMul d e).or (dRep d e)
theorem dMulA_is (d e : D) : dMulA d e = (dMul d e).or (dRep d e) := by unfold dMulA; rw [wax_is]
theorem op_mulA (hK : X.K = K) : OpR X (binaryOp .Mult) (R2or (rI (fun i j => Mid i ∧ Mid j) fun i j => .int (i * j)) (rRepX K)) := opr_or op_mulM (op_repX hK)
theorem d_mulA : OpD K (R2or (rI (fun i j => Mid i ∧ Mid j) fun i j => .int (i * j)) (rRepX K)) dMulA := by unfold dMulA; rw [wax_is]; exact opd_or d_mul d_rep
/-! x[i] -/
def dIxS : D → D → Option D
  | .str z, .int i => if z.length ≤ mx then (atI z.cps.toList i).map fun c => .str ⟨#[c]⟩ else none
  | _, _ => none
theorem d_ixS : OpD K rIxS dIxS := by
  intro F U C1 C2 H x y d e z Q hz o1 o2 ha k
  match d, e, hz, o1, o2 with
  | .str w, .int i, hz, o1, o2 =>
    obtain ⟨rfl, rfl⟩ := own_str o1
    obtain ⟨rfl, rfl⟩ := own_int o2
    change (if w.length ≤ mx then (atI w.cps.toList i).map fun c => D.str ⟨#[c]⟩ else none) = some z at hz
    split at hz
    · rename_i hl
      obtain ⟨c, e1, e2⟩ := Option.map_eq_some_iff.mp hz
      cases e2
      exact ⟨w, i, c, rfl, rfl, sz hl, e1, k _ H F [] .refl (.z (.str _)) ha⟩
    · cases hz
def dIxA (d e : D) : Option D := (dIx d e).or ((dIxT d e).or (dIxS d e))
theorem ix_A (hK : X.K = K) : IxR X (R2or (rIxL K) (R2or (rIxT K) rIxS)) := ixr_or (k_ixL hK) (ixr_or (k_ixT hK) ix_str)
theorem d_ixA : OpD K (R2or (rIxL K) (R2or (rIxT K) rIxS)) dIxA := opd_or d_ixL (opd_or d_ixT d_ixS)
/-! x[a:b] -/
def dSlS : D → Option Int → Option Int → Option D
  | .str z, lo, hi => if z.length ≤ mx then some (.str (cutS z lo hi)) else none
  | _, _, _ => none
theorem d_slS : SlD K rSlS dSlS := by
  intro F U C1 H x d z lo hi Q hz o ha k
  match d, hz, o with
  | .str w, hz, o =>
    obtain ⟨rfl, rfl⟩ := own_str o
    change (if w.length ≤ mx then some (D.str (cutS w lo hi)) else none) = some z at hz
    split at hz
    · rename_i hl
      cases hz
      exact ⟨w, rfl, sz hl, k _ H F [] .refl (.z (.str _)) ha⟩
    · cases hz
def dSlA (d : D) (lo hi : Option Int) : Option D := (dSl d lo hi).or (dSlS d lo hi)
theorem sl_A (hK : X.K = K) : SlR X (fun x lo hi H Q => rSlL K x lo hi H Q ∨ rSlS x lo hi H Q) := SlR.or (k_slL hK) sl_str
theorem d_slA : SlD K (fun x lo hi H Q => rSlL K x lo hi H Q ∨ rSlS x lo hi H Q) dSlA := by
  intro F U C1 H x d z lo hi Q hz o ha k
  rcases Option.or_eq_some_iff.mp hz with h | ⟨_, h⟩
  · exact .inl (d_slL h o ha k)
  · exact .inr (d_slS h o ha k)
/-! x in y -/
def dInS (neg : Bool) : D → D → Option D
  | .str a, .str b => some (.bl (if neg = true then (Builtin.Str.occurrences b a 0 b.length 1).isEmpty else !(Builtin.Str.occurrences b a 0 b.length 1).isEmpty))
  | _, _ => none
theorem d_inS : OpD K (fun x y H Q => ∃ i j, x = .str i ∧ y = .str j ∧ Q (.bl (!(Builtin.Str.occurrences j i 0 j.length 1).isEmpty)) H) (dInS false) := by
  intro F U C1 C2 H x y d e z Q hz o1 o2 ha k
  match d, e, hz, o1, o2 with
  | .str a, .str b, hz, o1, o2 =>
    obtain ⟨rfl, rfl⟩ := own_str o1
    obtain ⟨rfl, rfl⟩ := own_str o2
    cases hz
    exact ⟨a, b, rfl, rfl, k _ H F [] .refl (.z (.bl _)) ha⟩
def dInA (d e : D) : Option D := (dIn false d e).or (dInS false d e)
def dNotInA (d e : D) : Option D := dIn true d e
theorem op_inA (hK : X.K = K) : OpR X (compareOp .In) (R2or (rIn K false) (fun x y H Q => ∃ i j, x = .str i ∧ y = .str j ∧ Q (.bl (!(Builtin.Str.occurrences j i 0 j.length 1).isEmpty)) H)) := opr_or (k_in hK) op_in_str
theorem d_inA : OpD K (R2or (rIn K false) (fun x y H Q => ∃ i j, x = .str i ∧ y = .str j ∧ Q (.bl (!(Builtin.Str.occurrences j i 0 j.length 1).isEmpty)) H)) dInA := opd_or (d_in false) d_inS
/-! what is walked -/
def seqOf (d : D) : Option (List D) := (lstOf d).or (tupOf d)
def iA (fe : M D) : M (List D) := fun s => (fe s).bind fun x => (seqOf x.1).map fun ds => (ds, x.2)
theorem i_A (hK : X.K = K) (h : PE X e (tF K fe)) : PI X tg e (tIF K (iA fe)) := by
  have h1 := i_list (tg := tg) hK h
  have h2 := i_tup (tg := tg) hK h
  constructor
  intro pins s0 σ H R I z
  obtain ⟨p, F, R0, s, ds, s', hr, e, k⟩ := z
  obtain ⟨x, ex, e⟩ := Option.bind_eq_some_iff.mp e
  obtain ⟨ds', ed, e⟩ := Option.map_eq_some_iff.mp e
  cases e
  rcases Option.or_eq_some_iff.mp ed with q | ⟨_, q⟩
  · exact h1.run pins s0 σ H R I ⟨p, F, R0, s, ds, x.2, hr, by simp [iL, ex, q], k⟩
  · exact h2.run pins s0 σ H R I ⟨p, F, R0, s, ds, x.2, hr, by simp [iT, ex, q], k⟩
/-! a, b = x -/
def gA (n : Nat) (fgs : List D → S → Option S) : D → S → Option S
  | .tup _ ds, s => if ds.length = n then fgs ds s else none
  | .lst _ ds, s => if ds.length = n then fgs ds s else none
  | _, _ => none
theorem g_A {es : List Expr} {k n : Nat} {js : List Nat} {fgs : List D → S → Option S} (hK : X.K = K) (hc : X.calm = true) (h : PGs X es (tGFs K js fgs))
    (hn : (assignEach es X.env).length = n := by rfl) (hst : (assignEach es X.env).findIdx? (·.1) = none := by rfl) : PG X (.Tuple es k pos) (tGF K js (gA n fgs)) := by
  have h1 := g_tup (k := k) (pos := pos) hK hc h hn hst
  have h2 := g_unl (k := k) (pos := pos) hK hc h hn hst
  constructor
  intro pins s0 σ H v u Q I r z
  obtain ⟨p, F, R, s, d, C, s', o, hr, e, k⟩ := z
  cases d <;> first | (cases e; done) | skip
  · exact h2.run pins s0 σ H v u Q I r ⟨p, F, R, s, _, C, s', o, hr, e, k⟩
  · exact h1.run pins s0 σ H v u Q I r ⟨p, F, R, s, _, C, s', o, hr, e, k⟩
/-! len -/
def dLenS : List D → Option D
  | [.str z] => if z.length ≤ mx then some (.int z.length) else none
  | _ => none
def CR2 (r1 r2 : List V → Hp → VK → Prop) : List V → Hp → VK → Prop := fun xs H Q => r1 xs H Q ∨ r2 xs H Q
theorem callr_or {f : Value} {r1 r2 : List V → Hp → VK → Prop} (h1 : CallR X f r1) (h2 : CallR X f r2) : CallR X f (CR2 r1 r2) := by
  intro pins s σ H xs us Q I r h
  exact Or.elim h (h1 pins s σ H xs us Q I r) (h2 pins s σ H xs us Q I r)
theorem calld_or {r1 r2 : List V → Hp → VK → Prop} {g1 g2 : List D → Option D} (h1 : CallD K r1 g1) (h2 : CallD K r2 g2) : CallD K (CR2 r1 r2) (fun ds => (g1 ds).or (g2 ds)) := by
  intro F U C1 H xs ds z Q hz o ha k
  rcases Option.or_eq_some_iff.mp hz with h | ⟨_, h⟩
  · exact .inl (h1 h o ha k)
  · exact .inr (h2 h o ha k)
theorem d_lenS : CallD K (fun xs H Q => ∃ z, xs = [.str z] ∧ z.length ≤ sizeLine ∧ Q (.int z.length) H) dLenS := by
  intro F U C1 H xs ds z Q hz o ha k
  match ds, hz, o with
  | [.str w], hz, o =>
    obtain ⟨v, C2, rfl, h1, h2⟩ := own1 o
    obtain ⟨rfl, rfl⟩ := own_str h1
    change (if w.length ≤ mx then some (D.int w.length) else none) = some z at hz
    split at hz
    · rename_i hl
      cases hz
      exact ⟨w, rfl, sz hl, k _ H F [] .refl (.z (.int _)) (ha.sub fun x => by simp only [cn_append, cn_nil]; omega)⟩
    · cases hz
def dLenA (ds : List D) : Option D := (dLen ds).or (dLenS ds)
theorem c_lenA (hK : X.K = K) : CallR X (.builtin "len") (CR2 (rLenS K) (fun xs H Q => ∃ z, xs = [.str z] ∧ z.length ≤ sizeLine ∧ Q (.int z.length) H)) := callr_or (c_len hK) call_len_str
theorem d_lenA : CallD K (CR2 (rLenS K) (fun xs H Q => ∃ z, xs = [.str z] ∧ z.length ≤ sizeLine ∧ Q (.int z.length) H)) dLenA := calld_or d_len d_lenS
/-! isinstance with one class or a pair of them -/
theorem c_isiA (hK : X.K = K) : CallR X (.builtin "isinstance") (CR2 (rIsi K) (rIsiT K)) := callr_or (k_isi hK) (k_isiT hK)
def dIsiA (ds : List D) : Option D := (dIsi ds).or (dIsiT ds)
theorem d_isiA : CallD K (CR2 (rIsi K) (rIsiT K)) dIsiA := calld_or d_isi d_isiT
/-! a built-in function, a class called -/
theorem e_cB {id : String} {x : Str} {es : List Expr} {fas : M (List AR)} {r : List V → Hp → VK → Prop} {g : List D → Option D} {p : Pos} (hd : CallD K r g) (hc : CallR X (.builtin id) r) (hg : Gl X x) (hm : X.mg x = none) (hv : bootBuiltins x = some (.builtin id)) (ha : PA X (e :: es) (tFA K fas)) (hn : x ≠ "__name__" := by decide) (hdb : (x == ("__debug__" : Str)) = false := by decide)
    (he : starEach (e :: es) X.env = (false, eval e X.env) :: starEach es X.env := by rfl) (hpl : (backTo pos (starEach es X.env)).any (·.1) = false := by rfl) : PE X (.Call (.Name x p) (e :: es) [] pos) (tF K (fCB g fas)) :=
  pe_same (pe_callB hc hg hm hv ha hn hdb he hpl) fun σ H Q z => tF_CB hd z
theorem e_cT {T : String} {x : Str} {es : List Expr} {fas : M (List AR)} {r : List V → Hp → VK → Prop} {g : List D → Option D} {p : Pos} (hd : CallD K r g) (hc : CallR X (.type T) r) (hg : Gl X x) (hm : X.mg x = none) (hv : bootBuiltins x = some (.type T)) (ha : PA X (e :: es) (tFA K fas)) (hn : x ≠ "__name__" := by decide) (hdb : (x == ("__debug__" : Str)) = false := by decide)
    (he : starEach (e :: es) X.env = (false, eval e X.env) :: starEach es X.env := by rfl) (hpl : (backTo pos (starEach es X.env)).any (·.1) = false := by rfl) : PE X (.Call (.Name x p) (e :: es) [] pos) (tF K (fCB g fas)) :=
  pe_same (pe_callTy hc hg hm hv ha hn hdb he hpl) fun σ H Q z => tF_CB hd z
/-! x, y, z = a, b, c -/
theorem s_par3 {i j l : Nat} {x y z : Str} {a b c : Expr} {fas : M (List AR)} {px py pz pt pos : Pos} {kt k2 pt2} (hc : X.calm = true) (hN : X.N.Nodup) (hi : X.N[i]? = some x) (hj : X.N[j]? = some y) (hl : X.N[l]? = some z) (hij : i ≠ j) (hil : i ≠ l) (hjl : j ≠ l)
    (hx : X.env.scope.names.lookup x = some .local) (hy : X.env.scope.names.lookup y = some .local) (hz : X.env.scope.names.lookup z = some .local) (ha : PA X [a, b, c] (tFA K fas))
    (hw : swappedStores [.Tuple [.Name x px, .Name y py, .Name z pz] kt pt] (.Tuple [a, b, c] k2 pt2) X.env = pure (some [x, y, z]))
    (hs : swapsWithSole [.Tuple [.Name x px, .Name y py, .Name z pz] kt pt] (.Tuple [a, b, c] k2 pt2) pos.line X.env = pure false := by rfl) :
    PS X (.Assign [.Tuple [.Name x px, .Name y py, .Name z pz] kt pt] (.Tuple [a, b, c] k2 pt2) pos) (tSF K (sPar3 i j l fas)) := ps_same (ps_par3 hc hN hi hj hl hij hil hjl hx hy hz ha hw hs) fun E σ H z => by
  obtain ⟨p, F, R, s, o, hr, e, k⟩ := z
  obtain ⟨q, eq, e⟩ := Option.bind_eq_some_iff.mp e
  obtain ⟨ds, ed, e⟩ := Option.bind_eq_some_iff.mp e
  refine ⟨p, F, R, s, q.1, q.2, hr, eq, fun vs H1 F1 C1 l1 o1 r1 => ?_⟩
  have o2 := o1.all ed
  match ds, o2, e with
  | [c, d, u], .cons oc (.cons od (.cons ou .nil)), e =>
    obtain ⟨s3, e3, e⟩ := Option.map_eq_some_iff.mp e
    cases e
    obtain ⟨s2, e2, e3⟩ := Option.bind_eq_some_iff.mp e3
    obtain ⟨s1, e1, e2⟩ := Option.bind_eq_some_iff.mp e2
    obtain ⟨Cs, hs, ha⟩ := r1
    obtain ⟨C2, h2, h3⟩ := gS_ok hs oc e1
    obtain ⟨C3, h4, h5⟩ := gS_ok h2 od e2
    obtain ⟨C4, h6, h7⟩ := gS_ok h4 ou e3
    exact ⟨_, _, _, rfl, k _ H1 F1 l1 ⟨C4, h6, ha.sub fun x => by simp only [cn_append, cn_nil]; have := h3 x; have := h5 x; have := h7 x; omega⟩⟩
/-! a < b < c -/
theorem tF_chain {r r' : R2} {g g' : D → D → Option D} {fc : M D} (hg : OpD K r g) (hg' : OpD K r' g') {σ : L2.St} {H : Hp} {Q : VK} (z : tF K (fChain g g' fa fb fc) σ H Q) : tChain r r' (tF K fa) (tF K fb) (tF K fc) σ H Q := by
  obtain ⟨p, F, R, s, r, s', hr, e, k⟩ := z
  obtain ⟨x, ex, e⟩ := Option.bind_eq_some_iff.mp e
  obtain ⟨y, ey, e⟩ := Option.bind_eq_some_iff.mp e
  split at e
  rotate_left
  · cases e
  rename_i hf
  obtain ⟨w, ew, e⟩ := Option.bind_eq_some_iff.mp e
  obtain ⟨bb, eb, e⟩ := Option.bind_eq_some_iff.mp e
  rw [asB_some eb] at ew
  refine ⟨p, F, R, s, x.1, x.2, hr, ex, fun v1 H1 F1 C1 l1 o1 r1 => ?_⟩
  refine ⟨p, F1, C1 ++ R, x.2, y.1, y.2, r1, ey, fun v2 H2 F2 C2 l2 o2 ⟨C, hs, ha⟩ => ?_⟩
  obtain ⟨rfl, dy⟩ := o2.fz hf
  refine hg (U := C ++ R) ew (o1.mono l2) (.z dy) (ha.sub fun x => by simp only [cn_append, cn_nil]; omega) fun v H' F' C' l o h => ?_
  obtain ⟨rfl, rfl⟩ := own_bl o
  refine ⟨bb, rfl, ?_⟩
  split at e
  · rename_i hb
    obtain ⟨u, eu, e⟩ := Option.bind_eq_some_iff.mp e
    obtain ⟨t, et, e⟩ := Option.map_eq_some_iff.mp e
    cases e
    rw [if_pos hb]
    refine ⟨p, F', R, y.2, u.1, u.2, ⟨C, hs.mono l, h.sub fun x => by simp only [cn_append, cn_nil]; omega⟩, eu, fun v3 H3 F3 C3 l3 o3 ⟨Cz, hs3, ha3⟩ => ?_⟩
    refine hg' (U := Cz ++ R) et (.z (dy.mono (l.trans l3))) o3 (ha3.sub fun x => by simp only [cn_append, cn_nil]; omega) fun v H4 F4 C4 l4 o4 h4 => ?_
    exact k v H4 F4 C4 (l1.trans (l2.trans (l.trans (l3.trans l4)))) o4 ⟨Cz, hs3.mono l4, h4.sub fun x => by simp only [cn_append, cn_nil]; omega⟩
  · rename_i hb
    cases e
    rw [if_neg hb]
    exact k _ H' F' [] (l1.trans (l2.trans l)) (.z (.bl _)) ⟨C, hs.mono l, h.sub fun x => by simp only [cn_append, cn_nil]; omega⟩
theorem e_chain {op op' : CmpOp} {r r' : R2} {g g' : D → D → Option D} {c : Expr} {fc : M D} (ho : OpR X (compareOp op) r) (ho' : OpR X (compareOp op') r') (hg : OpD K r g) (hg' : OpD K r' g') (ha : PE X a (tF K fa)) (hb : PE X b (tF K fb)) (hc : PE X c (tF K fc))
    (hm : lastMarks [op, op'] [b, c] = false := by with_unfolding_all rfl) : PE X (.Compare a [op, op'] [b, c] pos) (tF K (fChain g g' fa fb fc)) := pe_same (pe_chain ho ho' ha hb hc hm) fun σ H Q z => tF_chain hg hg' z
theorem t_chain {op op' : CmpOp} {r r' : R2} {g g' : D → D → Option D} {c : Expr} {fc : M D} (ho : OpR X (compareOp op) r) (ho' : OpR X (compareOp op') r') (hg : OpD K r g) (hg' : OpD K r' g') (ha : PE X a (tF K fa)) (hb : PE X b (tF K fb)) (hc : PE X c (tF K fc))
    (hm : lastMarks [op, op'] [b, c] = false := by with_unfolding_all rfl) : PT X (.Compare a [op, op'] [b, c] pos) (tFT K (fT (fChain g g' fa fb fc))) := pt_same (pt_chain ho ho' ha hb hc hm) fun σ H Q z => tF_test (fun _ _ _ z => tF_chain hg hg' z) z
end
end DL
set_option Elab.async false
set_option linter.all false
set_option maxRecDepth 100000
set_option maxHeartbeats 2000000
/-! the law's own call -/
namespace DL
open PySem PySem.Spec PyProof.Rows L2 LB
theorem script_callX {P : Program} {w : World} {K : PySem.W.Frag} {mg mb : Str → Option Value} {k : Nat} {fa a : Addr} {fd : FuncData} {x : Str} {sp : Sp} {s₁ : Shared} {vs : List Value} {ns : List Int}
    (KX : K.In s₁.heap) (T : s₁.heap.Ns mainGlobals mg ∧ s₁.heap.Ns builtinsNs mb ∧ (∀ y : Str, y ≠ "__name__" → mb y = bootBuiltins y) ∧ s₁.heap.NoLimit) (hg : s₁.gens = #[])
    (ha : s₁.heap.get? a = some { cls := .type "list", data := .seq vs.toArray }) (hi : IntsAre vs ns) (hl : ns.length ≤ sizeLine) (hr : Room k callerA)
    (F : ∀ base : Heap, K.In base → base.Ns mainGlobals mg → FnG P w K mg base CX0 k fa fd [x] sp) (hbind : ∀ (s : Shared) (u : Value), BindsTo s fd ⟨[u], []⟩ [(x, u)])
    (hsp : ∀ H : Hp, SqX K H a (ns.map V.int) → sp [.ref a] H (fun v _ => v = .bl true) E0) :
    codeAny (model P w) callerA (.call (.ref fa) ⟨[.ref a], []⟩) (fun r s' => r = .ok (.ret (.bool true)) ∧ OldK s₁.heap s'.heap ∧ s'.os = s₁.os ∧ AllBare s'.gens) s₁ := by
  obtain ⟨Tg, Tb, Tn, Tl⟩ := T
  have rv := vals_ints hi
  have step : ∀ H : Hp, SqX K H a (ns.map V.int) → HOk P w H s₁.heap → (∀ b u, H b = some u → b = a ∧ ∃ v, u = .frz { cls := .type "list", data := .seq vs.toArray } v) → (H a ≠ none → K.lookup a = none) →
      codeAny (model P w) callerA (.call (.ref fa) ⟨[.ref a], []⟩) (fun r s' => r = .ok (.ret (.bool true)) ∧ OldK s₁.heap s'.heap ∧ s'.os = s₁.os ∧ AllBare s'.gens) s₁ := by
    intro H hS hok hA hK
    have free : ∀ {b : Addr} {o : Obj}, s₁.heap.get? b = some o → (b = a → o.data ≠ .seq vs.toArray) → H b = none := by
      intro b o e d
      cases q : H b with
      | none => rfl
      | some u =>
        obtain ⟨rfl, _⟩ := hA b u q
        rw [ha] at e
        cases e
        exact absurd rfl (d rfl)
    have ns : ∀ {b : Addr} {m : Str → Option Value}, s₁.heap.Ns b m → (hidT s₁.heap H).Ns b m := by
      rintro b m ⟨o, es, ep, e, d, r⟩
      refine ⟨o, es, ep, hidT_get e (free e fun _ z => ?_), d, r⟩
      rw [d] at z
      cases z
    have kin : K.In (hidT s₁.heap H) := by
      intro b o e
      refine hidT_get (KX b o e) ?_
      cases q : H b with
      | none => rfl
      | some u =>
        obtain ⟨rfl, _⟩ := hA b u q
        rw [hK (by rw [q]; exact Option.some_ne_none u)] at e
        cases e
    obtain ⟨mc, l1, l2⟩ := Tl
    have e0 : Env0 P w K mg (hidT s₁.heap H) callerA [] s₁ H :=
      { frames := rfl, mod := ⟨kin, ns Tg, ⟨mb, ns Tb, Tn⟩, ⟨mc, ns l1, l2⟩⟩, bs := fun b o e => of_hidT e, bsz := Nat.le_of_eq (hidT_size _ _), funs := trivial,
        frf := (fun b hb => absurd (show b ∈ ([] : List Addr) from hb) List.not_mem_nil), hok := hok, bare := .of_eq hg }
    refine codeAny_mono ((F _ kin (ns Tg)).run (us := [.ref a]) (vs := [.ref a]) ⟨hr, rfl⟩ e0 (hbind s₁ (.ref a)) (.cons rfl .nil) (hsp H hS)) fun r s' h => after_call ?_ h
    intro b u q
    obtain ⟨rfl, v, rfl⟩ := hA b u q
    exact ⟨_, v, rfl, ha⟩
  cases hk : K.lookup a with
  | some o =>
    have e := KX a o hk
    rw [ha] at e
    cases e
    exact step (fun _ => none) (.inr ⟨vs, _, hk, by rw [hi.length]; exact hl, rv⟩) (fun b u z => nomatch z) (fun b u z => nomatch z) fun z => absurd rfl z
  | none =>
    let o : Obj := { cls := .type "list", data := .seq vs.toArray }
    have at_ : ∀ b u, (if b = a then some (HO.frz o (.lst (ns.map V.int))) else none) = some u → b = a ∧ u = .frz o (.lst (ns.map V.int)) := by
      intro b u z
      by_cases hb : b = a
      · rw [if_pos hb] at z
        exact ⟨hb, (Option.some.inj z).symm⟩
      · rw [if_neg hb] at z
        cases z
    refine step (fun b => if b = a then some (.frz o (.lst (ns.map V.int))) else none) (.inl (.inr ⟨o, if_pos rfl⟩)) ?_ ?_ fun _ => hk
    · intro b u z
      obtain ⟨rfl, rfl⟩ := at_ b u z
      exact ⟨ha, by rw [List.length_map]; exact hl, vs, _, rv, ha⟩
    · intro b u z
      obtain ⟨rfl, rfl⟩ := at_ b u z
      exact ⟨rfl, _, rfl⟩
/-- what k_head leaves, from the promise of the law's def -/
theorem walkX {l : PySem.W.OpenLaw} {n k : Nat} {q : Program} {loose : List Str} {XP : (Str → Option Value) → Heap → Prop} {YP : World → Heap → Prop} {d : DefRec} {K : Params → PySem.W.Frag} {sp : PySem.W.Frag → Sp} {x : Str}
    (hn : l.most = some n) (hn2 : n ≤ sizeLine) (hdf : d.params.defaults = []) (hr : Room k callerA)
    (hY : ∀ (w : World) (h : Heap), YP w h → (K w.params).In h)
    (F : ∀ (w : World) (mg : Str → Option Value) (fa : Addr) (h : Heap), (K w.params).In h → h.Ns mainGlobals mg → mg d.name = some (.ref fa) →
      ∃ fd : FuncData, (∀ (s : Shared) (u : Value), BindsTo s fd ⟨[u], []⟩ [(x, u)]) ∧
        ∀ base : Heap, (K w.params).In base → base.Ns mainGlobals mg → FnG l.prog w (K w.params) mg base CX0 k fa fd [x] (sp (K w.params)))
    (hsp : ∀ (K : PySem.W.Frag) (H : Hp) (a : Addr) (ns : List Int), ns.length ≤ n → SqX K H a (ns.map V.int) → sp K [.ref a] H (fun v _ => v = .bl true) E0) :
    PySem.W.WalkO q loose XP YP l.row.toRowW d [] (fun f vs => PySem.call f vs) := by
  refine Att.attach_call hn hdf ?_
  intro w s₀ s₁ mg mb fa o pm cd doc a vs ns G Y ho hd hcd hmg hobj hints hlen hg
  have KX := hY w _ Y
  obtain ⟨fd, hb, hF⟩ := F w mg fa _ KX G.T.g hmg
  exact script_callX KX ⟨G.T.g, G.T.b, G.T.builtins, G.T.nolimit⟩ hg hobj hints (Nat.le_trans hlen hn2) hr hF hb fun H hS => hsp _ H a ns hlen hS
theorem walkD {l : PySem.W.OpenLaw} {n k : Nat} {q : Program} {loose : List Str} {XP : (Str → Option Value) → Heap → Prop} {YP : World → Heap → Prop} {d : DefRec} {K : Params → PySem.W.Frag} {FD : List D → Option (D × List D)} {x : Str}
    (hn : l.most = some n) (hn2 : n ≤ sizeLine) (hdf : d.params.defaults = []) (hr : Room k callerA)
    (hY : ∀ (w : World) (h : Heap), YP w h → (K w.params).In h)
    (F : ∀ (w : World) (mg : Str → Option Value) (fa : Addr) (h : Heap), (K w.params).In h → h.Ns mainGlobals mg → mg d.name = some (.ref fa) →
      ∃ fd : FuncData, (∀ (s : Shared) (u : Value), BindsTo s fd ⟨[u], []⟩ [(x, u)]) ∧
        ∀ base : Heap, (K w.params).In base → base.Ns mainGlobals mg → FnG l.prog w (K w.params) mg base CX0 k fa fd [x] (spD (K w.params) [false] FD))
    (hl : ∀ ns : List Int, ns.length ≤ n → FD [.lst false (ns.map D.int)] = some (.bl true, [])) :
    PySem.W.WalkO q loose XP YP l.row.toRowW d [] (fun f vs => PySem.call f vs) :=
  walkX (sp := fun K => spD K [false] FD) hn hn2 hdf hr hY F fun K H a ns h hs => law_end hs (hl ns h)
end DL
set_option Elab.async false
set_option linter.all false
set_option maxRecDepth 100000
set_option maxHeartbeats 2000000
set_option exponentiation.threshold 600
/-! a method that changes a list within a list -/
namespace DL
open PySem PySem.Spec PyProof.Rows L2 LB
section
variable {X : Cx} {K : PySem.W.Frag} {e a b tg : Expr} {fe fa fb : M D} {pos : Pos} {p : L2.St} {F : Hp}
/-- an expression that changes nothing at all -/
def tSt (K : PySem.W.Frag) (fe : M D) : TE := fun σ H Q => ∃ p F R s r, Rel K p F R σ H s ∧ fe s = some (r, s) ∧ ∀ v, Dn K F v r → Q v H
theorem st_c {v : V} {d : D} (h : PE X e (tC v)) (hd : ∀ F, Dn K F v d) : PE X e (tSt K (fC d)) := pe_same h fun σ H Q z => by
  obtain ⟨p, F, R, s, r, hr, e, k⟩ := z
  cases e
  exact k v (hd F)
theorem fV_ok {σ : L2.St} {s : S} {C : CL} {i : Nat} {d : D} {s' : S} (hs : Slots K F σ p s C) (e : fV i s = some (d, s')) : s' = s ∧ ∃ v, σ[i]? = some (some v) ∧ Dn K F v d := by
  unfold fV at e
  obtain ⟨d', e1, e2⟩ := Option.map_eq_some_iff.mp e
  cases e2
  refine ⟨rfl, ?_⟩
  cases q : s[i]? with
  | none => rw [q] at e1; cases e1
  | some sl =>
    rw [q] at e1
    cases sl with
    | no => cases e1
    | va d' =>
      change (if d'.isFz = true then some d' else none) = some d at e1
      split at e1
      · rename_i z; cases e1
        obtain ⟨v, C1, C2, h1, h2, _⟩ := hs.takeV q
        exact ⟨v, h1, (h2.fz z).2⟩
      · cases e1
    | pn d' =>
      change (if d'.isFz = true then some d' else none) = some d at e1
      split at e1
      · rename_i z; cases e1
        obtain ⟨v, C1, C2, h1, _, h2, _⟩ := hs.takeP q
        exact ⟨v, h1, (h2.fz z).2⟩
      · cases e1
theorem st_v {i : Nat} (h : PE X e (tVar i)) : PE X e (tSt K (fV i)) := pe_same h fun σ H Q z => by
  obtain ⟨p, F, R, s, r, ⟨C, hs, ha⟩, e, k⟩ := z
  obtain ⟨_, v, h1, h2⟩ := fV_ok hs e
  exact ⟨v, h1, k v h2⟩
theorem OwnL.focus {vs : List V} {ds : List D} {C : CL} (h : OwnL K F vs ds C) : ∀ {n : Nat} {d : D}, ds[n]? = some d → ∃ v C1 C2, vs[n]? = some v ∧ Own K F v d C1 ∧ (∀ x, cn x C = cn x C1 + cn x C2) ∧
    ∀ F' d' C', Le F F' → Own K F' v d' C' → ∃ C'', OwnL K F' vs (ds.set n d') C'' ∧ ∀ x, cn x C'' = cn x C' + cn x C2 := by
  induction ds generalizing vs C with
  | nil => intro n d e; simp at e
  | cons d0 ds ih =>
    intro n d e
    cases h with
    | @cons v vs _ _ C1 C2 q t =>
      cases n with
      | zero =>
        simp at e; subst e
        exact ⟨v, C1, C2, rfl, q, fun x => cn_append x _ _, fun F' d' C' l o => ⟨C' ++ C2, .cons o (t.mono l), fun x => cn_append x _ _⟩⟩
      | succ n =>
        obtain ⟨w, D1, D2, h1, h2, h3, h4⟩ := ih t (by simpa using e)
        refine ⟨w, D1, C1 ++ D2, by simpa using h1, h2, fun x => by rw [cn_append, cn_append, h3]; omega, fun F' d' C' l o => ?_⟩
        obtain ⟨C'', h5, h6⟩ := h4 F' d' C' l o
        exact ⟨C1 ++ C'', .cons (q.mono l) h5, fun x => by rw [cn_append, cn_append, h6]; omega⟩
/-- slot[c].m(as) -/
def mtP (j : Nat) (c : Int) (g : List D → List D → Option (D × List D)) (as : List D) : M D := fun s => (Sl.ls s[j]?).bind fun ds => (ixN ds.length c).bind fun n => match ds[n]? with
  | some (.lst true es) => (g es as).map fun z => (z.1, Sl.put s j (.lst true (ds.set n (.lst true z.2))))
  | _ => none
theorem mtP_run {r : V → List V → Hp → VK → Prop} {g : List D → List D → Option (D × List D)} (hg : MtD K r g) {j : Nat} {c : Int} {as : List D} {σ : L2.St} {H : Hp} {Q : VK} {R : CL} {s s' : S} {z : D} (hr : Rel K p F R σ H s) (e : mtP j c g as s = some (z, s'))
    (k : ∀ v H' F' C, Le F F' → Own K F' v z C → Rel K p F' (C ++ R) σ H' s' → Q v H') :
    ∃ a xs b ys, σ[j]? = some (some (.ref a)) ∧ SqL K H a xs ∧ atI xs c = some (.ref b) ∧ SqL K H b ys ∧ ∀ vs, OwnL K F vs as [] → r (.ref b) vs H Q := by
  obtain ⟨C, hs, ha⟩ := hr
  obtain ⟨ds, e1, e⟩ := Option.bind_eq_some_iff.mp e
  obtain ⟨n, e2, e⟩ := Option.bind_eq_some_iff.mp e
  cases q : ds[n]? with
  | none => rw [q] at e; cases e
  | some d =>
    rw [q] at e
    match d, e, q with
    | .lst true es, e, q =>
      obtain ⟨⟨z', es'⟩, e3, e4⟩ := Option.map_eq_some_iff.mp e
      cases e4
      obtain ⟨a, xs, C1, C2, h1, h2, h3, h4⟩ := ls_take hs e1
      obtain ⟨w, D1, D2, h5, h6, h7, h8⟩ := h2.focus q
      cases h6 with
      | z h6 => cases h6
      | @lst b ys _ D3 h6 =>
        have hA : HA F ((b, .lst ys) :: (D3 ++ (D2 ++ ((a, .lst xs) :: (C2 ++ R))))) H := ha.sub fun x => by
          simp only [cn_append, cn_cons]
          have := h3 x
          have := h7 x
          simp only [cn_cons] at this
          omega
        have m1 : H b = some (.lst ys) := (hA.ow _ List.mem_cons_self).1
        have m2 : H a = some (.lst xs) := (hA.ow (a, .lst xs) (by simp)).1
        have h9 : atI xs c = some (.ref b) := by
          unfold atI
          rw [h2.length, e2]
          exact h5
        refine ⟨a, xs, b, ys, h1, .inl (.inl m2), h9, .inl (.inl m1), fun vs hv => ?_⟩
        refine hg (C2 := []) (U := D2 ++ ((a, .lst xs) :: (C2 ++ R))) e3 h6 hv (hA.sub fun x => by simp only [cn_append, cn_cons, cn_nil]; omega) fun v H' F' ys' C' Cz l t o h => ?_
        obtain ⟨C'', k1, k2⟩ := h8 F' (.lst true es') _ l (.lst t)
        obtain ⟨C3, k3, k4⟩ := h4 F' xs _ C'' l k1
        refine k v H' F' Cz l o ⟨C3, k3, h.sub fun x => ?_⟩
        simp only [cn_append, cn_cons]
        have := k4 x
        have := k2 x
        simp only [cn_cons] at this
        omega
def fMtP0 (j : Nat) (c : Int) (g : List D → List D → Option (D × List D)) : M D := mtP j c g []
def fMtP (j : Nat) (c : Int) (g : List D → List D → Option (D × List D)) (fa : M D) : M D := fun s => (fa s).bind fun x => mtP j c g [x.1] s
theorem tyV_ls {a : Addr} {xs : List V} {H : Hp} (h : SqL K H a xs) : tyV K "list" (.ref a) H := .inl ⟨rfl, xs, h⟩
theorem e_mtP0 {j : Nat} {c : Int} {r : V → List V → Hp → VK → Prop} {g : List D → List D → Option (D × List D)} (h : PE X e (tBM0 K "list" r (tOp (rIxL K) (tVar j) (tC (.int c))))) (hg : MtD K r g) : PE X e (tF K (fMtP0 j c g)) := pe_same h fun σ H Q z => by
  obtain ⟨p, F, R, s, z, s', hr, e, k⟩ := z
  obtain ⟨a, xs, b, ys, h1, h2, h3, h4, h5⟩ := mtP_run hg hr e k
  exact ⟨.ref a, h1, a, xs, c, .ref b, rfl, rfl, h2, h3, tyV_ls h4, h5 [] .nil⟩
theorem e_mtP {j : Nat} {c : Int} {r : V → List V → Hp → VK → Prop} {g : List D → List D → Option (D × List D)} (h : PE X e (tBM K "list" r (tOp (rIxL K) (tVar j) (tC (.int c))) (tCons (tSt K fa) tNil))) (hs : ∀ s r s', fa s = some (r, s') → s' = s) (hg : MtD K r g) : PE X e (tF K (fMtP j c g fa)) := pe_same h fun σ H Q z => by
  obtain ⟨p, F, R, s, z, s', hr, e, k⟩ := z
  obtain ⟨x, ex, e⟩ := Option.bind_eq_some_iff.mp e
  obtain ⟨a, xs, b, ys, h1, h2, h3, h4, h5⟩ := mtP_run hg hr e k
  refine ⟨.ref a, h1, a, xs, c, .ref b, rfl, rfl, h2, h3, tyV_ls h4, p, F, R, s, x.1, hr, ?_, fun v hv => h5 [v] (.cons (C1 := []) (.z hv) .nil)⟩
  have e2 := hs s x.1 x.2 ex
  rw [ex]
  exact congrArg some (Prod.ext rfl e2)
theorem st_ok_c (d : D) : ∀ s r s', fC d s = some (r, s') → s' = s := fun s r s' e => by cases e; rfl
theorem st_ok_v (i : Nat) : ∀ s r s', fV i s = some (r, s') → s' = s := fun s r s' e => by
  unfold fV at e
  obtain ⟨d, e1, e2⟩ := Option.map_eq_some_iff.mp e
  cases e2
  rfl
/-! == of anything -/
def dEqS : D → D → Option D
  | .str a, .str b => some (.bl (decide (a = b)))
  | _, _ => none
def dNeS : D → D → Option D
  | .str a, .str b => some (.bl (!decide (a = b)))
  | _, _ => none
theorem d_eqS : OpD K rEq dEqS := by
  intro F U C1 C2 H x y d e z Q hz o1 o2 ha k
  match d, e, hz, o1, o2 with
  | .str a, .str b, hz, o1, o2 =>
    obtain ⟨rfl, rfl⟩ := own_str o1
    obtain ⟨rfl, rfl⟩ := own_str o2
    cases hz
    refine ⟨rfl, ?_⟩
    have e : decide (V.str a = V.str b) = decide (a = b) := by
      by_cases h : a = b
      · subst h; simp
      · rw [decide_eq_false h, decide_eq_false fun z => h (V.str.inj z)]
    rw [e]
    exact k _ H F [] .refl (.z (.bl _)) ha
theorem d_neS : OpD K rNe dNeS := by
  intro F U C1 C2 H x y d e z Q hz o1 o2 ha k
  match d, e, hz, o1, o2 with
  | .str a, .str b, hz, o1, o2 =>
    obtain ⟨rfl, rfl⟩ := own_str o1
    obtain ⟨rfl, rfl⟩ := own_str o2
    cases hz
    refine ⟨rfl, ?_⟩
    have e : decide (V.str a = V.str b) = decide (a = b) := by
      by_cases h : a = b
      · subst h; simp
      · rw [decide_eq_false h, decide_eq_false fun z => h (V.str.inj z)]
    rw [e]
    exact k _ H F [] .refl (.z (.bl _)) ha
def dEqA (d e : D) : Option D := (dEqS d e).or (dEq d e)
def dNeA (d e : D) : Option D := (dNeS d e).or (dNe d e)
theorem op_eqA (hK : X.K = K) (hu : X.A.units + 64 < cLine) : OpR X (compareOp .Eq) (R2or rEq (rEqD K)) := opr_or op_eq (k_eqD hK hu)
theorem op_neA (hK : X.K = K) (hu : X.A.units + 64 < cLine) : OpR X (compareOp .NotEq) (R2or rNe (rNeD K)) := opr_or op_ne (k_neD hK hu)
theorem d_eqA : OpD K (R2or rEq (rEqD K)) dEqA := opd_or d_eqS d_eq
theorem d_neA : OpD K (R2or rNe (rNeD K)) dNeA := opd_or d_neS d_ne
/-! [a, x, b][k], x the object of a slot -/
theorem OwnA.get {F : Hp} {σ : L2.St} {vs : List V} {as : List AR} {C : CL} (h : OwnA K F σ vs as C) : ∀ {n : Nat} {a : AR}, as[n]? = some a → ∃ v, vs[n]? = some v ∧ (∀ d, a = .inl d → ∃ C1, Own K F v d C1 ∧ ∀ x, cn x C1 ≤ cn x C) ∧ ∀ i, a = .inr i → σ[i]? = some (some v) := by
  induction h with
  | nil => intro n a e; simp at e
  | @d v vs d ds C1 C2 o t ih =>
    intro n a e
    cases n with
    | zero =>
      simp at e; subst e
      exact ⟨v, rfl, fun d' e => by cases e; exact ⟨C1, o, fun x => by rw [cn_append]; omega⟩, fun i e => by cases e⟩
    | succ n =>
      obtain ⟨w, h1, h2, h3⟩ := ih (by simpa using e)
      refine ⟨w, by simpa using h1, fun d' e => ?_, h3⟩
      obtain ⟨C', k1, k2⟩ := h2 d' e
      exact ⟨C', k1, fun x => by rw [cn_append]; have := k2 x; omega⟩
  | @io v vs i ds C2 q t ih =>
    intro n a e
    cases n with
    | zero =>
      simp at e; subst e
      exact ⟨v, rfl, (fun d' e => by cases e), (fun i' e => by cases e; exact q)⟩
    | succ n =>
      obtain ⟨w, h1, h2, h3⟩ := ih (by simpa using e)
      exact ⟨w, by simpa using h1, h2, h3⟩
theorem OwnA.length {F : Hp} {σ : L2.St} {vs : List V} {as : List AR} {C : CL} (h : OwnA K F σ vs as C) : vs.length = as.length := by
  induction h with
  | nil => rfl
  | d _ _ ih => simp [ih]
  | io _ _ ih => simp [ih]
def fPick (fas : M (List AR)) (fb : M D) : M D := fun s => (fas s).bind fun a => if a.1.length ≤ mx then (fb a.2).bind fun y => (asI y.1).bind fun k => (atI a.1 k).bind fun r => match r with
  | .inl d => some (d, y.2)
  | .inr i => match y.2[i]? with
    | some (.va d) => some (d, y.2.set i .no)
    | _ => none
  else none
theorem e_pick {es : List Expr} {fas : M (List AR)} {p1 : Pos} (hK : X.K = K) (h : PA X es (tFA K fas)) (hb : PE X b (tF K fb)) (hs : PlainIx b) : PE X (.Subscript (.List es p1) b pos) (tF K (fPick fas fb)) :=
  pe_same (pe_ix (k_ixL hK) (pe_lst h) hb hs) fun σ H Q z => by
    obtain ⟨p, F, R, s, r, s', hr, e, k⟩ := z
    obtain ⟨a, ea, e⟩ := Option.bind_eq_some_iff.mp e
    split at e
    rotate_left
    · cases e
    rename_i hl
    obtain ⟨y, ey, e⟩ := Option.bind_eq_some_iff.mp e
    obtain ⟨i, ei, e⟩ := Option.bind_eq_some_iff.mp e
    obtain ⟨ar, ear, e⟩ := Option.bind_eq_some_iff.mp e
    refine ⟨p, F, R, s, a.1, a.2, hr, ea, fun vs H1 F1 C1 l1 o1 ⟨Cs, hs1, ha1⟩ => ?_⟩
    refine ⟨sz (by rw [o1.length]; exact hl), fun q nq => ?_⟩
    refine ⟨p, F1, (q, .lst vs) :: (C1 ++ R), a.2, y.1, y.2, ⟨Cs, hs1, (ha1.new nq _).sub fun x => by simp only [cn_append, cn_cons]; omega⟩, ey, fun v2 H2 F2 C2 l2 o2 ⟨Ct, hs2, ha2⟩ => ?_⟩
    rw [asI_some ei] at o2
    obtain ⟨rfl, rfl⟩ := own_int o2
    have hm : H2 q = some (.lst vs) := (ha2.ow (q, .lst vs) (by simp)).1
    unfold atI at ear
    obtain ⟨n, en, ear⟩ := Option.bind_eq_some_iff.mp ear
    obtain ⟨v, h1, h2, h3⟩ := (o1.mono l2).get ear
    refine ⟨q, vs, i, v, rfl, rfl, .inl (.inl hm), by unfold atI; rw [o1.length, en]; exact h1, ?_⟩
    cases ar with
    | inl d =>
      cases e
      obtain ⟨C3, h4, h5⟩ := h2 _ rfl
      exact k v H2 F2 C3 (l1.trans l2) h4 ⟨Ct, hs2, ha2.sub fun x => by simp only [cn_append, cn_cons, cn_nil]; have := h5 x; omega⟩
    | inr j =>
      have hv := h3 j rfl
      change (match y.2[j]? with | some (.va d) => some (d, y.2.set j .no) | _ => none) = some (r, s') at e
      split at e
      · rename_i d qd
        cases e
        obtain ⟨w, D1, D2, k1, k2, k3, k4⟩ := hs2.takeV qd
        have : w = v := by rw [k1] at hv; exact Option.some.inj (Option.some.inj hv)
        subst this
        exact k w H2 F2 D1 (l1.trans l2) k2 ⟨D2, k3, ha2.sub fun x => by simp only [cn_append, cn_cons, cn_nil]; have := k4 x; omega⟩
      · cases e
/-! sealed: no one reckons them by unfolding -/
noncomputable def zLc : M (List D) → (D → S → Option S) → M Bool → M D → List Nat → M D := wax fLc
theorem zLc_is : zLc = fLc := wax_is _
noncomputable def zFor : M (List D) → (D → S → Option S) → (S → Option Out) → S → Option Out := wax sFor
theorem zFor_is : zFor = sFor := wax_is _
theorem e_zlc {fi : M (List D)} {fg : D → S → Option S} {ft : M Bool} {fe : M D} {vs : List Nat} (h : PE X e (tF K (fLc fi fg ft fe vs))) : PE X e (tF K (zLc fi fg ft fe vs)) := by rw [zLc_is]; exact h
theorem s_zlc {st : Stmt} {fi : M (List D)} {fg : D → S → Option S} {ft : M Bool} {fe : M D} {vs ms : List Nat} {g : D → S → Option S} (h : PS X st (tSF K (sAsg (fSc ms (fLc fi fg ft fe vs)) g))) : PS X st (tSF K (sAsg (fSc ms (zLc fi fg ft fe vs)) g)) := by rw [zLc_is]; exact h
theorem s_zfor {st : Stmt} {fi : M (List D)} {fg : D → S → Option S} {fb : S → Option Out} (h : PS X st (tSF K (sFor fi fg fb))) : PS X st (tSF K (zFor fi fg fb)) := by rw [zFor_is]; exact h
end
end DL
set_option Elab.async false
set_option linter.all false
set_option maxRecDepth 100000
set_option maxHeartbeats 2000000
set_option exponentiation.threshold 600
/-! a store to a place of a list, as a target among others -/
namespace DL
open PySem PySem.Spec PyProof.Rows L2 LB
section
variable {X : Cx} {K : PySem.W.Frag} {tg : Expr}
def gSb (j : Nat) (fi : M D) : D → S → Option S := fun d s => if (Sl.ls s[j]?).isSome = true then (fi s).bind fun y => (asI y.1).bind fun i => (Sl.ls y.2[j]?).bind fun ds => (ixN ds.length i).map fun n => Sl.put y.2 j (.lst true (ds.set n d)) else none
theorem g_sub {j : Nat} {fi : M D} (h : PG X tg (gSub (tVar j) (tF K fi) rSetL)) : PG X tg (tGF K [] (gSb j fi)) := pg_same h fun v σ H Q z => by
  obtain ⟨p, F, R, s, d, C, s', o, ⟨Cs0, hs0, ha0⟩, e, k⟩ := z
  change (if (Sl.ls s[j]?).isSome = true then _ else none) = some s' at e
  split at e
  rotate_left
  · cases e
  rename_i hj
  obtain ⟨ds0, hj⟩ := Option.isSome_iff_exists.mp hj
  obtain ⟨y, ey, e⟩ := Option.bind_eq_some_iff.mp e
  obtain ⟨i, ei, e⟩ := Option.bind_eq_some_iff.mp e
  obtain ⟨ds, ed, e⟩ := Option.bind_eq_some_iff.mp e
  obtain ⟨n, en, e⟩ := Option.map_eq_some_iff.mp e
  cases e
  obtain ⟨a, xs, D1, D2, h1, h2, h3, h4⟩ := ls_take hs0 hj
  refine ⟨.ref a, h1, p, F, C ++ R, s, y.1, y.2, ⟨Cs0, hs0, ha0⟩, ey, fun iv H2 F2 C2 l2 o2 ⟨Cs, hs2, ha2⟩ => ?_⟩
  rw [asI_some ei] at o2
  obtain ⟨rfl, rfl⟩ := own_int o2
  obtain ⟨a', xs1, C3, C4, k1, k2, k3, k4⟩ := ls_take hs2 ed
  have ea' : a' = a := by rw [h1] at k1; cases k1; rfl
  subst ea'
  have hlt := (ixN_seq en).2.1
  have hA : HA F2 ((a', .lst xs1) :: (C3 ++ (C4 ++ (C ++ R)))) H2 := ha2.sub fun x => by simp only [cn_append, cn_cons, cn_nil]; have := k3 x; omega
  obtain ⟨C5, m1, m2⟩ := k2.set (o.mono l2) n hlt
  obtain ⟨C6, m3, m4⟩ := k4 F2 _ _ C5 .refl m1
  refine ⟨a', xs1, i, n, rfl, rfl, (hA.ow _ List.mem_cons_self).1, by rw [k2.length]; exact en, ?_⟩
  exact k σ _ F2 l2 ⟨C6, m3, (hA.put _).sub fun x => by simp only [cn_append, cn_cons]; have := m2 x; have := m4 x; omega⟩ rfl fun _ _ => rfl
end
end DL
set_option Elab.async false
set_option linter.all false
set_option maxRecDepth 100000
set_option maxHeartbeats 2000000
set_option exponentiation.threshold 600
/-! dicts of flat values -/
namespace DL
open PySem PySem.Spec PyProof.Rows L2 LB
section
variable {X : Cx} {K : PySem.W.Frag} {e a b tg o i : Expr} {fe fa fb fi : M D} {pos : Pos} {p : L2.St} {F F' : Hp}
/-- what a flat value is -/
def D.flV : D → V
  | .bl b => .bl b
  | .int i => .int i
  | .str s => .str s
  | _ => .non
theorem own_flV {v : V} {d : D} {C : CL} (h : Own K F v d C) (f : d.flat = true) : v = d.flV ∧ C = [] := by
  cases h with
  | z h => cases h <;> first | exact ⟨rfl, rfl⟩ | cases f
  | lst h => cases f
  | tup h => cases f
  | dct h => cases f
theorem dn_flV (F : Hp) : ∀ {d : D}, d.flat = true → Dn K F d.flV d
  | .non, _ => .non
  | .bl b, _ => .bl b
  | .int b, _ => .int b
  | .str b, _ => .str b
abbrev KD := List (Key × D)
def KD.fl (kvs : KD) : Bool := kvs.all fun q => q.2.flat
def KD.v (kvs : KD) : List (Key × V) := kvs.map fun q => (q.1, q.2.flV)
theorem dnK_fl : ∀ {xs : List (Key × V)} {kvs : KD}, DnK K F xs kvs → KD.fl kvs = true → xs = KD.v kvs
  | _, _, .nil, _ => rfl
  | _, _, .cons h t, f => by
    unfold KD.fl at f
    rw [List.all_cons, Bool.and_eq_true] at f
    have := (own_flV (.z h) f.1).1
    subst this
    rw [dnK_fl t f.2]
    rfl
theorem ownK_fl : ∀ {xs : List (Key × V)} {kvs : KD} {C : CL}, OwnK K F xs kvs C → KD.fl kvs = true → xs = KD.v kvs ∧ C = []
  | _, _, _, .nil, _ => ⟨rfl, rfl⟩
  | _, _, _, .cons h t, f => by
    unfold KD.fl at f
    rw [List.all_cons, Bool.and_eq_true] at f
    obtain ⟨rfl, rfl⟩ := own_flV h f.1
    obtain ⟨rfl, rfl⟩ := ownK_fl t f.2
    exact ⟨rfl, rfl⟩
theorem ownK_of (F : Hp) : ∀ {kvs : KD}, KD.fl kvs = true → OwnK K F (KD.v kvs) kvs []
  | [], _ => .nil
  | (k, d) :: kvs, f => by
    unfold KD.fl at f
    rw [List.all_cons, Bool.and_eq_true] at f
    exact .cons (C1 := []) (C2 := []) (.z (dn_flV F f.1)) (ownK_of F f.2)
theorem own_dct {v : V} {ob : Bool} {kvs : KD} {C U : CL} {H : Hp} (h : Own K F v (.dct ob kvs) C) (ha : HA F (C ++ U) H) (f : KD.fl kvs = true) : ∃ a, v = .ref a ∧ H a = some (.dK (KD.v kvs)) := by
  cases h with
  | z h =>
    cases h with
    | @dct a xs _ e t =>
      rw [dnK_fl t f] at e
      exact ⟨a, rfl, ha.fr _ _ e⟩
  | @dct a xs _ C t =>
    obtain ⟨rfl, rfl⟩ := ownK_fl t f
    exact ⟨a, rfl, (ha.ow _ List.mem_cons_self).1⟩
/-! what stands at a key -/
def valD (kvs : KD) (k : Int) : Option D := (kvs.find? fun q => decide (q.1 = Sum.inl k)).map (·.2)
def putD (kvs : KD) (k : Int) (d : D) : KD := if (kvs.any fun q => decide (q.1 = Sum.inl k)) = true then kvs.map (fun q => if q.1 = Sum.inl k then (q.1, d) else q) else kvs ++ [(Sum.inl k, d)]
theorem val_v (kvs : KD) (k : Int) : valV (KD.v kvs) (Sum.inl k : Key) = (valD kvs k).map D.flV := by
  unfold valV valD KD.v
  induction kvs with
  | nil => rfl
  | cons q r ih =>
    rw [List.map_cons, List.find?_cons, List.find?_cons]
    cases h : decide (q.1 = Sum.inl k) with
    | true => rfl
    | false => exact ih
theorem put_v (kvs : KD) (k : Int) (d : D) : putK (KD.v kvs) (Sum.inl k : Key) d.flV = KD.v (putD kvs k d) := by
  have e : ((KD.v kvs).any fun kv => decide (kv.1 = Sum.inl k)) = kvs.any fun q => decide (q.1 = Sum.inl k) := by
    unfold KD.v
    rw [List.any_map]
    rfl
  unfold putK putD
  rw [e]
  split
  · unfold KD.v
    rw [List.map_map, List.map_map]
    refine List.map_congr_left fun q _ => ?_
    show (if q.1 = Sum.inl k then (q.1, d.flV) else (q.1, q.2.flV)) = ((if q.1 = Sum.inl k then (q.1, d) else q).1, (if q.1 = Sum.inl k then (q.1, d) else q).2.flV)
    split <;> rfl
  · unfold KD.v
    rw [List.map_append]
    rfl
theorem put_fl {kvs : KD} {k : Int} {d : D} (f : KD.fl kvs = true) (fd : d.flat = true) : KD.fl (putD kvs k d) = true := by
  unfold KD.fl putD at *
  split
  · rw [List.all_map]
    rw [List.all_eq_true] at f ⊢
    intro q hq
    show (if q.1 = Sum.inl k then (q.1, d) else q).2.flat = true
    split
    · exact fd
    · exact f q hq
  · rw [List.all_append, f]
    simp [fd]
def dDGet : D → D → Option D
  | .dct _ kvs, .int k => if KD.fl kvs = true then valD kvs k else none
  | _, _ => none
def dDIn (neg : Bool) : D → D → Option D
  | .int k, .dct _ kvs => if KD.fl kvs = true then some (.bl (if neg = true then !(valD kvs k).isSome else (valD kvs k).isSome)) else none
  | _, _ => none
def rDGet : R2 := fun x y H Q => ∃ a v, x = .ref a ∧ DGet H a y (some v) ∧ Q v H
theorem valD_flat {kvs : KD} {k : Int} {d : D} (f : KD.fl kvs = true) (e : valD kvs k = some d) : d.flat = true := by
  unfold valD at e
  obtain ⟨q, hq, rfl⟩ := Option.map_eq_some_iff.mp e
  exact List.all_eq_true.mp f q (List.mem_of_find?_eq_some hq)
theorem d_dget : OpD K rDGet dDGet := by
  intro F U C1 C2 H x y d e z Q hz o1 o2 ha k
  match d, e, hz, o1, o2 with
  | .dct ob kvs, .int n, hz, o1, o2 =>
    obtain ⟨rfl, rfl⟩ := own_int o2
    change (if KD.fl kvs = true then valD kvs n else none) = some z at hz
    split at hz
    · rename_i f
      obtain ⟨a, rfl, h2⟩ := own_dct o1 ha f
      refine ⟨a, z.flV, rfl, .inl ⟨KD.v kvs, Sum.inl n, .inl h2, rfl, ?_⟩, k _ _ F [] .refl (.z (dn_flV F (valD_flat f hz))) (ha.sub fun x => by simp only [cn_append, cn_nil]; omega)⟩
      rw [val_v, hz]
      rfl
    · cases hz
theorem e_dget (hu : X.A.units + 64 < cLine) (ho : PE X o (tF K fa)) (hi : PE X i (tF K fb)) (hs : NoSl i) : PE X (.Subscript o i pos) (tF K (fOp dDGet fa fb)) := pe_same (pe_dget (by omega) ho hi hs) fun σ H Q z => tF_op d_dget z
def rDIn (neg : Bool) : R2 := fun y x H Q => ∃ a o, x = .ref a ∧ DGet H a y o ∧ Q (.bl (if neg = true then !o.isSome else o.isSome)) H
theorem d_din (neg : Bool) : OpD K (rDIn neg) (dDIn neg) := by
  intro F U C1 C2 H x y d e z Q hz o1 o2 ha k
  match d, e, hz, o1, o2 with
  | .int n, .dct ob kvs, hz, o1, o2 =>
    obtain ⟨rfl, rfl⟩ := own_int o1
    change (if KD.fl kvs = true then some (D.bl (if neg = true then !(valD kvs n).isSome else (valD kvs n).isSome)) else none) = some z at hz
    split at hz
    · rename_i f
      cases hz
      obtain ⟨a, rfl, h2⟩ := own_dct (U := U) o2 ha f
      have h3 := k (.bl (if neg = true then !(valD kvs n).isSome else (valD kvs n).isSome)) H F [] .refl (.z (.bl _)) (ha.sub fun x => by simp only [cn_append, cn_nil]; omega)
      refine ⟨a, (valD kvs n).map D.flV, rfl, .inl ⟨KD.v kvs, Sum.inl n, .inl h2, rfl, (val_v kvs n).symm⟩, ?_⟩
      rw [Option.isSome_map]
      exact h3
    · cases hz
theorem t_din (hu : X.A.units + 64 < cLine) (ha : PE X a (tF K fa)) (hb : PE X b (tF K fb)) (hm : behindInMarks .In b = false := by rfl) : PT X (.Compare a [.In] [b] pos) (tFT K (fT (fOp (dDIn false) fa fb))) :=
  pt_same (pt_cmp (pc_din (by omega) ha hb) hm) fun σ H Q z => tF_test (fun σ H Q z => tF_op (d_din false) z) z
theorem t_dnotin (hu : X.A.units + 64 < cLine) (ha : PE X a (tF K fa)) (hb : PE X b (tF K fb)) (hm : behindInMarks .NotIn b = false := by rfl) : PT X (.Compare a [.NotIn] [b] pos) (tFT K (fT (fOp (dDIn true) fa fb))) :=
  pt_same (pt_cmp (pc_dnotin (by omega) ha hb) hm) fun σ H Q z => tF_test (fun σ H Q z => tF_op (d_din true) z) z
end
end DL
set_option Elab.async false
set_option linter.all false
set_option maxRecDepth 100000
set_option maxHeartbeats 2000000
set_option exponentiation.threshold 600
/-! dicts of flat values: made, put, listed -/
namespace DL
open PySem PySem.Spec PyProof.Rows L2 LB
section
variable {X : Cx} {K : PySem.W.Frag} {e a b tg o i : Expr} {fe fa fb fi : M D} {pos : Pos} {p : L2.St} {F F' : Hp}
def pairsOf : List D → Option (List (Int × D))
  | [] => some []
  | .tup _ [.int k, v] :: r => if v.flat = true then (pairsOf r).map fun ps => (k, v) :: ps else none
  | _ => none
def mergeD (ps : List (Int × D)) : KD := ps.foldl (fun acc q => putD acc q.1 q.2) []
theorem merge_fl {ps : List (Int × D)} (h : ∀ q ∈ ps, q.2.flat = true) : ∀ {acc : KD}, KD.fl acc = true → KD.fl (ps.foldl (fun acc q => putD acc q.1 q.2) acc) = true := by
  induction ps with
  | nil => intro acc f; exact f
  | cons q r ih => intro acc f; exact ih (fun q hq => h q (List.mem_cons_of_mem _ hq)) (put_fl f (h q List.mem_cons_self))
theorem merge_v {ps : List (Int × D)} : ∀ {acc : KD}, mergeK (KD.v acc) (ps.map fun q => ((Sum.inl q.1 : Key), q.2.flV)) = KD.v (ps.foldl (fun acc q => putD acc q.1 q.2) acc) := by
  induction ps with
  | nil => intro acc; rfl
  | cons q r ih =>
    intro acc
    have h := ih (acc := putD acc q.1 q.2)
    rw [← put_v] at h
    exact h
theorem pairs_fl : ∀ {ds : List D} {ps : List (Int × D)}, pairsOf ds = some ps → ∀ q ∈ ps, q.2.flat = true := by
  intro ds
  induction ds with
  | nil => intro ps h; cases h; intro q hq; cases hq
  | cons d r ih =>
    intro ps h
    unfold pairsOf at h
    split at h
    · rename_i e; cases e
    · rename_i e
      cases e
      split at h
      · obtain ⟨qs, e, rfl⟩ := Option.map_eq_some_iff.mp h
        intro q hq
        rcases List.mem_cons.mp hq with rfl | hq
        · assumption
        · exact ih e q hq
      · cases h
    · cases h
theorem pairs_own {U : CL} {H : Hp} : ∀ {ds : List D} {ps : List (Int × D)} {xs : List V} {C : CL}, OwnL K F xs ds C → HA F (C ++ U) H → pairsOf ds = some ps →
    ∃ as : List Addr, xs = as.map V.ref ∧ Paired (fun p kv => SqT K H p [kV kv.1, kv.2]) as (ps.map fun q => ((Sum.inl q.1 : Key), q.2.flV)) := by
  intro ds
  induction ds with
  | nil =>
    intro ps xs C h ha e
    cases h
    cases e
    exact ⟨[], rfl, .nil⟩
  | cons d r ih =>
    intro ps xs C h ha e
    cases h with
    | @cons v vs _ _ C1 C2 o t =>
      unfold pairsOf at e
      split at e
      · rename_i e2; cases e2
      · rename_i ob k w rr ee
        cases ee
        split at e
        · rename_i fw
          obtain ⟨qs, eq, rfl⟩ := Option.map_eq_some_iff.mp e
          obtain ⟨bd, ys, C3, rfl, h2, h3, h4⟩ := o.seqT (U := C2 ++ U) (ha.sub fun x => by simp only [cn_append]; omega)
          obtain ⟨as, e1, e2⟩ := ih t (ha.sub fun x => by simp only [cn_append]; omega) eq
          cases h3 with
          | cons o1 t1 =>
            cases t1 with
            | cons o2 t2 =>
              cases t2
              obtain ⟨rfl, rfl⟩ := own_int o1
              obtain ⟨rfl, rfl⟩ := own_flV o2 fw
              subst e1
              exact ⟨bd :: as, rfl, .cons h2 e2⟩
        · cases e
      · cases e
def dDictP : List D → Option D
  | [.lst _ ds] => (pairsOf ds).map fun ps => .dct true (mergeD ps)
  | _ => none
def rDictP (K : PySem.W.Frag) : List V → Hp → VK → Prop := fun xs H Q => ∃ (a : Addr) (ps : List Addr) (kvs : List (Key × V)), xs = [.ref a] ∧ SqL K H a (ps.map V.ref) ∧ Paired (fun p kv => SqT K H p [kV kv.1, kv.2]) ps kvs ∧
    ∀ p, H p = none → Q (.ref p) (upd H p (.dK (mergeK [] kvs)))
theorem c_dictP (hK : X.K = K) (hc : X.calm = true) : CallR X (.type "dict") (rDictP K) := by
  subst hK
  exact call_dictP hc
theorem d_dictP : CallD K (rDictP K) dDictP := by
  intro F U C1 H xs ds z Q hz o ha k
  match ds, hz, o with
  | [.lst ob es], hz, o =>
    obtain ⟨v, C2, rfl, h1, h2⟩ := own1 o
    obtain ⟨ps, e1, rfl⟩ := Option.map_eq_some_iff.mp hz
    obtain ⟨b, ys, C3, rfl, h3, h4, h5⟩ := h1.seqL (U := U) (ha.sub fun x => by simp only [cn_append]; have := h2 x; omega)
    obtain ⟨as, rfl, e3⟩ := pairs_own (U := U) h4 (ha.sub fun x => by simp only [cn_append]; have := h2 x; have := h5 x; omega) e1
    refine ⟨b, as, _, rfl, h3.l, e3, fun p np => ?_⟩
    have hv := merge_v (ps := ps) (acc := [])
    rw [show mergeK [] (ps.map fun q => ((Sum.inl q.1 : Key), q.2.flV)) = KD.v (mergeD ps) from hv]
    exact k _ _ F _ .refl (.dct (ownK_of F (merge_fl (pairs_fl e1) rfl))) ((ha.new np _).sub fun x => by simp only [cn_append, cn_cons, cn_nil]; omega)
/-- list(d) -/
def dListD : List D → Option D
  | [.dct _ kvs] => if KD.fl kvs = true ∧ (kvs.all fun q => q.1.isLeft) = true then some (.lst true (kvs.map fun q => match q.1 with | .inl i => .int i | .inr _ => .non)) else none
  | _ => none
theorem own_keys (F : Hp) : ∀ {kvs : KD}, (kvs.all fun q => q.1.isLeft) = true → OwnL K F ((KD.v kvs).map fun kv => kV kv.1) (kvs.map fun q => match q.1 with | .inl i => D.int i | .inr _ => .non) []
  | [], _ => .nil
  | (.inl i, d) :: kvs, f => .cons (C1 := []) (C2 := []) (.z (.int i)) (own_keys F (by simpa using f))
  | (.inr i, d) :: kvs, f => by simp at f
theorem c_listD (hc : X.calm = true) : CallR X (.type "list") rListD := call_list_dK hc
theorem d_listD : CallD K rListD dListD := by
  intro F U C1 H xs ds z Q hz o ha k
  match ds, hz, o with
  | [.dct ob kvs], hz, o =>
    obtain ⟨v, C2, rfl, h1, h2⟩ := own1 o
    change (if _ then _ else _) = some z at hz
    split at hz
    · rename_i f
      cases hz
      obtain ⟨a, rfl, h3⟩ := own_dct (U := U) h1 (ha.sub fun x => by simp only [cn_append]; have := h2 x; omega) f.1
      exact ⟨a, KD.v kvs, rfl, h3, fun p np => k _ _ F _ .refl (.lst (own_keys F f.2)) ((ha.new np _).sub fun x => by simp only [cn_append, cn_cons, cn_nil]; omega)⟩
    · cases hz
/-- {} -/
def fDNew : M D := fun s => some (.dct true [], s)
theorem e_dnew : PE X (.Dict [] [] pos) (tF K fDNew) := pe_same pe_dnewK fun σ H Q z => by
  obtain ⟨p, F, R, s, r, s', ⟨C, hs, ha⟩, e, k⟩ := z
  cases e
  intro q hq
  refine k _ _ F _ .refl (.dct .nil) ⟨C, hs, (ha.new hq (.dK [])).sub fun x => ?_⟩
  simp only [cn_append, cn_cons, cn_nil]
  omega
end
end DL
set_option Elab.async false
set_option linter.all false
set_option maxRecDepth 100000
set_option maxHeartbeats 2000000
set_option exponentiation.threshold 600
/-! d[k] = v -/
namespace DL
open PySem PySem.Spec PyProof.Rows L2 LB
section
variable {X : Cx} {K : PySem.W.Frag} {e a b tg o i : Expr} {fe fa fb fi : M D} {pos pos' : Pos} {p : L2.St} {F F' : Hp}
/-- the owned dict of a slot, its values flat -/
def Sl.dk : Option Sl → Option KD
  | some (.va (.dct true kvs)) => if KD.fl kvs = true then some kvs else none
  | some (.pn (.dct true kvs)) => if KD.fl kvs = true then some kvs else none
  | _ => none
theorem dk_take {σ : L2.St} {s : S} {C : CL} {j : Nat} {kvs : KD} (h : Slots K F σ p s C) (e : Sl.dk s[j]? = some kvs) : KD.fl kvs = true ∧ ∃ a C2, σ[j]? = some (some (.ref a)) ∧ (∀ x, cn x C = c1 x (a, .dK (KD.v kvs)) + cn x C2) ∧
    ∀ F' kvs', Le F F' → KD.fl kvs' = true → ∃ C'', Slots K F' σ p (Sl.put s j (.dct true kvs')) C'' ∧ ∀ x, cn x C'' = c1 x (a, .dK (KD.v kvs')) + cn x C2 := by
  cases q : s[j]? with
  | none => rw [q] at e; cases e
  | some sl =>
    rw [q] at e
    have hj : j < s.length := (List.getElem?_eq_some_iff.mp q).1
    match sl, e with
    | .va (.dct true kk), e =>
      change (if KD.fl kk = true then some kk else none) = some kvs at e
      · split at e
        · rename_i f
          cases e
          refine ⟨f, ?_⟩
          obtain ⟨v, C1, C2, h1, h2, h3, h4⟩ := h.takeV q
          cases h2 with
          | z q => cases q
          | @dct a xs _ C1 t =>
            obtain ⟨rfl, rfl⟩ := ownK_fl t f
            refine ⟨a, C2, h1, fun x => by rw [h4, cn_cons, cn_nil]; omega, fun F' kvs' l f' => ?_⟩
            obtain ⟨C3, h5, h6⟩ := (h3.mono l).giveV (.dct (ownK_of F' f')) (i := j) (by simp [hj]) h1
            rw [List.set_set] at h5
            refine ⟨C3, ?_, fun x => by rw [h6, cn_cons, cn_nil]; omega⟩
            unfold Sl.put
            rw [q]
            exact h5
        · cases e
    | .pn (.dct true kk), e =>
      change (if KD.fl kk = true then some kk else none) = some kvs at e
      · split at e
        · rename_i f
          cases e
          refine ⟨f, ?_⟩
          obtain ⟨v, C1, C2, h1, h0, h2, h3, h4⟩ := h.takeP q
          cases h2 with
          | z q => cases q
          | @dct a xs _ C1 t =>
            obtain ⟨rfl, rfl⟩ := ownK_fl t f
            refine ⟨a, C2, h1, fun x => by rw [h4, cn_cons, cn_nil]; omega, fun F' kvs' l f' => ?_⟩
            obtain ⟨C3, h5, h6⟩ := (h3.mono l).giveP (.dct (ownK_of F' f')) (i := j) (by simp [hj]) h1 h0
            rw [List.set_set] at h5
            refine ⟨C3, ?_, fun x => by rw [h6, cn_cons, cn_nil]; omega⟩
            unfold Sl.put
            rw [q]
            exact h5
        · cases e
def sDSet (j : Nat) (fe fi : M D) : S → Option Out := fun s => (fe s).bind fun x => if (Sl.dk x.2[j]?).isSome = true then (fi x.2).bind fun y => (asI y.1).bind fun i => (Sl.dk y.2[j]?).bind fun kvs => if x.1.flat = true ∧ kvs.length ≤ mx then some (.nx (Sl.put y.2 j (.dct true (putD kvs i x.1)))) else none else none
theorem s_dset {j : Nat} (hu : X.A.units + 64 < cLine) (ho : PE X o (tVar j)) (hi : PE X i (tF K fi)) (hv : PE X e (tF K fe)) (hs : swapsWith e (some (.Subscript o i pos')) pos.line X.env = pure false := by rfl) :
    PS X (.Assign [.Subscript o i pos'] e pos) (tSF K (sDSet j fe fi)) := ps_same (ps_dput (by omega) ho hi hv hs) fun E σ H z => by
  obtain ⟨p, F, R, s, o, hr, e, k⟩ := z
  obtain ⟨x, ex, e⟩ := Option.bind_eq_some_iff.mp e
  split at e
  rotate_left
  · cases e
  rename_i hj
  obtain ⟨ds0, hj⟩ := Option.isSome_iff_exists.mp hj
  obtain ⟨y, ey, e⟩ := Option.bind_eq_some_iff.mp e
  obtain ⟨i, ei, e⟩ := Option.bind_eq_some_iff.mp e
  obtain ⟨kvs, ed, e⟩ := Option.bind_eq_some_iff.mp e
  split at e
  rotate_left
  · cases e
  rename_i hf
  cases e
  refine ⟨p, F, R, s, x.1, x.2, hr, ex, fun v H1 F1 C1 l1 o1 r1 => ?_⟩
  obtain ⟨rfl, rfl⟩ := own_flV o1 hf.1
  obtain ⟨C, hs, ha⟩ := r1
  obtain ⟨f0, a, D2, h1, h3, h4⟩ := dk_take hs hj
  refine ⟨.ref a, h1, p, F1, R, x.2, y.1, y.2, ⟨C, hs, ha⟩, ey, fun iv H2 F2 C2 l2 o2 ⟨Cs, hs2, ha2⟩ => ?_⟩
  rw [asI_some ei] at o2
  obtain ⟨rfl, rfl⟩ := own_int o2
  obtain ⟨f1, a', C4, k1, k3, k4⟩ := dk_take hs2 ed
  have ea' : a' = a := by rw [h1] at k1; cases k1; rfl
  subst ea'
  have hA : HA F2 ((a', .dK (KD.v kvs)) :: (C4 ++ R)) H2 := ha2.sub fun x => by simp only [cn_append, cn_cons, cn_nil]; have := k3 x; omega
  obtain ⟨C6, m3, m4⟩ := k4 F2 (putD kvs i x.1) .refl (put_fl f1 hf.1)
  refine ⟨a', _, rfl, .inl ⟨KD.v kvs, Sum.inl i, (hA.ow _ List.mem_cons_self).1, rfl, ?_, rfl⟩, ?_⟩
  · unfold KD.v
    rw [List.length_map]
    have h1 : mx = 1000000 := rfl
    have h2 : (1000000 : Nat) < sizeLine := by decide
    have := hf.2
    omega
  · rw [put_v]
    exact k σ _ F2 (l1.trans l2) ⟨C6, m3, (hA.put _).sub fun x => by simp only [cn_append, cn_cons]; have := m4 x; omega⟩
end
end DL
set_option Elab.async false
set_option linter.all false
set_option maxRecDepth 100000
set_option maxHeartbeats 2000000
set_option exponentiation.threshold 600
/-! sorted(pairs of whole numbers) -/
namespace DL
open PySem PySem.Spec PyProof.Rows L2 LB
def pairB (p q : Int × Int) : Prop := p.1 < q.1 ∨ (p.1 = q.1 ∧ p.2 ≤ q.2)
/-- a list of pairs told by values: ks are their numbers -/
def rSortedPX (K : PySem.W.Frag) : List V → Hp → VK → Prop := fun vs H Q => ∃ (a : Addr) (xs : List V) (ks : List (Int × Int)), vs = [V.ref a] ∧ SqL K H a xs ∧ Paired (fun x p => ∃ t, x = V.ref t ∧ SqT K H t [.int p.1, .int p.2]) xs ks ∧
  ∀ ys p (k : V → Int × Int), xs.map k = ks → ys.Perm xs → (ys.map k).Pairwise pairB → H p = none → Q (.ref p) (upd H p (.lst ys))
section
variable {X : Cx} {K : PySem.W.Frag}
theorem paired_l {α β : Type} {P : α → β → Prop} : ∀ {xs : List α} {ks : List β}, Paired P xs ks → ∀ x ∈ xs, ∃ p ∈ ks, P x p
  | _, _, .nil, x, h => absurd h (by simp)
  | _, _, .cons h t, x, hx => by
    rcases List.mem_cons.mp hx with rfl | hx
    · exact ⟨_, List.mem_cons_self, h⟩
    · obtain ⟨p, hp, q⟩ := paired_l t x hx
      exact ⟨p, List.mem_cons_of_mem _ hp, q⟩
theorem paired_map {α β : Type} {P : α → β → Prop} {k : α → β} : ∀ {xs : List α} {ks : List β}, Paired P xs ks → (∀ x p, P x p → k x = p) → xs.map k = ks
  | _, _, .nil, _ => rfl
  | _, _, .cons h t, q => by rw [List.map_cons, q _ _ h, paired_map t q]
open Classical in
/-- the two numbers of a tuple -/
noncomputable def twoOf (K : PySem.W.Frag) (H : Hp) (x : V) : Int × Int := if h : ∃ p : Int × Int, ∃ t, x = V.ref t ∧ SqT K H t [.int p.1, .int p.2] then Classical.choose h else (0, 0)
theorem twoOf_is {pins : List (Addr × Obj)} {σ : L2.St} {H : Hp} {s : Shared} (I : Inv X pins σ H s) {x : V} {p : Int × Int} (h : ∃ t, x = V.ref t ∧ SqT X.K H t [.int p.1, .int p.2]) : twoOf X.K H x = p := by
  have hx : ∃ p : Int × Int, ∃ t, x = V.ref t ∧ SqT X.K H t [.int p.1, .int p.2] := ⟨p, h⟩
  unfold twoOf
  rw [dif_pos hx]
  obtain ⟨t, e, ht⟩ := Classical.choose_spec hx
  obtain ⟨t', e', ht'⟩ := h
  rw [e] at e'
  cases e'
  have := I.tuple_inj ht ht'
  have a1 : (Classical.choose hx).1 = p.1 := by simpa using congrArg (fun l : List V => match l with | .int i :: _ => i | _ => 0) this
  have a2 : (Classical.choose hx).2 = p.2 := by simpa using congrArg (fun l : List V => match l with | _ :: .int i :: _ => i | _ => 0) this
  exact Prod.ext a1 a2
theorem call_sortedPX : CallR X (.builtin "sorted") (rSortedPX X.K) := by
  intro pins s σ H vs us Q I r h
  obtain ⟨a, xs, ks, rfl, hs, hx, q⟩ := h
  obtain ⟨its, rv, hl, hz⟩ := I.list hs
  rw [Vals.ref1 r]
  have hk := fun x hx' => paired_l hx x hx'
  obtain ⟨e1, e2⟩ := refs_back rv fun x m => by
    obtain ⟨p, _, t, e, _⟩ := hk x m
    exact ⟨t, e⟩
  have back : ∀ v ∈ its, backV v ∈ xs := fun v hv => by rw [e1]; exact List.mem_map_of_mem hv
  refine SrtO.sorted_pairsO (k := fun u => twoOf X.K H (backV u)) hl.isList (by rw [← rv.length]; exact hz) (fun v hv => ?_) fun h' d out o1 o2 kp hd hn => ?_
  · obtain ⟨t, rfl⟩ := e2 v hv
    obtain ⟨p, _, t', e, ht⟩ := hk _ (back _ hv)
    rw [twoOf_is I ⟨t', e, ht⟩]
    cases e
    obtain ⟨two, r2, ⟨ob, ho, hc, n, hd⟩, _⟩ := I.tuple ht
    obtain ⟨u1, u2, rfl, ri, rj⟩ := vals2 r2
    obtain ⟨n1, rfl⟩ := ri
    obtain ⟨n2, rfl⟩ := rj
    exact ⟨t, ob, n1, n2, n, rfl, ho, hc, hd⟩
  · have h3 : ∀ u ∈ out, ∃ c, u = Value.ref c := fun u hu => e2 u (o2.perm.mem_iff.mp hu)
    obtain ⟨n, hn⟩ := hn
    have hp : (out.map backV).Perm xs := by rw [e1]; exact o2.perm.map backV
    have hsz : (out.map backV).length ≤ sizeLine := by rw [hp.length_eq]; exact hz
    refine ⟨.ref d, upd H d (.lst (out.map backV)), I.laid (t' := s.toks) kp hd ⟨hsz, out, n, vals_back h3, hn⟩, rfl, q _ d (twoOf X.K H) (paired_map hx fun x p h => twoOf_is I h) hp ?_ (I.hok.fresh hd)⟩
    rw [List.map_map, List.pairwise_map]
    refine List.Pairwise.imp (fun {u v} huv => ?_) o1
    have := SrtO.lexB_no.mp huv
    show pairB (twoOf X.K H (backV u)) (twoOf X.K H (backV v))
    unfold pairB
    omega
end
end DL
set_option Elab.async false
set_option linter.all false
set_option maxRecDepth 100000
set_option maxHeartbeats 2000000
set_option exponentiation.threshold 600
/-! sorted(pairs), by data -/
namespace DL
open PySem PySem.Spec PyProof.Rows L2 LB
def leP (p q : Int × Int) : Bool := decide (p.1 < q.1) || (decide (p.1 = q.1) && decide (p.2 ≤ q.2))
theorem leP_iff {p q : Int × Int} : leP p q = true ↔ pairB p q := by
  unfold leP pairB
  simp
def insP (p : Int × Int) : List (Int × Int) → List (Int × Int)
  | [] => [p]
  | q :: r => if leP p q = true then p :: q :: r else q :: insP p r
def sortP : List (Int × Int) → List (Int × Int)
  | [] => []
  | p :: r => insP p (sortP r)
theorem insP_perm (p : Int × Int) : ∀ l, (insP p l).Perm (p :: l)
  | [] => .refl _
  | q :: r => by
    rw [insP]
    split
    · exact .refl _
    · exact ((insP_perm p r).cons q).trans (.swap p q r)
theorem sortP_perm : ∀ l, (sortP l).Perm l
  | [] => .refl _
  | p :: r => (insP_perm p _).trans ((sortP_perm r).cons p)
theorem pairB_trans {p q r : Int × Int} (h : pairB p q) (k : pairB q r) : pairB p r := by
  unfold pairB at *
  omega
theorem insP_up (p : Int × Int) : ∀ {l : List (Int × Int)}, l.Pairwise pairB → (insP p l).Pairwise pairB
  | [], _ => by simp [insP]
  | q :: r, h => by
    have hh := List.pairwise_cons.mp h
    rw [insP]
    split
    · rename_i c
      have c := leP_iff.mp c
      refine List.pairwise_cons.mpr ⟨fun z hz => ?_, h⟩
      rcases List.mem_cons.mp hz with rfl | hz
      · exact c
      · exact pairB_trans c (hh.1 z hz)
    · rename_i c
      have c : ¬ pairB p q := fun h => c (leP_iff.mpr h)
      refine List.pairwise_cons.mpr ⟨fun z hz => ?_, insP_up p hh.2⟩
      rcases List.mem_cons.mp ((insP_perm p r).mem_iff.mp hz) with rfl | hz
      · unfold pairB at *
        omega
      · exact hh.1 z hz
theorem sortP_up : ∀ l, (sortP l).Pairwise pairB
  | [] => List.Pairwise.nil
  | p :: r => insP_up p (sortP_up r)
theorem sortP_uniq {a b : List (Int × Int)} (h : a.Perm b) (ha : a.Pairwise pairB) : a = sortP b :=
  List.Perm.eq_of_pairwise (fun x y _ _ h k => by
    unfold pairB at h k
    exact Prod.ext (by omega) (by omega)) ha (sortP_up b) (h.trans (sortP_perm b).symm)
def tupI (b : Bool) (p : Int × Int) : D := .tup b [.int p.1, .int p.2]
def prsB (b : Bool) : List D → Option (List (Int × Int))
  | [] => some []
  | .tup c [.int i, .int j] :: r => if c = b then (prsB b r).map fun ps => (i, j) :: ps else none
  | _ => none
theorem prsB_is {b : Bool} : ∀ {ds : List D} {ps : List (Int × Int)}, prsB b ds = some ps → ds = ps.map (tupI b) := by
  intro ds
  induction ds with
  | nil => intro ps h; cases h; rfl
  | cons d r ih =>
    intro ps h
    unfold prsB at h
    split at h
    · rename_i e; cases e
    · rename_i e
      cases e
      split at h
      · rename_i e
        subst e
        obtain ⟨qs, e, rfl⟩ := Option.map_eq_some_iff.mp h
        rw [ih e]
        rfl
      · cases h
    · cases h
theorem prsB_of (b : Bool) (ps : List (Int × Int)) : prsB b (ps.map (tupI b)) = some ps := by
  induction ps with
  | nil => rfl
  | cons p r ih =>
    show (if b = b then (prsB b (r.map (tupI b))).map _ else none) = _
    rw [if_pos rfl, ih]
    rfl
def dSortedP : List D → Option D
  | [.lst _ ds] => ((prsB true ds).map fun ps => .lst true ((sortP ps).map (tupI true))).or ((prsB false ds).map fun ps => .lst true ((sortP ps).map (tupI false)))
  | _ => none
section
variable {X : Cx} {K : PySem.W.Frag} {F : Hp}
theorem pairs_pd {U : CL} {H : Hp} {b : Bool} : ∀ {ps : List (Int × Int)} {xs : List V} {C : CL}, OwnL K F xs (ps.map (tupI b)) C → HA F (C ++ U) H → Paired (fun x p => ∃ t, x = V.ref t ∧ SqT K H t [.int p.1, .int p.2]) xs ps := by
  intro ps
  induction ps with
  | nil => intro xs C h ha; cases h; exact .nil
  | cons p r ih =>
    intro xs C h ha
    cases h with
    | @cons v vs _ _ C1 C2 o t =>
      obtain ⟨a, ys, C3, rfl, h2, h3, h4⟩ := Own.seqT (U := C2 ++ U) o (ha.sub fun x => by simp only [cn_append]; omega)
      refine .cons ⟨a, rfl, ?_⟩ (ih t (ha.sub fun x => by simp only [cn_append]; omega))
      cases h3 with
      | cons o1 t1 =>
        cases t1 with
        | cons o2 t2 =>
          cases t2
          obtain ⟨rfl, rfl⟩ := own_int o1
          obtain ⟨rfl, rfl⟩ := own_int o2
          exact h2
theorem OwnL.permg {g : V → D} {xs ys : List V} (h : ys.Perm xs) : ∀ {C : CL}, OwnL K F xs (xs.map g) C → ∃ C', OwnL K F ys (ys.map g) C' ∧ ∀ x, cn x C' = cn x C := by
  induction h with
  | nil => intro C h; exact ⟨C, h, fun _ => rfl⟩
  | cons a _ ih =>
    intro C h
    cases h with
    | cons o t =>
      obtain ⟨C', h1, h2⟩ := ih t
      exact ⟨_, .cons o h1, fun x => by rw [cn_append, cn_append, h2]⟩
  | swap a b l =>
    intro C h
    cases h with
    | cons o t =>
      cases t with
      | cons o2 t2 => exact ⟨_, .cons o2 (.cons o t2), fun x => by simp only [cn_append]; omega⟩
  | trans _ _ ih1 ih2 =>
    intro C h
    obtain ⟨C1, h1, e1⟩ := ih2 h
    obtain ⟨C2, h2, e2⟩ := ih1 h1
    exact ⟨C2, h2, fun x => (e2 x).trans (e1 x)⟩
theorem d_sortedP : CallD K (rSortedPX K) dSortedP := by
  intro F U C1 H xs ds z Q hz o ha k
  match ds, hz, o with
  | [.lst ob es], hz, o =>
    obtain ⟨v, C2, rfl, h1, h2⟩ := own1 o
    obtain ⟨c, ys, C3, rfl, h3, h4, h5⟩ := h1.seqL (U := U) (ha.sub fun x => by simp only [cn_append]; have := h2 x; omega)
    have main : ∀ (b : Bool) (ps : List (Int × Int)), prsB b es = some ps → z = .lst true ((sortP ps).map (tupI b)) → rSortedPX K [.ref c] H Q := by
      intro b ps e ez
      subst ez
      have e2 := prsB_is e
      subst e2
      refine ⟨c, ys, ps, rfl, h3.l, pairs_pd (U := U) h4 (ha.sub fun x => by simp only [cn_append]; have := h2 x; have := h5 x; omega), fun zs p kk hk hp hs np => ?_⟩
      have e3 : ps.map (tupI b) = ys.map fun y => tupI b (kk y) := by rw [← hk, List.map_map]; rfl
      rw [e3] at h4
      obtain ⟨C4, h6, h7⟩ := h4.permg hp
      have e4 : (zs.map fun y => tupI b (kk y)) = (sortP ps).map (tupI b) := by
        rw [← sortP_uniq (a := zs.map kk) (by rw [← hk]; exact hp.map kk) hs, List.map_map]
        rfl
      rw [e4] at h6
      exact k _ _ F _ .refl (.lst h6) ((ha.new np _).sub fun x => by simp only [cn_append, cn_cons]; have := h2 x; have := h5 x; have := h7 x; omega)
    change ((prsB true es).map fun ps => D.lst true ((sortP ps).map (tupI true))).or ((prsB false es).map fun ps => D.lst true ((sortP ps).map (tupI false))) = some z at hz
    cases q : prsB true es with
    | some ps =>
      rw [q] at hz
      cases hz
      exact main true ps q rfl
    | none =>
      rw [q] at hz
      obtain ⟨ps, e, rfl⟩ := Option.map_eq_some_iff.mp hz
      exact main false ps e rfl
def dSortedA (ds : List D) : Option D := (dSorted ds).or (dSortedP ds)
theorem c_sortedA (hK : X.K = K) : CallR X (.builtin "sorted") (CR2 (rSorted K) (rSortedPX K)) := by
  subst hK
  exact callr_or (k_sorted rfl) call_sortedPX
theorem d_sortedA : CallD K (CR2 (rSorted K) (rSortedPX K)) dSortedA := calld_or d_sorted d_sortedP
end
end DL
set_option Elab.async false
set_option linter.all false
/-! repr of a whole number -/
namespace DL
open PySem PySem.Spec PyProof.Rows L2 LB
section
variable {X : Cx} {K : PySem.W.Frag}
def rReprI : List V → Hp → VK → Prop := fun xs H Q => ∃ i : Int, xs = [.int i] ∧ i.natAbs.log2 < 1920 ∧ Q (.str (toString i)) H
def dReprI : List D → Option D
  | [.int i] => if i.natAbs.log2 < 1920 then some (.str (D.int i).py.shown) else none
  | _ => none
theorem d_reprI : CallD K rReprI dReprI := by
  intro F U C1 H xs ds z Q hz o ha k
  match ds, hz, o with
  | [.int i], hz, o =>
    obtain ⟨v, C2, rfl, h1, h2⟩ := own1 o
    change (if i.natAbs.log2 < 1920 then some (D.str (D.int i).py.shown) else none) = some z at hz
    split at hz
    · rename_i c
      cases hz
      obtain ⟨rfl, hd⟩ := own_int h1
      exact ⟨i, rfl, c, k _ H F [] .refl (.z (.str _)) (ha.sub fun x => by simp only [cn_append, cn_nil]; omega)⟩
    · cases hz
def dReprA (ds : List D) : Option D := (dRepr ds).or (dReprI ds)
theorem c_reprA {k : Nat} (hK : X.K = K) (hr : Rm k X.A) : CallR X (.builtin "repr") (CR2 (rRepr K) rReprI) := by
  subst hK
  exact callr_or (k_repr rfl hr) SkE.call_repr_int
theorem d_reprA : CallD K (CR2 (rRepr K) rReprI) dReprA := calld_or d_repr d_reprI
/-- a block within a block -/
theorem blkOk_in {N : List Str} {scope1 sc0 scope : Scope} {own : List (Str × Nat)} {cl : List (Str × Addr)} {C : Addr} {env : Env} (he : env.scope = sc0) (h : blkC N (relS scope1 sc0) scope own = true) : BlkOk N (compEnvC scope1 cl C env).scope scope own := by
  subst he
  exact blkOk_by h
end
end DL
set_option Elab.async false
set_option linter.all false
/-! range with a step -/
namespace DL
open PySem PySem.Spec PyProof.Rows L2 LB
section
variable {X : Cx} {K : PySem.W.Frag} {F : Hp} {fas : M (List AR)} {a b c tg : Expr} {pos : Pos}
def rgC (lo st : Int) (n : Nat) : List D := (List.range n).map fun k : Nat => D.int (lo + (k : Nat) * st)
theorem rgC_get {lo st : Int} {n i : Nat} {d : D} (h : (rgC lo st n)[i]? = some d) : d = .int (lo + (i : Nat) * st) ∧ i < n := by
  rw [rgC, List.getElem?_map, Option.map_eq_some_iff] at h
  obtain ⟨j, hj, rfl⟩ := h
  obtain ⟨h1, h2⟩ := List.getElem?_eq_some_iff.mp hj
  rw [List.length_range] at h1
  rw [List.getElem_range] at h2
  subst h2
  exact ⟨rfl, h1⟩
theorem itd_rgC (lo st : Int) (n : Nat) : ItD K F (Itc lo st n) (rgC lo st n) := by
  refine ⟨_, _, by rw [rgC, List.length_map, List.length_range]; exact walk_rangeC, fun _ _ => trivial, fun i H x H' F1 U l ha y hi => ?_⟩
  obtain ⟨rfl, rfl⟩ := y
  rw [rgC, List.length_map, List.length_range] at hi
  exact ⟨F1, .int (lo + (i : Nat) * st), .refl, ha, by simp [rgC, hi], .int _⟩
def rg3 : List AR → S → Option (List D × S)
  | [.inl (.int i), .inl (.int j), .inl (.int c)], s => if c ≠ 0 ∧ c.natAbs < 1073741824 ∧ Builtin.Range.small i j c = true ∧ 0 ≤ Builtin.Range.rangeSize i j c then some (rgC i c (Builtin.Range.rangeSize i j c).toNat, s) else none
  | _, _ => none
def iR3 (fas : M (List AR)) : M (List D) := fun s => (fas s).bind fun a => rg3 a.1 a.2
theorem i_range3 {p0 : Pos} (hg : Gl X "range") (hm : X.mg "range" = none) (ha : PA X [a, b, c] (tFA K fas)) (hs : starEach [a, b, c] X.env = (false, eval a X.env) :: starEach [b, c] X.env := by rfl) (hpl : (backTo pos (starEach [b, c] X.env)).any (·.1) = false := by rfl) :
    PI X tg (.Call (.Name "range" p0) [a, b, c] [] pos) (tIF K (iR3 fas)) := pi_same (pi_range3 hg hm ha hs hpl) fun σ H Q z => by
  obtain ⟨p, F, R, s, r, s', hr, e, k⟩ := z
  obtain ⟨⟨as, s1⟩, ex, e⟩ := Option.bind_eq_some_iff.mp e
  refine ⟨p, F, R, s, as, s1, hr, ex, fun vs H1 F1 C1 l1 o1 r1 => ?_⟩
  match as, o1, e with
  | [.inl (.int i), .inl (.int j), .inl (.int c)], .d o (.d o' (.d o'' .nil)), e =>
    obtain ⟨rfl, rfl⟩ := own_int o
    obtain ⟨rfl, rfl⟩ := own_int o'
    obtain ⟨rfl, rfl⟩ := own_int o''
    change (if c ≠ 0 ∧ c.natAbs < 1073741824 ∧ Builtin.Range.small i j c = true ∧ 0 ≤ Builtin.Range.rangeSize i j c then some (rgC i c (Builtin.Range.rangeSize i j c).toNat, s1) else none) = some (r, s') at e
    split at e
    · rename_i hb
      cases e
      exact ⟨i, j, c, _, rfl, ⟨hb.1, hb.2.1, hb.2.2.1, by have := hb.2.2.2; omega⟩, k _ H1 F1 l1 r1 (itd_rgC _ _ _)⟩
    · cases e
end
end DL
set_option Elab.async false
set_option linter.all false
set_option maxRecDepth 100000
set_option maxHeartbeats 2000000
/-! x in l, where the items are data of any depth -/
namespace DL
open PySem PySem.Spec PyProof.Rows L2 LB
theorem Rm65 {k : Nat} {A : Around} (h : Rm k A) : A.units + 65 < cLine := by have := h.r.un; omega
def dInN (neg : Bool) : D → D → Option D
  | d, .lst o ds => if d.shp = true ∧ (D.lst o ds).shp = true then some (.bl (if neg = true then !ds.any (fun z => z.eqv d) else ds.any fun z => z.eqv d)) else none
  | _, _ => none
theorem dInN_is {neg : Bool} {d : D} {o : Bool} {ds : List D} : dInN neg d (.lst o ds) = if d.shp = true ∧ (D.lst o ds).shp = true then some (.bl (if neg = true then !ds.any (fun z => z.eqv d) else ds.any fun z => z.eqv d)) else none := by
  unfold dInN
  rfl
theorem pyL_any (p : PyData → Bool) : ∀ ds : List D, (D.pyL ds).any p = ds.any fun z => p z.py
  | [] => rfl
  | d :: ds => by rw [D.pyL, List.any_cons, List.any_cons, pyL_any p ds]
section
variable {X : Cx} {K : PySem.W.Frag}
theorem k_inD (hK : X.K = K) (hu : X.A.units + 65 < cLine) : OpR X (compareOp .In) (rInD K) := by subst hK; exact op_inD hu
theorem k_notInD (hK : X.K = K) (hu : X.A.units + 65 < cLine) : OpR X (compareOp .NotIn) (rNotInD K) := by subst hK; exact op_notInD hu
theorem d_inN : OpD K (rInD K) (dInN false) := by
  intro F U C1 C2 H x y d e z Q hz o1 o2 ha k
  obtain ⟨o, ds, rfl⟩ : ∃ o ds, e = .lst o ds := by cases e <;> first | exact ⟨_, _, rfl⟩ | cases hz
  rw [dInN_is] at hz
  by_cases c : d.shp = true ∧ (D.lst o ds).shp = true
  · rw [if_pos c] at hz
    injection hz with hz
    subst hz
    refine ⟨d.py, D.pyL ds, o1.dp ha (SeqAt.canLay_of_shaped c.1), o2.dp (U := C1 ++ U) (ha.sub fun x => by simp only [cn_append]; omega) (SeqAt.canLay_of_shaped c.2), c.1, c.2, ?_⟩
    rw [pyL_any]
    exact k _ H F [] .refl (.z (.bl _)) (ha.sub fun x => by simp only [cn_append, cn_nil]; omega)
  · rw [if_neg c] at hz
    cases hz
theorem d_notInN : OpD K (rNotInD K) (dInN true) := by
  intro F U C1 C2 H x y d e z Q hz o1 o2 ha k
  obtain ⟨o, ds, rfl⟩ : ∃ o ds, e = .lst o ds := by cases e <;> first | exact ⟨_, _, rfl⟩ | cases hz
  rw [dInN_is] at hz
  by_cases c : d.shp = true ∧ (D.lst o ds).shp = true
  · rw [if_pos c] at hz
    injection hz with hz
    subst hz
    refine ⟨d.py, D.pyL ds, o1.dp ha (SeqAt.canLay_of_shaped c.1), o2.dp (U := C1 ++ U) (ha.sub fun x => by simp only [cn_append]; omega) (SeqAt.canLay_of_shaped c.2), c.1, c.2, ?_⟩
    rw [pyL_any]
    exact k _ H F [] .refl (.z (.bl _)) (ha.sub fun x => by simp only [cn_append, cn_nil]; omega)
  · rw [if_neg c] at hz
    cases hz
end
end DL
set_option Elab.async false
set_option linter.all false
set_option maxRecDepth 100000
set_option maxHeartbeats 2000000
/-! slots that are frozen for the time of a statement (held as parameters, so that the locals are known to stay) -/
namespace DL
open PySem PySem.Spec PyProof.Rows L2 LB
def Sl.pz : Sl → Sl
  | .va d => .pn d.frz
  | .pn d => .pn d.frz
  | .no => .no
def Sl.back (x : Sl) : Sl → Sl
  | .pn _ => x
  | _ => .no
def pmask : List Bool → S → S
  | true :: ms, x :: s => x.pz :: pmask ms s
  | false :: ms, x :: s => x :: pmask ms s
  | _, s => s
def pmerge : List Bool → S → S → S
  | true :: ms, x :: s, y :: t => x.back y :: pmerge ms s t
  | false :: ms, _ :: s, y :: t => y :: pmerge ms s t
  | _, _, t => t
def pfull : List Bool → S → Bool
  | true :: ms, _ :: t => pfull ms t
  | false :: ms, y :: t => y.full && pfull ms t
  | _, t => t.all Sl.full
def pout (ms : List Bool) (s : S) : Out → Option Out
  | .nx t => if pfull ms t = true then some (.nx (pmerge ms s t)) else none
  | .rt r t => if r.full = true ∧ pfull ms t = true then some (.rt r (pmerge ms s t)) else none
  | .bk t => if pfull ms t = true then some (.bk (pmerge ms s t)) else none
  | .ct t => if pfull ms t = true then some (.ct (pmerge ms s t)) else none
def sSc (ms : List Bool) (f : S → Option Out) : S → Option Out := fun s => (f (pmask ms s)).bind (pout ms s)
section
variable {K : PySem.W.Frag} {F : Hp}
theorem slots_full {F2 : Hp} {σ p : L2.St} {t : S} {C : CL} (h : Slots K F2 σ p t C) : t.all Sl.full = true → Slots K F σ p t C := by
  induction h with
  | nil => exact fun _ => .nil
  | no _ ih => exact fun f => .no (ih (by simpa [Sl.full] using f))
  | va o _ ih =>
    intro f
    rw [List.all_cons, Bool.and_eq_true] at f
    exact .va (o.full f.1) (ih f.2)
  | pn o _ ih =>
    intro f
    rw [List.all_cons, Bool.and_eq_true] at f
    exact .pn (o.full f.1) (ih f.2)
structure PmOk (K : PySem.W.Frag) (F : Hp) (σ p : L2.St) (s : S) (C : CL) (ms : List Bool) (p' : L2.St) (C1 C2 : CL) : Prop where
  c : ∀ x, cn x C = cn x C1 + cn x C2
  i : ∀ F', Le F F' → (∀ x ∈ C1, F' x.1 = some x.2) → Slots K F' σ p' (pmask ms s) C2
  f : ∀ σ' t C2' F2, Slots K F2 σ' p' t C2' → pfull ms t = true → ∃ C', Slots K F σ' p (pmerge ms s t) C' ∧ ∀ x, cn x C' ≤ cn x C1 + cn x C2'
theorem live_ok {F2 : Hp} {y : Option V} {σ' p'' p : L2.St} {t : S} {C2' : CL} (h : Slots K F2 σ' (y :: p'') t C2') : ∃ x σ2 sl t2 D2, σ' = x :: σ2 ∧ t = sl :: t2 ∧ Slots K F2 σ2 p'' t2 D2 ∧ (∀ x, cn x D2 ≤ cn x C2') ∧ (sl.full = true → ∀ (s : S) (C' : CL), Slots K F σ2 p s C' → (∀ x, cn x C' ≤ cn x C' + 0) → ∃ D, Slots K F (x :: σ2) (y :: p) (sl :: s) (D ++ C') ∧ ∀ x, cn x D + cn x D2 ≤ cn x C2') := by
  cases h with
  | no h => exact ⟨_, _, _, _, _, rfl, rfl, h, fun x => Nat.le_refl _, fun _ s C' q _ => ⟨[], .no q, fun x => by rw [cn_nil]; omega⟩⟩
  | va o h => exact ⟨_, _, _, _, _, rfl, rfl, h, fun x => by rw [cn_append]; omega, fun f s C' q _ => ⟨_, .va (o.full f) q, fun x => by rw [cn_append]; omega⟩⟩
  | pn o h => exact ⟨_, _, _, _, _, rfl, rfl, h, fun x => by rw [cn_append]; omega, fun f s C' q _ => ⟨_, .pn (o.full f) q, fun x => by rw [cn_append]; omega⟩⟩
theorem PmOk.live {y : Option V} {x : Option V} {sl : Sl} {σ p p' : L2.St} {s : S} {C C1 C2 D : CL} {ms : List Bool} (q : PmOk K F σ p s C ms p' C1 C2)
    (hi : ∀ F' t C, Le F F' → Slots K F' σ p' t C → Slots K F' (x :: σ) (y :: p') (sl :: t) (D ++ C)) : PmOk K F (x :: σ) (y :: p) (sl :: s) (D ++ C) (false :: ms) (y :: p') C1 (D ++ C2) := by
  refine ⟨fun x => by rw [cn_append, cn_append, q.c]; omega, fun F' l hc => hi F' _ _ l (q.i F' l hc), fun σ' t C2' F2 h hf => ?_⟩
  obtain ⟨x2, σ2, sl2, t2, D2, rfl, rfl, h2, h3, h4⟩ := live_ok (F := F) (p := p) h
  have hf2 : sl2.full = true ∧ pfull ms t2 = true := by
    have : (sl2.full && pfull ms t2) = true := hf
    simpa using this
  obtain ⟨C', h5, h6⟩ := q.f _ _ _ _ h2 hf2.2
  obtain ⟨D', h7, h8⟩ := h4 hf2.1 _ _ h5 (fun x => by omega)
  refine ⟨D' ++ C', h7, fun x => ?_⟩
  rw [cn_append]
  have := h6 x; have := h8 x
  omega
theorem PmOk.held {y : Option V} {v : V} {sl : Sl} {d : D} {σ p p' : L2.St} {s : S} {C C1 C2 D1 : CL} {ms : List Bool} (q : PmOk K F σ p s C ms p' C1 C2) (hz : sl.pz = .pn d.frz) (o : Own K F v d D1)
    (hb : ∀ σ' t C, Slots K F σ' p t C → Slots K F (some v :: σ') (y :: p) (sl :: t) (D1 ++ C)) : PmOk K F (some v :: σ) (y :: p) (sl :: s) (D1 ++ C) (true :: ms) (some v :: p') (D1 ++ C1) C2 := by
  refine ⟨fun x => by rw [cn_append, cn_append, q.c]; omega, fun F' l hc => ?_, fun σ' t C2' F2 h hf => ?_⟩
  · show Slots K F' (some v :: σ) (some v :: p') (sl.pz :: pmask ms s) C2
    rw [hz]
    exact .pn (C1 := []) (.z (o.frz l fun x hx => hc x (List.mem_append_left _ hx))) (q.i F' l fun x hx => hc x (List.mem_append_right _ hx))
  · cases h with
    | no h =>
      obtain ⟨C', h5, h6⟩ := q.f _ _ _ _ h hf
      exact ⟨C', .no h5, fun x => by rw [cn_append]; have := h6 x; omega⟩
    | va o' h =>
      obtain ⟨C', h5, h6⟩ := q.f _ _ _ _ h hf
      exact ⟨C', .no h5, fun x => by rw [cn_append, cn_append]; have := h6 x; omega⟩
    | pn o' h =>
      obtain ⟨C', h5, h6⟩ := q.f _ _ _ _ h hf
      exact ⟨D1 ++ C', hb _ _ _ h5, fun x => by rw [cn_append, cn_append, cn_append]; have := h6 x; omega⟩
theorem pmask_ok {σ p : L2.St} {s : S} {C : CL} (h : Slots K F σ p s C) : ∀ ms, ∃ p' C1 C2, PmOk K F σ p s C ms p' C1 C2 := by
  have emp : ∀ {σ p : L2.St} {s : S} {C : CL}, Slots K F σ p s C → ∃ p' C1 C2, PmOk K F σ p s C [] p' C1 C2 := fun {σ p s C} h =>
    ⟨p, [], C, fun x => by rw [cn_nil]; omega, fun F' l _ => by rw [show pmask [] s = s by cases s <;> rfl]; exact h.mono l, fun σ' t C2' F2 h2 hf => ⟨C2', by
      rw [show pmerge [] s t = t by cases s <;> rfl]
      exact slots_full h2 (by rw [show pfull [] t = t.all Sl.full by cases t <;> rfl] at hf; exact hf), fun x => by omega⟩⟩
  induction h with
  | nil =>
    intro ms
    refine ⟨[], [], [], fun x => rfl, fun F' _ _ => ?_, fun σ' t C2' F2 h hf => ?_⟩
    · rw [show pmask ms [] = [] by rcases ms with _ | ⟨b, ms⟩ <;> first | rfl | (cases b <;> rfl)]
      exact .nil
    · cases h
      rw [show pmerge ms [] [] = [] by rcases ms with _ | ⟨b, ms⟩ <;> first | rfl | (cases b <;> rfl)]
      exact ⟨[], .nil, fun x => by omega⟩
  | @no x y σ p s Cr h ih =>
    intro ms
    cases ms with
    | nil => exact emp (.no h)
    | cons b ms =>
      obtain ⟨p', C1, C2, q⟩ := ih ms
      cases b with
      | false => exact ⟨_, _, _, q.live (D := []) fun F' t C l h => .no h⟩
      | true =>
        refine ⟨y :: p', C1, C2, q.c, fun F' l hc => .no (q.i F' l hc), fun σ' t C2' F2 h hf => ?_⟩
        obtain ⟨x2, σ2, sl2, t2, D2, rfl, rfl, h2, h3, _⟩ := live_ok (F := F) (p := p) h
        obtain ⟨C', h5, h6⟩ := q.f _ _ _ _ h2 hf
        refine ⟨C', ?_, fun x => by have := h6 x; have := h3 x; omega⟩
        show Slots K F _ _ (Sl.back .no sl2 :: pmerge ms s t2) C'
        rw [show Sl.back .no sl2 = .no by cases sl2 <;> rfl]
        exact .no h5
  | @va v d y σ p s D1 Cr o h ih =>
    intro ms
    cases ms with
    | nil => exact emp (.va o h)
    | cons b ms =>
      obtain ⟨p', C1, C2, q⟩ := ih ms
      cases b with
      | false => exact ⟨_, _, _, q.live fun F' t C l h => .va (o.mono l) h⟩
      | true => exact ⟨_, _, _, q.held rfl o fun σ' t C h => .va o h⟩
  | @pn v d σ p s D1 Cr o h ih =>
    intro ms
    cases ms with
    | nil => exact emp (.pn o h)
    | cons b ms =>
      obtain ⟨p', C1, C2, q⟩ := ih ms
      cases b with
      | false => exact ⟨_, _, _, q.live fun F' t C l h => .pn (o.mono l) h⟩
      | true => exact ⟨_, _, _, q.held rfl o fun σ' t C h => .pn o h⟩
end
section
variable {X : Cx} {K : PySem.W.Frag} {st : Stmt} {f : S → Option Out}
theorem tS_sc (ms : List Bool) {E : Ends} {σ : L2.St} {H : Hp} (z : tSF K (sSc ms f) E σ H) : tSF K f E σ H := by
  obtain ⟨p, F, R, s, o, ⟨C, hs, ha⟩, e, k⟩ := z
  obtain ⟨o1, e1, e2⟩ := Option.bind_eq_some_iff.mp e
  obtain ⟨p', C1, C2, q⟩ := pmask_ok hs ms
  have ha1 : HA F (C1 ++ (C2 ++ R)) H := ha.sub fun x => by simp only [cn_append, q.c]; omega
  obtain ⟨h1, l1, c1, n1⟩ := ha1.frz
  have back : ∀ t σ' H' F' Cr, Le (adj F C1) F' → pfull ms t = true → Rel K p' F' (Cr ++ R) σ' H' t → Rel K p F (Cr ++ R) σ' H' (pmerge ms s t) := by
    intro t σ' H' F' Cr l c hr
    obtain ⟨C2', ht, hat⟩ := hr
    obtain ⟨C', h2, h3⟩ := q.f σ' t C2' F' ht c
    have h4 : HA F (C1 ++ (C2' ++ (Cr ++ R))) H' := hat.unfrz (l1.trans l) (fun x hx => ⟨l _ _ (c1 x hx).1, (c1 x hx).2⟩) n1
    exact ⟨C', h2, h4.sub fun x => by simp only [cn_append]; have := h3 x; omega⟩
  refine ⟨p', adj F C1, R, pmask ms s, o1, ⟨C2, q.i _ l1 fun x hx => (c1 x hx).1, h1⟩, e1, ?_⟩
  cases o1 with
  | nx t =>
    change (if pfull ms t = true then some (Out.nx (pmerge ms s t)) else none) = some o at e2
    by_cases c : pfull ms t = true
    · rw [if_pos c] at e2
      cases e2
      exact fun σ' H' F' l hr => k σ' H' F .refl (back t σ' H' F' [] l c hr)
    · rw [if_neg c] at e2; cases e2
  | rt r t =>
    change (if r.full = true ∧ pfull ms t = true then some (Out.rt r (pmerge ms s t)) else none) = some o at e2
    by_cases c : r.full = true ∧ pfull ms t = true
    · rw [if_pos c] at e2
      cases e2
      exact fun v σ' H' F' Cr l ow hr => k v σ' H' F Cr .refl (ow.full c.1) (back t σ' H' F' Cr l c.2 hr)
    · rw [if_neg c] at e2; cases e2
  | bk t =>
    change (if pfull ms t = true then some (Out.bk (pmerge ms s t)) else none) = some o at e2
    by_cases c : pfull ms t = true
    · rw [if_pos c] at e2
      cases e2
      exact fun σ' H' F' l hr => k σ' H' F .refl (back t σ' H' F' [] l c hr)
    · rw [if_neg c] at e2; cases e2
  | ct t =>
    change (if pfull ms t = true then some (Out.ct (pmerge ms s t)) else none) = some o at e2
    by_cases c : pfull ms t = true
    · rw [if_pos c] at e2
      cases e2
      exact fun σ' H' F' l hr => k σ' H' F .refl (back t σ' H' F' [] l c hr)
    · rw [if_neg c] at e2; cases e2
theorem s_psc (ms : List Bool) (h : PS X st (tSF K f)) : PS X st (tSF K (sSc ms f)) := ps_same h fun E σ H z => tS_sc ms z
end
end DL
set_option Elab.async false
set_option linter.all false
set_option maxRecDepth 100000
set_option maxHeartbeats 2000000
set_option exponentiation.threshold 600
/-! {k: v for ..}, keys ints, values flat -/
namespace DL
open PySem PySem.Spec PyProof.Rows L2 LB
section
variable {J : It} {n : Nat} {G : Hp → Prop} {Y : Nat → Hp → V → Hp → Prop}
theorem dc_it (w : Walk J n G Y) {g : TG} {tt : TT} {tk te : TE} {vs : List Nat} {σ : L2.St} {H1 : Hp} {D : Addr} {Qd : Hp → Prop} (Pv : Nat → Hp → Prop) (h0 : Pv 0 (upd H1 D (.dK []))) (hG : ∀ i H, i ≤ n → Pv i H → G H)
    (hs : ∀ i x H H', i < n → Pv i H → Y i H x H' → g x (wipe σ vs) H' fun σ2 H2 => wipe σ2 vs = wipe σ vs ∧ tt σ2 H2 fun b H3 =>
      if b = true then tk σ2 H3 fun y H4 => te σ2 H4 fun z H5 => ∃ kvs k, y = kV k ∧ H5 D = some (.dK kvs) ∧ kvs.length < sizeLine ∧ Pv (i + 1) (upd H5 D (.dK (putK kvs k z))) else Pv (i + 1) H3) (hd : ∀ H, Pv n H → Qd H) :
    ∃ W : Nat → Nat → Hp → Prop, (∃ m, W 0 m (upd H1 D (.dK []))) ∧ ∀ i m H, W i m H →
      (J.stop i H ∧ Qd H) ∨ (J.go i H ∧ ∃ Nx : Hp → Prop, (∀ H', Nx H' → ∃ m', m' < m ∧ W (i + 1) m' H') ∧ ∀ x H', J.yld i H x H' → g x (wipe σ vs) H' fun σ2 H2 => wipe σ2 vs = wipe σ vs ∧ tt σ2 H2 fun b H3 =>
        if b = true then tk σ2 H3 fun y H4 => te σ2 H4 fun z H5 => ∃ kvs k, y = kV k ∧ H5 D = some (.dK kvs) ∧ kvs.length < sizeLine ∧ Nx (upd H5 D (.dK (putK kvs k z))) else Nx H3) := by
  refine ⟨fun i m H => m = n - i ∧ i ≤ n ∧ Pv i H, ⟨n, by simp, Nat.zero_le _, h0⟩, ?_⟩
  rintro i m H ⟨rfl, hi, p⟩
  have q := hG i H hi p
  by_cases hlt : i < n
  · refine .inr ⟨w.goes i H hlt q, Pv (i + 1), fun H' p' => ⟨n - (i + 1), by omega, rfl, hlt, p'⟩, fun x H' y => hs i x H H' hlt p (w.yields i H x H' hlt q y)⟩
  · have e : i = n := by omega
    subst e
    exact .inl ⟨w.stops H q, hd H p⟩
end
section
variable {X : Cx} {K : PySem.W.Frag} {e a b tg : Expr} {fe fk : M D} {pos : Pos} {ft : M Bool} {p : L2.St} {F F' : Hp} {js : List Nat} {fg : D → S → Option S}
def dcGo (fg : D → S → Option S) (ft : M Bool) (fk fe : M D) (vs : List Nat) : List D → S → KD → Option (KD × S)
  | [], s, acc => some (acc, s)
  | d :: ds, s, acc => (fg d (wipeS vs s)).bind fun s1 => (ft s1).bind fun t => if t.1 = true then (fk t.2).bind fun k => (asI k.1).bind fun i => (fe k.2).bind fun r => if r.1.flat = true then dcGo fg ft fk fe vs ds r.2 (putD acc i r.1) else none else dcGo fg ft fk fe vs ds t.2 acc
def fDc (fi : M (List D)) (fg : D → S → Option S) (ft : M Bool) (fk fe : M D) (vs : List Nat) : M D := fun s => (fi s).bind fun x => if x.1.length ≤ mx then (dcGo fg ft fk fe vs x.1 x.2 []).map fun q => (.dct true q.1, wipeS vs q.2) else none
theorem put_len {acc : KD} {i : Int} {d : D} : (putD acc i d).length ≤ acc.length + 1 := by
  have h := length_putK (KD.v acc) (.inl i) d.flV
  rw [put_v] at h
  unfold KD.v at h
  rw [List.length_map, List.length_map] at h
  exact h
theorem tF_dc {fi : M (List D)} {vs : List Nat} (hj : ∀ j ∈ js, j ∈ vs) {σ : L2.St} {H : Hp} {Q : VK} (z : tF K (fDc fi fg ft fk fe vs) σ H Q) : tDc (tIF K fi) (tGF K js fg) (tFT K ft) (tF K fk) (tF K fe) vs σ H Q := by
  obtain ⟨p, F, R, s, r, s', hr, e, k⟩ := z
  obtain ⟨⟨ds, s1⟩, ex, e⟩ := Option.bind_eq_some_iff.mp e
  change (if ds.length ≤ mx then (dcGo fg ft fk fe vs ds s1 []).map fun q => (D.dct true q.1, wipeS vs q.2) else none) = some (r, s') at e
  split at e
  rotate_left
  · cases e
  rename_i hl
  obtain ⟨⟨out, s9⟩, eg, e⟩ := Option.map_eq_some_iff.mp e
  cases e
  refine ⟨p, F, R, s, ds, s1, hr, ex, fun J H1 F1 l1 ⟨C1, hs1, ha1⟩ hJ A nA => ?_⟩
  obtain ⟨G, Y, w, hG, hY⟩ := hJ
  refine dc_it w (fun i H => ∃ F' si acc Cs, Le F1 F' ∧ Slots K F' σ p (wipeS vs si) Cs ∧ KD.fl acc = true ∧ HA F' ((A, .dK (KD.v acc)) :: (Cs ++ R)) H ∧ acc.length ≤ i ∧
    dcGo fg ft fk fe vs (ds.drop i) si acc = some (out, s9)) ?_ ?_ ?_ ?_
  · obtain ⟨C', h2, h3⟩ := hs1.wipe vs
    exact ⟨F1, s1, [], C', .refl, h2, rfl, (ha1.new nA (.dK [])).sub fun x => by simp only [cn_append, cn_cons, cn_nil, KD.v, List.map_nil]; have := h3 x; omega, Nat.le_refl _, by simpa using eg⟩
  · rintro i H _ ⟨F', si, acc, Cs, l, hs, hacc, ha, _⟩
    exact hG H (l.trans ha.fr)
  · rintro i x H H' hi ⟨F', si, acc, Cs, l, hs, hacc, ha, hn, hgo⟩ y
    obtain ⟨F2, d, l2, h2, hd, dd⟩ := hY i H x H' F' _ l ha y hi
    rw [List.drop_eq_getElem_cons hi] at hgo
    have hd' : ds[i] = d := by rw [List.getElem?_eq_getElem hi] at hd; exact Option.some.inj hd
    rw [hd', dcGo] at hgo
    obtain ⟨s2, e2, hgo⟩ := Option.bind_eq_some_iff.mp hgo
    obtain ⟨⟨tb, s3⟩, e3, hgo⟩ := Option.bind_eq_some_iff.mp hgo
    have hs' : Slots K F2 (wipe σ vs) p (wipeS vs si) Cs := (hs.mono l2).wiped (wipe_length _ _) fun i hi => by rw [wipe_get, if_neg hi]
    refine ⟨p, F2, (A, .dK (KD.v acc)) :: R, wipeS vs si, d, [], s2, .z dd, ⟨Cs, hs', h2.sub fun x => by simp only [cn_append, cn_cons, cn_nil]; omega⟩, e2, fun σ3 H3 F3 l3 r3 n3 q3 => ?_⟩
    have q3' : ∀ i, i ∉ vs → σ3[i]? = σ[i]? := fun i hi => by rw [q3 i fun z => hi (hj i z), wipe_get, if_neg hi]
    have n3' : σ3.length = σ.length := n3.trans (wipe_length _ _)
    refine ⟨wipe_eq n3' q3', p, F3, _, s2, tb, s3, r3, e3, fun H4 F4 l4 r4 => ?_⟩
    have l14 : Le F1 F4 := l.trans (l2.trans (l3.trans l4))
    have back : ∀ {F5 : Hp} {s5 : S} {R5 : CL} {H5 : Hp}, Rel K p F5 R5 σ3 H5 s5 → ∃ C', Slots K F5 σ p (wipeS vs s5) C' ∧ HA F5 (C' ++ R5) H5 := by
      rintro F5 s5 R5 H5 ⟨C5, hs5, ha5⟩
      obtain ⟨C', h6, h7⟩ := hs5.wipe vs
      exact ⟨C', h6.wiped n3'.symm fun i hi => (q3' i hi).symm, ha5.sub fun x => by simp only [cn_append]; have := h7 x; omega⟩
    cases tb with
    | true =>
      refine iteT ?_
      change ((fk s3).bind fun k => (asI k.1).bind fun i => (fe k.2).bind fun r => if r.1.flat = true then dcGo fg ft fk fe vs (ds.drop _) r.2 (putD acc i r.1) else none) = some (out, s9) at hgo
      obtain ⟨⟨kd, s4⟩, e4, hgo⟩ := Option.bind_eq_some_iff.mp hgo
      obtain ⟨ki, ek, hgo⟩ := Option.bind_eq_some_iff.mp hgo
      have ekd : kd = .int ki := by
        cases kd <;> first | (cases ek; rfl) | cases ek
      subst ekd
      obtain ⟨⟨r5, s5⟩, e5, hgo⟩ := Option.bind_eq_some_iff.mp hgo
      change (if r5.flat = true then dcGo fg ft fk fe vs (ds.drop (i + 1)) s5 (putD acc ki r5) else none) = some (out, s9) at hgo
      split at hgo
      rotate_left
      · cases hgo
      rename_i hfl
      refine ⟨p, F4, _, s3, .int ki, s4, r4, e4, fun u H5 F5 C5 l5 o5 r5' => ?_⟩
      obtain ⟨rfl, rfl⟩ := own_int o5
      refine ⟨p, F5, _, s4, r5, s5, r5', e5, fun v H6 F6 C6 l6 o6 r6 => ?_⟩
      obtain ⟨C', h6, h7⟩ := back r6
      obtain ⟨rfl, rfl⟩ := own_flV o6 hfl
      have hlen : (KD.v acc).length = acc.length := by unfold KD.v; rw [List.length_map]
      refine ⟨KD.v acc, .inl ki, rfl, (h7.ow (A, .dK (KD.v acc)) (by simp)).1, szl (by rw [hlen]; have : mx = 1000000 := rfl; omega), F6, s5, putD acc ki r5, C', l14.trans (l5.trans l6), h6, put_fl hacc hfl, ?_, by have := put_len (acc := acc) (i := ki) (d := r5); omega, hgo⟩
      rw [put_v]
      have h8 : HA F6 ((A, .dK (KD.v acc)) :: (C' ++ R)) H6 := h7.sub fun x => by simp only [cn_append, cn_cons, cn_nil]; omega
      exact h8.put _
    | false =>
      refine iteF ?_
      change dcGo fg ft fk fe vs (ds.drop (i + 1)) s3 acc = some (out, s9) at hgo
      obtain ⟨C', h6, h7⟩ := back r4
      exact ⟨F4, s3, acc, C', l14, h6, hacc, h7.sub fun x => by simp only [cn_append, cn_cons]; omega, by omega, hgo⟩
  · rintro H ⟨F', si, acc, Cs, l, hs, hacc, ha, hn, hgo⟩
    rw [List.drop_length] at hgo
    cases hgo
    exact k _ H F' _ (l1.trans l) (.dct (ownK_of F' hacc)) ⟨Cs, hs, ha.sub fun x => by simp only [cn_append, cn_cons, cn_nil]; omega⟩
theorem e_dc {kx vx iter : Expr} {ifs : List Expr} {scope : Scope} {own : List (Str × Nat)} {vs : List Nat} {fi : M (List D)} (hv : own.map (·.2) = vs) (hj : ∀ j ∈ js, j ∈ vs) (hc : X.calm = true) (hN : X.N.Nodup) (hi : PI X tg iter (tIF K fi)) (ok : BlkOk X.N X.env.scope scope own)
    (hg : ∀ (s : Shared) (H : Hp) (C : Addr) (cl : List (Str × Addr)) (fp : List Addr), PG (X.blk s H scope (compEnvC scope cl C X.env) fp) tg (tGF K js fg)) (ht : ∀ (s : Shared) (H : Hp) (C : Addr) (cl : List (Str × Addr)) (fp : List Addr), PTs (X.blk s H scope (compEnvC scope cl C X.env) fp) ifs (tFT K ft))
    (hk : ∀ (s : Shared) (H : Hp) (C : Addr) (cl : List (Str × Addr)) (fp : List Addr), PE (X.blk s H scope (compEnvC scope cl C X.env) fp) kx (tF K fk))
    (he : ∀ (s : Shared) (H : Hp) (C : Addr) (cl : List (Str × Addr)) (fp : List Addr), PE (X.blk s H scope (compEnvC scope cl C X.env) fp) vx (tF K fe)) (hs : ∀ x, foldedSetIterable iter X.env x = pure x := by intro _; rfl) :
    PE X (.DictComp kx vx [⟨tg, iter, ifs, 0⟩] scope pos) (tF K (fDc fi fg ft fk fe vs)) := by
  subst hv
  exact pe_same (pe_dc hc hN hi ok hg ht hk he hs) fun σ H Q z => tF_dc hj z
theorem zDc_ex (fi : M (List D)) (fg : D → S → Option S) (ft : M Bool) (fk fe : M D) (vs : List Nat) : ∃ f, f = fDc fi fg ft fk fe vs := ⟨_, rfl⟩
/-- sealed -/
noncomputable def zDc (fi : M (List D)) (fg : D → S → Option S) (ft : M Bool) (fk fe : M D) (vs : List Nat) : M D := Classical.choose (zDc_ex fi fg ft fk fe vs)
theorem zDc_is {fi : M (List D)} {fg : D → S → Option S} {ft : M Bool} {fk fe : M D} {vs : List Nat} : zDc fi fg ft fk fe vs = fDc fi fg ft fk fe vs := Classical.choose_spec (zDc_ex fi fg ft fk fe vs)
theorem e_zdc {fi : M (List D)} {vs : List Nat} (h : PE X e (tF K (fDc fi fg ft fk fe vs))) : PE X e (tF K (zDc fi fg ft fk fe vs)) := by rw [zDc_is]; exact h
end
end DL
set_option Elab.async false
set_option linter.all false
/-! exchanges, one by one -/
namespace LB
open PySem PySem.Spec PyProof.Rows L2
/-- the entries at a place and below have changed places -/
def swapAt (o : List Int) (p : Int) : List Int := (o.set p.toNat (gi o (p + 1))).set (p + 1).toNat (gi o p)
theorem wrongs_mem {g : Int} {sc o : List Int} {p : Int} (h : p ∈ wrongs g sc o) : 0 ≤ p ∧ p + 1 < o.length ∧ beats g sc (gi o (p + 1)) (gi o p) = true := by
  obtain ⟨k, hk, rfl⟩ := List.mem_map.mp h
  obtain ⟨h1, h2⟩ := List.mem_filter.mp hk
  have := List.mem_range.mp h1
  exact ⟨by omega, by omega, h2⟩
theorem mem_wrongs {g : Int} {sc o : List Int} {p : Int} : p ∈ wrongs g sc o ↔ 0 ≤ p ∧ p + 1 < o.length ∧ beats g sc (gi o (p + 1)) (gi o p) = true := by
  refine ⟨wrongs_mem, fun ⟨h0, h1, h2⟩ => ?_⟩
  unfold wrongs
  obtain ⟨k, rfl⟩ : ∃ k : Nat, p = k := ⟨p.toNat, by omega⟩
  exact List.mem_map.mpr ⟨k, List.mem_filter.mpr ⟨List.mem_range.mpr (by omega), h2⟩, rfl⟩
theorem wrongs_len {g : Int} {sc o : List Int} : (wrongs g sc o).length ≤ o.length := by
  unfold wrongs
  rw [List.length_map]
  exact Nat.le_trans (List.length_filter_le _ _) (by rw [List.length_range]; omega)
theorem set2 (x y : Int) (b : List Int) : ∀ a : List Int, ((a ++ x :: y :: b).set a.length y).set (a.length + 1) x = a ++ y :: x :: b
  | [] => rfl
  | z :: a => by
    have ih := set2 x y b a
    simp only [List.cons_append, List.length_cons, List.set_cons_succ, ih]
theorem split2 {o : List Int} {p : Nat} (h : p + 1 < o.length) : o = o.take p ++ gi o p :: gi o (p + 1 : Nat) :: o.drop (p + 2) := by
  rw [gi_nat (by omega : p < o.length), gi_nat h]
  rw [← List.drop_eq_getElem_cons h, ← List.drop_eq_getElem_cons (by omega : p < o.length), List.take_append_drop]
theorem swap_split {o : List Int} {p : Int} (h0 : 0 ≤ p) (h : p + 1 < o.length) : ∃ a x y b, o = a ++ x :: y :: b ∧ swapAt o p = a ++ y :: x :: b ∧ x = gi o p ∧ y = gi o (p + 1) ∧ a.length = p.toNat := by
  obtain ⟨k, rfl⟩ : ∃ k : Nat, p = k := ⟨p.toNat, by omega⟩
  have hk : k + 1 < o.length := by omega
  refine ⟨o.take k, gi o k, gi o (k + 1 : Nat), o.drop (k + 2), split2 hk, ?_, rfl, rfl, by rw [List.length_take]; omega⟩
  have hl : (o.take k).length = k := by rw [List.length_take]; omega
  have e := set2 (gi o k) (gi o (k + 1 : Nat)) (o.drop (k + 2)) (o.take k)
  rw [hl, ← split2 hk] at e
  exact e
/-- one exchange at a wrong place -/
theorem pass_step {g : Int} (hg : 1 ≤ g) {sc o : List Int} {f : Int → Nat} {p : Int} (hp : p ∈ wrongs g sc o) (k : Keeps g sc f o) : Keeps g sc f (swapAt o p) ∧ inv g sc o = inv g sc (swapAt o p) + 1 ∧ (swapAt o p).Perm o := by
  obtain ⟨h0, h1, h2⟩ := wrongs_mem hp
  obtain ⟨a, x, y, b, e1, e2, rfl, rfl, _⟩ := swap_split h0 h1
  refine ⟨?_, ?_, ?_⟩
  · rw [e2]
    refine swap_keeps ?_ h2
    rw [← e1]
    exact k
  · rw [e2]
    refine Eq.trans ?_ (inv_swap hg h2 a)
    rw [← e1]
  · rw [e2]
    refine List.Perm.trans ((List.Perm.swap _ _ b).append_left a) ?_
    rw [← e1]
theorem inv_le (g : Int) (sc : List Int) : ∀ o : List Int, inv g sc o ≤ o.length * o.length
  | [] => Nat.zero_le _
  | x :: r => by
    have ih := inv_le g sc r
    have h := List.length_filter_le (fun z => beats g sc z x) r
    rw [inv, List.length_cons, Nat.add_mul, Nat.mul_add]
    omega
theorem inv_le28 (g : Int) (sc : List Int) {o : List Int} (h : o.length ≤ 28) : inv g sc o ≤ 784 :=
  Nat.le_trans (inv_le g sc o) (Nat.le_trans (Nat.mul_le_mul h h) (by decide))
/-- how many exchanges settle an order -/
def passes (g : Int) (sc o : List Int) : Nat := inv g sc o - inv g sc (leftO g sc o)
/-- an order on the way from line to what is left of it -/
structure Way (g : Int) (sc line o : List Int) (m : Nat) : Prop where
  pm : o.Perm line
  kp : Keeps g sc (fun x => line.idxOf x) o
  cn : inv g sc o + m = inv g sc line
theorem Way.start {g : Int} {sc line : List Int} (nd : line.Nodup) : Way g sc line line 0 := ⟨.refl _, (idxOf_rises nd).keeps, rfl⟩
theorem Way.step {g : Int} (hg : 1 ≤ g) {sc line o : List Int} {m : Nat} (w : Way g sc line o m) {p : Int} (hp : p ∈ wrongs g sc o) : Way g sc line (swapAt o p) (m + 1) := by
  obtain ⟨a, b, c⟩ := pass_step hg hp w.kp
  exact ⟨c.trans w.pm, a, by have := w.cn; omega⟩
theorem Way.stop {g : Int} (hg : 1 ≤ g) {sc line o : List Int} (nd : line.Nodup) {m : Nat} (w : Way g sc line o m) (h : wrongs g sc o = []) : o = leftO g sc line ∧ m = passes g sc line := by
  have e : o = leftO g sc line := left_is hg (idxOf_rises nd) w.pm (wrongs_nil.mp h) w.kp
  subst e
  refine ⟨rfl, ?_⟩
  have := w.cn
  unfold passes
  omega
theorem leftO_id {g : Int} (hg : 1 ≤ g) {sc o : List Int} (nd : o.Nodup) (h : wrongs g sc o = []) : leftO g sc o = o := ((Way.start nd).stop hg nd h).1.symm
theorem inv_calm {g : Int} (hg : 1 ≤ g) {sc line o : List Int} (nd : line.Nodup) {m : Nat} (w : Way g sc line o m) : inv g sc (leftO g sc line) ≤ inv g sc o := by
  induction hn : inv g sc o using Nat.strongRecOn generalizing o m with
  | _ n ih =>
    by_cases h : wrongs g sc o = []
    · rw [(w.stop hg nd h).1] at hn
      omega
    · obtain ⟨p, hp⟩ := List.exists_mem_of_ne_nil _ h
      have w2 := w.step hg hp
      have := (pass_step hg hp w.kp).2.1
      have := ih _ (by omega) w2 rfl
      omega
/-- before the last exchange there is a wrong place -/
theorem Way.more {g : Int} (hg : 1 ≤ g) {sc line o : List Int} (nd : line.Nodup) {m : Nat} (w : Way g sc line o m) (h : m < passes g sc line) : wrongs g sc o ≠ [] := fun e => by
  have := (w.stop hg nd e).2
  omega
theorem Way.left {g : Int} (hg : 1 ≤ g) {sc line o : List Int} (nd : line.Nodup) {m : Nat} (w : Way g sc line o m) : leftO g sc o = leftO g sc line := by
  have nd2 : o.Nodup := (w.pm.nodup_iff).mpr nd
  refine left_is hg (idxOf_rises nd) ((leftO_perm g sc o).trans w.pm) (leftO_calm hg sc o) ?_
  have key : ∀ (n : Nat) (o2 : List Int) (m2 : Nat), inv g sc o2 = n → Way g sc o o2 m2 → Way g sc line o2 (m + m2) → Keeps g sc (fun x => line.idxOf x) (leftO g sc o) := by
    intro n
    induction n using Nat.strongRecOn with
    | _ n ih =>
      intro o2 m2 hn w1 w2
      by_cases h : wrongs g sc o2 = []
      · rw [← (w1.stop hg nd2 h).1]
        exact w2.kp
      · obtain ⟨p, hp⟩ := List.exists_mem_of_ne_nil _ h
        have := (pass_step hg hp w1.kp).2.1
        exact ih _ (by omega) _ (m2 + 1) rfl (w1.step hg hp) (w2.step hg hp)
  exact key _ o 0 rfl (Way.start nd2) w
end LB
set_option Elab.async false
set_option linter.all false
/-! what stands above in the order that is left: chains of close entries -/
namespace LB
open PySem PySem.Spec PyProof.Rows L2
/-- close, and ahead by the numbers f -/
def Near (g : Int) (sc : List Int) (f : Int → Nat) (line : List Int) (a b : Int) : Prop := a ∈ line ∧ b ∈ line ∧ f a < f b ∧ Close g sc a b
/-- a chain leads from a down to b -/
inductive Ch (g : Int) (sc : List Int) (f : Int → Nat) (line : List Int) : Int → Int → Prop
  | one {a b : Int} : Near g sc f line a b → Ch g sc f line a b
  | more {a b c : Int} : Ch g sc f line a b → Near g sc f line b c → Ch g sc f line a c
theorem Ch.pre {g : Int} {sc line : List Int} {f : Int → Nat} {a b c : Int} (h : Near g sc f line a b) (k : Ch g sc f line b c) : Ch g sc f line a c := by
  induction k with
  | one q => exact .more (.one h) q
  | more _ q ih => exact .more ih q
theorem Ch.mem {g : Int} {sc line : List Int} {f : Int → Nat} {a b : Int} (h : Ch g sc f line a b) : a ∈ line ∧ b ∈ line ∧ f a < f b := by
  induction h with
  | one q => exact ⟨q.1, q.2.1, q.2.2.1⟩
  | more _ q ih => exact ⟨ih.1, q.2.1, Nat.lt_trans ih.2.2 q.2.2.1⟩
/-- by the entry that stands last ahead of it -/
theorem ch_last {g : Int} {sc line : List Int} {f : Int → Nat} {a b : Int} : Ch g sc f line a b ↔ ∃ c, Near g sc f line c b ∧ (a = c ∨ Ch g sc f line a c) := by
  constructor
  · intro h
    cases h with
    | one q => exact ⟨a, q, .inl rfl⟩
    | more h q => exact ⟨_, q, .inr h⟩
  · rintro ⟨c, q, rfl | h⟩
    · exact .one q
    · exact .more h q

instance {g : Int} {sc : List Int} {x y : Int} : Decidable (Close g sc x y) := inferInstanceAs (Decidable (_ ∧ _))
theorem close_iff {g : Int} {sc : List Int} {x y : Int} : Close g sc x y ↔ gi sc x - gi sc y < g ∧ gi sc y - gi sc x < g := by
  unfold Close beats
  rw [decide_eq_false_iff_not, decide_eq_false_iff_not]
  omega
theorem close_symm {g : Int} {sc : List Int} {x y : Int} (h : Close g sc x y) : Close g sc y x := ⟨h.2, h.1⟩
/-- down a calm list to an entry that is not lesser -/
theorem down_ch {g : Int} (hg : 1 ≤ g) {sc line : List Int} {f : Int → Nat} {y : Int} : ∀ (m : List Int) (x t : Int), gi sc t ≤ gi sc x → Calm g sc (t :: m) → Keeps g sc f (x :: m) → (∀ a ∈ x :: m, a ∈ line) → m.getLast? = some y → gi sc x ≤ gi sc y → Ch g sc f line x y
  | [], _, _, _, _, _, _, e, _ => by cases e
  | [z], x, t, h1, c, k, hm, e, h2 => by
    have e : z = y := by simpa using e
    subst e
    have b := (calm_cons.mp c).1
    unfold beats at b
    have b := of_decide_eq_false b
    have hc : Close g sc x z := close_iff.mpr ⟨by omega, by omega⟩
    exact .one ⟨hm x (by simp), hm z (by simp), (List.pairwise_cons.mp k).1 z (by simp) hc, hc⟩
  | z :: w :: m, x, t, h1, c, k, hm, e, h2 => by
    have e : (w :: m).getLast? = some y := by simpa using e
    have b := (calm_cons.mp c).1
    unfold beats at b
    have b := of_decide_eq_false b
    have hy : y ∈ w :: m := List.mem_of_getLast? e
    have kx := List.pairwise_cons.mp k
    have kz : Keeps g sc f (z :: w :: m) := kx.2
    by_cases hz : gi sc z ≤ gi sc x
    · refine down_ch hg (w :: m) x z hz (calm_cons.mp c).2 ?_ (fun a ha => hm a ?_) e h2
      · exact List.pairwise_cons.mpr ⟨fun a ha => kx.1 a (List.mem_cons_of_mem _ ha), (List.pairwise_cons.mp kx.2).2⟩
      · rcases List.mem_cons.mp ha with rfl | ha
        · simp
        · exact List.mem_cons_of_mem _ (List.mem_cons_of_mem _ ha)
    · by_cases hzy : gi sc z ≤ gi sc y
      · have hc : Close g sc x z := close_iff.mpr ⟨by omega, by omega⟩
        have r := down_ch hg (w :: m) z z (Int.le_refl _) (calm_cons.mp c).2 kz (fun a ha => hm a (List.mem_cons_of_mem _ ha)) e hzy
        exact r.pre ⟨hm x (by simp), hm z (by simp), kx.1 z (by simp) hc, hc⟩
      · have hc : Close g sc x y := close_iff.mpr ⟨by omega, by omega⟩
        exact .one ⟨hm x (by simp), hm y (List.mem_cons_of_mem _ (List.mem_cons_of_mem _ hy)), kx.1 y (List.mem_cons_of_mem _ hy) hc, hc⟩
theorem idx_split {l a b : List Int} {x : Int} (nd : l.Nodup) (e : l = a ++ x :: b) : l.idxOf x = a.length := by
  subst e
  have h := List.Nodup.idxOf_getElem nd a.length (by simp)
  simpa using h
theorem idx_lt_split {l : List Int} {x y : Int} (nd : l.Nodup) (hx : x ∈ l) (hy : y ∈ l) (h : l.idxOf x < l.idxOf y) : ∃ a m b, l = a ++ x :: (m ++ y :: b) := by
  obtain ⟨a, r, rfl⟩ := List.append_of_mem hx
  have e := idx_split nd rfl
  have hy2 : y ∈ r := by
    rcases List.mem_append.mp hy with q | q
    · exfalso
      obtain ⟨u, v, rfl⟩ := List.append_of_mem q
      have e2 := idx_split (x := y) (a := u) (b := v ++ x :: r) nd (by simp)
      rw [e, e2] at h
      simp at h
      omega
    · rcases List.mem_cons.mp q with rfl | q
      · omega
      · exact q
  obtain ⟨m, b, rfl⟩ := List.append_of_mem hy2
  exact ⟨a, m, b, rfl⟩
theorem Calm.app {g : Int} {sc : List Int} : ∀ {a b : List Int}, Calm g sc (a ++ b) → Calm g sc b
  | [], _, h => h
  | x :: a, b, h => Calm.app (a := a) (Calm.tail (x := x) h)
theorem Calm.cut {g : Int} {sc : List Int} : ∀ {a b : List Int}, Calm g sc (a ++ b) → Calm g sc a
  | [], _, _ => fun p hp => absurd hp (Nat.not_lt_zero _)
  | [x], _, _ => fun p hp => absurd hp (by simp)
  | x :: y :: a, b, h => by
    have q := calm_cons.mp h
    exact calm_cons.mpr ⟨q.1, Calm.cut (a := y :: a) (b := b) q.2⟩
/-- the order that is left, by places -/
theorem up_ch {g : Int} (hg : 1 ≤ g) {sc line : List Int} (nd : line.Nodup) {x y : Int} (hx : x ∈ line) (hy : y ∈ line) (h : (leftO g sc line).idxOf x < (leftO g sc line).idxOf y) (hs : gi sc x ≤ gi sc y) : Ch g sc (fun z => line.idxOf z) line x y := by
  have pm := leftO_perm g sc line
  have nd2 := pm.nodup_iff.mpr nd
  obtain ⟨a, m, b, e⟩ := idx_lt_split nd2 (pm.mem_iff.mpr hx) (pm.mem_iff.mpr hy) h
  have c := leftO_calm hg sc line
  have k := leftO_keeps (lead := g) (sc := sc) (idxOf_rises nd)
  have hm : ∀ z ∈ leftO g sc line, z ∈ line := fun z hz => pm.mem_iff.mp hz
  rw [e] at c k hm
  have e2 : x :: (m ++ y :: b) = (x :: (m ++ [y])) ++ b := by simp
  have c2 : Calm g sc (x :: (m ++ [y])) := by
    have := c.app
    rw [e2] at this
    exact this.cut
  have k2 : Keeps g sc (fun z => line.idxOf z) (x :: (m ++ [y])) := by
    have := (List.pairwise_append.mp k).2.1
    rw [e2] at this
    exact (List.pairwise_append.mp this).1
  refine down_ch hg (m ++ [y]) x x (Int.le_refl _) c2 k2 (fun z hz => hm z ?_) (by simp) hs
  refine List.mem_append_right _ ?_
  rw [e2]
  exact List.mem_append_left _ hz
theorem near_left {g : Int} {sc line : List Int} (nd : line.Nodup) {a b : Int} (h : Near g sc (fun z => line.idxOf z) line a b) : (leftO g sc line).idxOf a < (leftO g sc line).idxOf b := by
  have pm := leftO_perm g sc line
  have nd2 := pm.nodup_iff.mpr nd
  have k := leftO_keeps (lead := g) (sc := sc) (idxOf_rises nd)
  obtain ⟨ha, hb, hf, hc⟩ := h
  refine Decidable.byContradiction fun q => ?_
  have hne : (leftO g sc line).idxOf a ≠ (leftO g sc line).idxOf b := fun e => by
    have ha2 := List.getElem_idxOf (List.idxOf_lt_length_of_mem (pm.mem_iff.mpr ha))
    have hb2 := List.getElem_idxOf (List.idxOf_lt_length_of_mem (pm.mem_iff.mpr hb))
    have : a = b := by rw [← ha2, ← hb2]; simp only [e]
    subst this
    omega
  obtain ⟨u, m, v, e⟩ := idx_lt_split nd2 (pm.mem_iff.mpr hb) (pm.mem_iff.mpr ha) (by omega)
  rw [e] at k
  have k2 := (List.pairwise_cons.mp (List.pairwise_append.mp k).2.1).1 a (by simp) (close_symm hc)
  omega
theorem ch_left {g : Int} {sc line : List Int} (nd : line.Nodup) {a b : Int} (h : Ch g sc (fun z => line.idxOf z) line a b) : (leftO g sc line).idxOf a < (leftO g sc line).idxOf b := by
  induction h with
  | one q => exact near_left nd q
  | more _ q ih => exact Nat.lt_trans ih (near_left nd q)
theorem idx_inj {l : List Int} {x y : Int} (hx : x ∈ l) (hy : y ∈ l) (e : l.idxOf x = l.idxOf y) : x = y := by
  have h1 := List.getElem_idxOf (List.idxOf_lt_length_of_mem hx)
  have h2 := List.getElem_idxOf (List.idxOf_lt_length_of_mem hy)
  rw [← h1, ← h2]
  simp only [e]
/-- what stands above in the order that is left -/
theorem left_above {g : Int} (hg : 1 ≤ g) {sc line : List Int} (nd : line.Nodup) {x y : Int} (hx : x ∈ line) (hy : y ∈ line) :
    (leftO g sc line).idxOf y < (leftO g sc line).idxOf x ↔ Ch g sc (fun z => line.idxOf z) line y x ∨ (¬ Ch g sc (fun z => line.idxOf z) line y x ∧ ¬ Ch g sc (fun z => line.idxOf z) line x y ∧ gi sc x < gi sc y) := by
  have pm := leftO_perm g sc line
  constructor
  · intro h
    by_cases c : Ch g sc (fun z => line.idxOf z) line y x
    · exact .inl c
    · refine .inr ⟨c, fun c2 => ?_, ?_⟩
      · have := ch_left nd c2
        omega
      · refine Decidable.byContradiction fun q => c (up_ch hg nd hy hx h (by omega))
  · rintro (c | ⟨c1, c2, h⟩)
    · exact ch_left nd c
    · refine Decidable.byContradiction fun q => ?_
      by_cases e : x = y
      · subst e; omega
      · have hne : (leftO g sc line).idxOf x ≠ (leftO g sc line).idxOf y := fun q => e (idx_inj (pm.mem_iff.mpr hx) (pm.mem_iff.mpr hy) q)
        exact c2 (up_ch hg nd hx hy (by omega) (by omega))
/-- how many stand above -/
theorem rank_count : ∀ {l : List Int} {x : Int}, l.Nodup → x ∈ l → l.countP (fun y => decide (l.idxOf y < l.idxOf x)) = l.idxOf x := by
  intro l x nd hx
  obtain ⟨a, b, e⟩ := List.append_of_mem hx
  have ex := idx_split nd e
  rw [ex]
  have h1 : a.countP (fun y => decide ((l).idxOf y < a.length)) = a.length := by
    rw [List.countP_eq_length]
    intro z hz
    obtain ⟨u, v, rfl⟩ := List.append_of_mem hz
    have := idx_split (x := z) (a := u) (b := v ++ x :: b) nd (by rw [e]; simp)
    rw [this]
    simp
  have h2 : b.countP (fun y => decide ((l).idxOf y < a.length)) = 0 := by
    rw [List.countP_eq_zero]
    intro z hz
    obtain ⟨u, v, rfl⟩ := List.append_of_mem hz
    have := idx_split (x := z) (a := a ++ x :: u) (b := v) nd (by rw [e]; simp)
    rw [this]
    simp
  rw [show l.countP (fun y => decide (l.idxOf y < a.length)) = (a ++ x :: b).countP (fun y => decide (l.idxOf y < a.length)) from congrArg (List.countP _) e, List.countP_append, List.countP_cons, h1, h2, ex]
  simp
/-! sets of whole numbers, ascending -/
def insU (x : Int) : List Int → List Int
  | [] => [x]
  | y :: r => if x < y then x :: y :: r else if x = y then y :: r else y :: insU x r
def setI : List Int → List Int
  | [] => []
  | x :: r => insU x (setI r)
theorem mem_insU {x y : Int} : ∀ {l : List Int}, y ∈ insU x l ↔ y = x ∨ y ∈ l
  | [] => by simp [insU]
  | z :: r => by
    rw [insU]
    split
    · simp
    · split
      · subst_vars; simp
      · rw [List.mem_cons, mem_insU, List.mem_cons]
        constructor
        · rintro (h | h | h) <;> simp [h]
        · rintro (h | h | h) <;> simp [h]
theorem mem_setI {y : Int} : ∀ {l : List Int}, y ∈ setI l ↔ y ∈ l
  | [] => by simp [setI]
  | x :: r => by rw [setI, mem_insU, mem_setI, List.mem_cons]
theorem insU_up {x : Int} : ∀ {l : List Int}, l.Pairwise (· < ·) → (insU x l).Pairwise (· < ·)
  | [], _ => by simp [insU]
  | z :: r, h => by
    have hh := List.pairwise_cons.mp h
    rw [insU]
    split
    · refine List.pairwise_cons.mpr ⟨fun w hw => ?_, h⟩
      rcases List.mem_cons.mp hw with rfl | hw
      · assumption
      · have := hh.1 w hw; omega
    · split
      · exact h
      · refine List.pairwise_cons.mpr ⟨fun w hw => ?_, insU_up hh.2⟩
        rcases mem_insU.mp hw with rfl | hw
        · omega
        · exact hh.1 w hw
theorem setI_up : ∀ l : List Int, (setI l).Pairwise (· < ·)
  | [] => List.Pairwise.nil
  | x :: r => insU_up (setI_up r)
theorem up_nodup {l : List Int} (h : l.Pairwise (· < ·)) : l.Nodup := by
  rw [List.nodup_iff_pairwise_ne]
  exact h.imp fun q => by omega
theorem up_same {a b : List Int} (ha : a.Pairwise (· < ·)) (hb : b.Pairwise (· < ·)) (h : ∀ x, x ∈ a ↔ x ∈ b) : a = b :=
  perm_up ((List.perm_ext_iff_of_nodup (up_nodup ha) (up_nodup hb)).mpr h) (ha.imp fun q => by omega) (hb.imp fun q => by omega)
theorem nodup_count {a line : List Int} (nd : a.Nodup) (ndl : line.Nodup) (p : Int → Bool) (h : ∀ y, y ∈ a ↔ y ∈ line ∧ p y = true) : a.length = line.countP p := by
  rw [List.countP_eq_length_filter]
  refine List.Perm.length_eq ((List.perm_ext_iff_of_nodup nd (ndl.filter _)).mpr fun y => ?_)
  rw [h, List.mem_filter]
theorem count_two {line : List Int} {p q : Int → Bool} (h : ∀ y ∈ line, p y = true → q y = false) : line.countP p + line.countP q = line.countP fun y => p y || q y := by
  induction line with
  | nil => rfl
  | cons x r ih =>
    have ih := ih fun y hy => h y (List.mem_cons_of_mem _ hy)
    have hx := h x List.mem_cons_self
    rw [List.countP_cons, List.countP_cons, List.countP_cons, ← ih]
    cases hp : p x with
    | true => simp [hp, hx hp]; omega
    | false => simp [hp]; omega
/-- the place in the order that is left, counted by chains -/
theorem left_place {g : Int} (hg : 1 ≤ g) {sc line a : List Int} (nd : line.Nodup) {x : Int} (hx : x ∈ line) (an : a.Nodup) (ha : ∀ y, y ∈ a ↔ Ch g sc (fun z => line.idxOf z) line y x) (q : Int → Bool)
    (hq : ∀ y ∈ line, q y = true ↔ ¬ Ch g sc (fun z => line.idxOf z) line y x ∧ ¬ Ch g sc (fun z => line.idxOf z) line x y ∧ gi sc x < gi sc y) : a.length + line.countP q = (leftO g sc line).idxOf x := by
  have pm := leftO_perm g sc line
  have nd2 := pm.nodup_iff.mpr nd
  have e1 := nodup_count an nd (fun y => decide (y ∈ a)) (fun y => by
    rw [decide_eq_true_iff]
    exact ⟨fun h => ⟨((ha y).mp h).mem.1, h⟩, fun h => h.2⟩)
  rw [e1, count_two (fun y hy h => Bool.eq_false_iff.mpr fun h2 => ((hq y hy).mp h2).1 ((ha y).mp (of_decide_eq_true h))), ← rank_count nd2 (pm.mem_iff.mpr hx), pm.countP_eq]
  refine List.countP_congr fun y hy => ?_
  rw [decide_eq_true_iff, left_above hg nd hx hy, Bool.or_eq_true, decide_eq_true_iff, ha y, hq y hy]
end LB
set_option Elab.async false
set_option linter.all false
set_option maxRecDepth 100000
set_option maxHeartbeats 4000000
set_option exponentiation.threshold 600
/-! sorted(set(whole numbers)) -/
namespace DL
open PySem PySem.Spec PyProof.Rows L2 LB
section
variable {P : Program} {w : World} {A : Around} {E : Value → Shared → Prop} {s : Shared}
/-- the empty set, as it is made -/
def newSet (w : World) : Obj := { cls := .type "set", dict := none, data := .set #[] 0 (.fresh 0 0 (!w.params.followText "set-order")) }
set_option maxRecDepth 100000 in
set_option maxHeartbeats 3200000 in
/-- set(l), l a list of ints -/
theorem set_of_list {l : Addr} {its : Array Value} {ns : List Int} {Q : Value → Shared → Prop} (calm : A.handled = none) (isl : s.heap.IsList l its) (hin : IntsAre its.toList ns) (few : ns.length + 1 < scanBound)
    (k : ∀ (g : Heap) (tk c : Nat), SetR w g s.heap.objs.size (fun j => decide (j ∈ ns)) c → c ≤ ns.length → (∀ b o, s.heap.get? b = some o → g.get? b = some o) → Q (.ref s.heap.objs.size) { s with heap := g, toks := tk }) :
    wpAny (model P w) A (call (.type "set") [.ref l]) Q E s := by
  have size : its.size = ns.length := by
    have := IntsAre.length hin
    rwa [Array.length_toList] at this
  have ⟨_, _, order⟩ := F.called_set.mro
  have m1 := F.called_set.made
  have m2 := F.called_set.sub
  have m3 := F.called_set.notType
  have m4 := F.called_set.canCreate
  have m5 := F.typeCall_set_1 (.ref l)
  refine wpAny_call (codeAny_of_tree ?_)
  show wpAny _ _ (callAny (.type "set") _) _ _ _
  refine wpAny_pure ⟨Code.quiet_builtin _ (by decide +kernel), codeAny_builtin F.entry_type_call ?_⟩
  rw [Around.under_plain (weight_type_call_type "set" [.ref l] []) rfl]
  repeat (any_goals (first | assumption | wp_step))
  refine codeAny_mono (code_set_led1 (.ref l) (E := E) (Q₁ := fun r z => r = .ref s.heap.objs.size ∧ z = { s with heap := s.heap.push (newSet w) }) ⟨rfl, rfl⟩) fun r z hr => ?_
  match r, hr with
  | .error e, hr => exact hr
  | .ok (.ret obj), hr =>
    obtain ⟨rfl, rfl⟩ := hr
    have at0 : (s.heap.push (newSet w)).get? s.heap.objs.size = some (newSet w) := Heap.get?_push_size _ rfl
    have kind0 : Shared.TypeIs { s with heap := s.heap.push (newSet w) } (.ref s.heap.objs.size) "set" := ⟨_, at0, rfl⟩
    have i1 := F.called_set.init.lookup
    have i2 := F.called_set.init.bind (.ref s.heap.objs.size)
    repeat (any_goals (first | assumption | wp_step))
    refine codeAny_mono (codeAny_call_builtin (R := wants (fun r y => r = .none ∧ ∃ g tk c, y = { s with heap := g, toks := tk } ∧ SetR w g s.heap.objs.size (fun j => decide (j ∈ ns)) c ∧ c ≤ ns.length ∧ (∀ b o, s.heap.get? b = some o → g.get? b = some o)) E)
      F.called_set.init.plain F.entry_set_init (check_set_init_1 kind0 ?_)) fun r y hy => ?_
    · obtain ⟨⟨oc, od, odat, os⟩, ho, e1, n, e2⟩ := isl
      simp only at e1 e2
      subst e1 e2
      have ho1 : (s.heap.push (newSet w)).get? l = some { cls := .type "list", dict := od, data := .seq its n, slots := os } := Heap.get?_push_of_some _ ho
      have isl1 : (s.heap.push (newSet w)).IsList l its := ⟨_, ho1, rfl, n, rfl⟩
      have sub1 := F.sub_list_set
      have sub2 := F.sub_list_frozenset
      have nodict : (Value.type "list" == Value.type "dict") = false := by decide
      unfold Builtin.«set.__init__» noKeywords Builtin.Frozenset.updateFrom
      generalize hit : pyIter = it
      wp_walk
      subst hit
      refine wpAny_pyIter_list isl1 ?_
      refine wpAny_bind (wpAny_runValue ?_)
      have calm3 : A.in1.in1.in1.handled = none := by simp [calm]
      have below : l < s.heap.objs.size := Heap.lt_size ho
      have grown : (s.heap.push (newSet w)).objs.size = s.heap.objs.size + 1 := Heap.size_push ..
      have apart : l ≠ (s.heap.push (newSet w)).objs.size := Nat.ne_of_lt (by rw [grown]; exact Nat.lt_succ_of_lt below)
      have free : s.heap.objs.size ∉ [(s.heap.push (newSet w)).objs.size, l] := by
        simp only [List.mem_cons, List.not_mem_nil, or_false, not_or]
        exact ⟨Nat.ne_of_lt (by rw [grown]; exact Nat.lt_succ_self _), Nat.ne_of_gt below⟩
      have vals : ∀ (i : Nat) (v : Value), its[i]? = some v → ∃ z t, ns[i]? = some z ∧ v = .int z t := fun i v hv => by
        have hi : i < ns.length := by rw [← size]; exact (Array.getElem?_eq_some_iff.mp hv).1
        obtain ⟨t, e⟩ := IntsAre.int_at hin i v (by rw [Array.getElem?_toList]; exact hv)
        refine ⟨ns[i], t, List.getElem?_eq_getElem hi, e.trans ?_⟩
        simp [List.getD_eq_getElem?_getD, hi]
      refine set_update_ints ((Walks.list calm3 _ l apart its).toS) s.heap.objs.size free ns size few vals (its.size - 0) 0 _ (by omega) (Nat.zero_le _) ⟨⟨_, Heap.get?_push_size _ rfl, rfl, rfl⟩, isl1.push _⟩ ⟨0, Nat.le_refl 0, setR_new_at (Heap.get?_push_of_some _ at0)⟩ fun y c moved hc made => ?_
      obtain ⟨g, gg, gd, tk, go⟩ := y
      obtain rfl : gg = s.gens := moved.gens
      obtain rfl : gd = s.drawn := moved.drawn
      obtain rfl : go = s.os := moved.os
      show wpAny _ _ _ _ _ _
      refine wpAny_pure ?_
      show wpAny _ _ (ret Value.none) _ _ _
      refine wpAny_pure ⟨rfl, g, tk, c, rfl, made, by rw [← size]; exact hc, fun b o e => ?_⟩
      have hb : b < s.heap.objs.size := Heap.lt_size e
      refine moved.heap b o ?_ (Heap.get?_push_of_some _ (Heap.get?_push_of_some _ e))
      simp only [List.mem_cons, List.not_mem_nil, or_false, not_or]
      exact ⟨Nat.ne_of_lt hb, Nat.ne_of_lt (by rw [grown]; exact Nat.lt_succ_of_lt hb)⟩
    · match r, hy with
      | .error e, hy => exact hy
      | .ok (.ret r), hy =>
        obtain ⟨rfl, g, tk, c, rfl, a1, a2, a3⟩ := hy
        repeat (any_goals (first | assumption | wp_step))
        exact k _ _ _ a1 a2 a3
end
end DL
set_option Elab.async false
set_option linter.all false
set_option maxRecDepth 100000
set_option maxHeartbeats 4000000
set_option exponentiation.threshold 600
/-! sorted(set(whole numbers)), as an expression -/
namespace DL
open PySem PySem.Spec PyProof.Rows L2 LB
theorem setR_count {w : World} {h : Heap} {a : Addr} {ns : List Int} {c : Nat} (R : SetR w h a (fun j => decide (j ∈ ns)) c) : c = (setI ns).length := by
  obtain ⟨o, es, ep, t, _, _, _, _, nd, hm, _, _, hc, _⟩ := R
  rw [← hc, ← Array.length_toList, ← List.length_map (f := keyOf)]
  refine List.Perm.length_eq ((List.perm_ext_iff_of_nodup nd (up_nodup (setI_up ns))).mpr fun k => ?_)
  rw [← hm k, mem_setI]
  exact decide_eq_true_iff
section
variable {X : Cx} {K : PySem.W.Frag} {a : Expr} {fe : M D} {pos : Pos} {F : Hp}
def tSset (K : PySem.W.Frag) (ta : TE) : TE := fun σ H Q => ta σ H fun x H1 => ∃ (l : Addr) (ns : List Int), x = V.ref l ∧ SqL K H1 l (ns.map V.int) ∧ ns.length ≤ 4000 ∧ (setI ns).length < 64 ∧ ∀ p, H1 p = none → Q (.ref p) (upd H1 p (.lst ((setI ns).map V.int)))
theorem pe_sset {ta : TE} {p p2 q : Pos} (hc : X.calm = true) (g1 : Gl X "sorted") (m1 : X.mg "sorted" = none) (g2 : Gl X "set") (m2 : X.mg "set" = none) (ha : PE X a ta)
    (na : starEach [a] X.env = (false, eval a X.env) :: starEach [] X.env := by rfl) : PE X (.Call (.Name "sorted" p) [.Call (.Name "set" p2) [a] [] q] [] pos) (tSset X.K ta) := by
  refine ⟨fun pins s σ H Q I h => Call_ (ld_blt I g1 m1 PyProof.Rows.boot_sorted ?_)⟩
  refine PyProof.Rows.callWith_builtin1 (PyProof.Rows.args_cons ?_ rfl) rfl rfl
  refine Call_ (ld_blt I g2 m2 PyProof.Rows.boot_set ?_)
  refine PyProof.Rows.callWith_type1 (PyProof.Rows.args_cons (thn (ha.run pins s σ H _ I h) fun v z ⟨x, H1, I1, rx, qx⟩ => PyProof.Rows.args_nil ?_) na) na rfl
  obtain ⟨l, ns, rfl, hs, few, less, kk⟩ := qx
  cases rx
  obtain ⟨its, rv, pl, _⟩ := I1.list hs
  refine set_of_list (I1.ok.hd hc) pl.isList (ns := ns) (by simpa using rv.ints) (by unfold scanBound; omega) fun g tk c R _ old => ?_
  refine PyProof.Rows.args_nil ?_
  have I2 : Inv X pins σ H1 { z with heap := g, toks := tk } := I1.kept old
  rw [setR_count R] at R
  have R2 : SetR X.w ({ z with heap := g, toks := tk } : Shared).heap z.heap.objs.size (fun j => decide (j ∈ ns)) (setI ns).length := R
  generalize z.heap.objs.size = sa at R2 ⊢
  generalize ({ z with heap := g, toks := tk } : Shared) = u at I2 R2 ⊢
  refine sorted_set R2 (I2.ok.hd hc) less fun y d out e ms k1 k2 k3 k4 k5 k6 up mem len => ?_
  have hsame : ms = setI ns := up_same up (setI_up ns) fun j => by
    rw [mem j, mem_setI]
    exact decide_eq_true_iff
  subst hsame
  have fresh : H1 d = none := I2.hok.fresh k4
  have short : ((setI ns).map V.int).length ≤ sizeLine := by rw [List.length_map, sizeLine_eq]; omega
  have J : Inv X pins σ (upd H1 d (.lst ((setI ns).map V.int))) { u with heap := y.heap, gens := y.gens, drawn := y.drawn, toks := y.toks } :=
    I2.call (ch := []) (Un.laid k1 k4 fresh) (I2.hok.laid k1 k4 ⟨short, out.toList, e, vals_of_ints k6, k5⟩) (by rw [k2]; exact I2.bare) (fun _ z => nomatch z)
  have same : y = { u with heap := y.heap, gens := y.gens, drawn := y.drawn, toks := y.toks } := by
    cases y
    cases u
    cases k3
    rfl
  rw [same]
  exact ⟨.ref d, _, J, rfl, kk d fresh⟩
def dSset : D → Option D
  | .lst _ ds => (intsOf ds).bind fun ns => if ns.length ≤ 4000 ∧ (setI ns).length < 64 then some (.lst true ((setI ns).map D.int)) else none
  | _ => none
theorem e_sset {p p2 q : Pos} (hK : X.K = K) (hc : X.calm = true) (g1 : Gl X "sorted") (m1 : X.mg "sorted" = none) (g2 : Gl X "set") (m2 : X.mg "set" = none) (ha : PE X a (tF K fe))
    (na : starEach [a] X.env = (false, eval a X.env) :: starEach [] X.env := by rfl) : PE X (.Call (.Name "sorted" p) [.Call (.Name "set" p2) [a] [] q] [] pos) (tF K (fUn dSset fe)) := by
  subst hK
  refine pe_same (pe_sset hc g1 m1 g2 m2 ha na) fun σ H Q z => ?_
  obtain ⟨p, F, R, s, r, s', hr, e, k⟩ := z
  obtain ⟨x, ex, e⟩ := Option.bind_eq_some_iff.mp e
  obtain ⟨w, ew, e⟩ := Option.map_eq_some_iff.mp e
  cases e
  refine ⟨p, F, R, s, x.1, x.2, hr, ex, fun v H1 F1 C1 l1 o1 ⟨C, hs, hA⟩ => ?_⟩
  cases hx : x.1 <;> rw [hx] at ew <;> try (cases ew)
  rename_i ob ds
  rw [hx] at o1
  obtain ⟨ns, en, ew⟩ := Option.bind_eq_some_iff.mp ew
  split at ew
  · rename_i hl
    cases ew
    obtain ⟨b, ys, C3, rfl, h3, h4, h5⟩ := o1.seqL (U := C ++ R) (hA.sub fun x => by simp only [cn_append]; omega)
    rw [(intsOf_own h4 en).1] at h3
    refine ⟨b, ns, rfl, h3.l, hl.1, hl.2, fun q hq => ?_⟩
    refine k _ _ F1 _ l1 (.lst (own_ints _)) ⟨C, hs, (hA.new hq (.lst ((setI ns).map V.int))).sub fun x => ?_⟩
    simp only [cn_append, cn_cons, cn_nil]
    omega
  · cases ew
end
end DL
set_option Elab.async false
set_option linter.all false
set_option maxRecDepth 100000
set_option maxHeartbeats 2000000
set_option exponentiation.threshold 600
/-! how the functions over data are reckoned: equations, loops -/
namespace DL
open PySem PySem.Spec PyProof.Rows L2 LB
/-- what stands behind it is not looked into -/
structure Box {α : Type} (a : α) : Type where
def _root_.Option.bnd {α β : Type} (m : Option α) (k : α → Option β) (_ : Box k := ⟨⟩) : Option β := m.bind k
def _root_.Option.mpp {α β : Type} (m : Option α) (k : α → β) (_ : Box k := ⟨⟩) : Option β := m.map k
theorem bnd_some {α β : Type} {a : α} {k : α → Option β} {w : Box k} : (some a).bnd k w = k a := rfl
theorem bnd_none {α β : Type} {k : α → Option β} {w : Box k} : (none : Option α).bnd k w = none := rfl
theorem mpp_b {α β : Type} {m : Option α} {k : α → β} {w : Box k} : m.mpp k w = m.bnd fun a => some (k a) := by cases m <;> rfl
theorem map_b {α β : Type} {m : Option α} {k : α → β} : m.map k = m.bnd fun a => some (k a) := by cases m <;> rfl
theorem bnd_a {α β γ : Type} {x : Option α} {f : α → Option β} {g : β → Option γ} {w : Box f} {w2 : Box g} : (x.bnd f w).bnd g w2 = x.bnd fun a => (f a).bnd g := by cases x <;> rfl
theorem q_defD0 {io : List Bool} {n : Nat} {fb : S → Option Out} {ds : List D} : defD0 io n fb ds = if ds.length = io.length then (fb (initS io ds ++ List.replicate n .no)).bnd fun o => match o with
    | .nx s => (outsD io s).bnd fun outs => some (.non, outs)
    | .rt r s => (outsD io s).bnd fun outs => some (r, outs)
    | _ => none else none := by
  unfold defD0
  split
  · cases fb (initS io ds ++ List.replicate n .no) with
    | none => rfl
    | some o =>
      cases o with
      | nx s =>
        show (outsD io s).map _ = (outsD io s).bind _
        cases outsD io s <;> rfl
      | rt r s =>
        show (outsD io s).map _ = (outsD io s).bind _
        cases outsD io s <;> rfl
      | bk s => rfl
      | ct s => rfl
  · rfl
section
variable {K : PySem.W.Frag} {s t : S} {x y : Sl} {ms : List Nat} {b : Bool}
theorem mask_n : mask ms [] = [] := by cases ms <;> rfl
theorem mask_0 : mask (0 :: ms) (x :: s) = .no :: mask ms s := (rfl)
theorem mask_1 : mask (1 :: ms) (x :: s) = x.fzS :: mask ms s := (rfl)
theorem mask_2 : mask (2 :: ms) (x :: s) = x :: mask ms s := (rfl)
theorem merge_n : merge b ms [] t = [] := by cases ms <;> rfl
theorem merge_0 : merge b (0 :: ms) (x :: s) (y :: t) = x :: merge b ms s t := by cases b <;> rfl
theorem merge_1t : merge true (1 :: ms) (x :: s) (y :: t) = x :: merge true ms s t := (rfl)
theorem merge_1h (h : b = true) : merge b (1 :: ms) (x :: s) (y :: t) = x :: merge b ms s t := by subst h; rfl
theorem merge_1f : merge false (1 :: ms) (x :: s) (y :: t) = x.fzS :: merge false ms s t := (rfl)
theorem merge_2 : merge b (2 :: ms) (x :: s) (y :: t) = y :: merge b ms s t := by cases b <;> rfl
theorem fullK_n : fullK ms [] = true := by cases ms <;> rfl
theorem fullK_0 : fullK (0 :: ms) (y :: t) = fullK ms t := by simp [fullK]
theorem fullK_1 : fullK (1 :: ms) (y :: t) = fullK ms t := by simp [fullK]
theorem fullK_2 : fullK (2 :: ms) (y :: t) = (y.full && fullK ms t) := by simp [fullK]
theorem fzS_va {d : D} : (Sl.va d).fzS = .va d.frz := (rfl)
theorem fzS_pn {d : D} : (Sl.pn d).fzS = .pn d.frz := (rfl)
theorem fzS_no : Sl.no.fzS = .no := (rfl)
theorem slf_va {d : D} : (Sl.va d).full = d.full := (rfl)
theorem slf_pn {d : D} : (Sl.pn d).full = d.full := (rfl)
theorem slf_no : Sl.no.full = true := (rfl)
theorem get_va {d : D} : Sl.get (some (.va d)) = if d.isFz = true then some d else none := (rfl)
theorem get_pn {d : D} : Sl.get (some (.pn d)) = if d.isFz = true then some d else none := (rfl)
theorem ls_va {ds : List D} : Sl.ls (some (.va (.lst true ds))) = some ds := (rfl)
theorem ls_pn {ds : List D} : Sl.ls (some (.pn (.lst true ds))) = some ds := (rfl)
theorem is_va {d : D} : Sl.is (some (.va d)) = true := (rfl)
theorem is_pn {d : D} : Sl.is (some (.pn d)) = true := (rfl)
theorem isFz_int {i : Int} : (D.int i).isFz = true := (rfl)
theorem isFz_bl {i : Bool} : (D.bl i).isFz = true := (rfl)
theorem isFz_str {i : Str} : (D.str i).isFz = true := (rfl)
theorem isFz_non : D.non.isFz = true := (rfl)
theorem isFz_lst {o : Bool} {ds : List D} : (D.lst o ds).isFz = !o := (rfl)
theorem isFz_tup {o : Bool} {ds : List D} : (D.tup o ds).isFz = !o := (rfl)
theorem frz_int {i : Int} : (D.int i).frz = .int i := (rfl)
theorem frz_bl {i : Bool} : (D.bl i).frz = .bl i := (rfl)
theorem frz_str {i : Str} : (D.str i).frz = .str i := (rfl)
theorem frz_ty {i : String} : (D.ty i).frz = .ty i := (rfl)
theorem frz_non : D.non.frz = .non := (rfl)
theorem frz_lst {o : Bool} {ds : List D} : (D.lst o ds).frz = .lst false (ds.map D.frz) := by rw [D.frz, frzL_map]
theorem frz_tup {o : Bool} {ds : List D} : (D.tup o ds).frz = .tup false (ds.map D.frz) := by rw [D.frz, frzL_map]
mutual
theorem frz_frz : ∀ d : D, d.frz.frz = d.frz
  | .non => rfl
  | .bl b => rfl
  | .int i => rfl
  | .str s => rfl
  | .ty _ => rfl
  | .lst _ xs => by rw [D.frz, D.frz, frzL_frz xs]
  | .tup _ xs => by rw [D.frz, D.frz, frzL_frz xs]
  | .dct _ xs => by rw [D.frz, D.frz, frzK_frz xs]
theorem frzL_frz : ∀ d : List D, D.frzL (D.frzL d) = D.frzL d
  | [] => rfl
  | d :: ds => by rw [D.frzL, D.frzL, frz_frz d, frzL_frz ds]
theorem frzK_frz : ∀ d : List (Key × D), D.frzK (D.frzK d) = D.frzK d
  | [] => rfl
  | (k, d) :: ds => by rw [D.frzK, D.frzK, frz_frz d, frzK_frz ds]
end
theorem map_frz_int (ns : List Int) : (ns.map D.int).map D.frz = ns.map D.int := by rw [List.map_map]; rfl
theorem map_frz_bl (ns : List Bool) : (ns.map D.bl).map D.frz = ns.map D.bl := by rw [List.map_map]; rfl
theorem map_frz_frz (ds : List D) : (ds.map D.frz).map D.frz = ds.map D.frz := by rw [List.map_map]; exact List.map_congr_left fun d _ => frz_frz d
theorem fullL_all (ds : List D) : D.fullL ds = ds.all D.full := by
  induction ds with
  | nil => rfl
  | cons d ds ih => rw [D.fullL, ih]; rfl
theorem full_int {i : Int} : (D.int i).full = true := (rfl)
theorem full_bl {i : Bool} : (D.bl i).full = true := (rfl)
theorem full_str {i : Str} : (D.str i).full = true := (rfl)
theorem full_non : D.non.full = true := (rfl)
theorem full_lst {o : Bool} {ds : List D} : (D.lst o ds).full = (o && ds.all D.full) := by rw [D.full, fullL_all]
theorem full_tup {o : Bool} {ds : List D} : (D.tup o ds).full = (o && ds.all D.full) := by rw [D.full, fullL_all]
theorem all_full_int (ns : List Int) : (ns.map D.int).all D.full = true := by induction ns <;> simp_all [D.full]
theorem all_full_bl (ns : List Bool) : (ns.map D.bl).all D.full = true := by induction ns <;> simp_all [D.full]
theorem all_flat_int (ns : List Int) : (ns.map D.int).all D.flat = true := by induction ns <;> simp_all [D.flat]
theorem asB_bl {c : Bool} : asB (.bl c) = some c := (rfl)
theorem asI_int {c : Int} : asI (.int c) = some c := (rfl)
theorem seq_lst {o : Bool} {ds : List D} : seqOf (.lst o ds) = some (ds.map D.frz) := (rfl)
theorem seq_tup {o : Bool} {ds : List D} : seqOf (.tup o ds) = some (ds.map D.frz) := (rfl)
/-- a list of whole numbers -/
def lI (b : Bool) (A : List Int) : D := .lst b (A.map D.int)
theorem frz_mapL {b : Bool} {AA : List (List Int)} : (AA.map (lI b)).map D.frz = AA.map (lI false) := by
  rw [List.map_map]
  refine List.map_congr_left fun A _ => ?_
  show (D.lst b (A.map D.int)).frz = _
  rw [frz_lst, map_frz_int]
  rfl
theorem full_mapL {AA : List (List Int)} : (AA.map (lI true)).all D.full = true := by
  rw [List.all_map, List.all_eq_true]
  intro A _
  show (D.lst true (A.map D.int)).full = true
  rw [full_lst, all_full_int]
  rfl
def gL (AA : List (List Int)) (k : Int) : List Int := AA.getD k.toNat []
theorem gL_nat {AA : List (List Int)} {k : Nat} (h : k < AA.length) : gL AA k = AA[k] := by
  unfold gL
  simp [h]
theorem at_L {b : Bool} {AA : List (List Int)} {k : Int} (h : 0 ≤ k ∧ k < AA.length) : atI (AA.map (lI b)) k = some (.lst b ((gL AA k).map D.int)) := by
  have h2 : k.toNat < AA.length := by omega
  unfold atI ixN
  rw [if_pos h.1, if_pos (by rw [List.length_map]; omega)]
  show (AA.map (lI b))[k.toNat]? = _
  rw [List.getElem?_map, List.getElem?_eq_getElem h2]
  unfold gL
  simp [h2, lI]
theorem frz_mapT {b : Bool} {ps : List (Int × Int)} : (ps.map (tupI b)).map D.frz = ps.map (tupI false) := by
  rw [List.map_map]
  refine List.map_congr_left fun p _ => ?_
  show (D.tup b [.int p.1, .int p.2]).frz = _
  rw [frz_tup]
  rfl
theorem full_mapT {ps : List (Int × Int)} : (ps.map (tupI true)).all D.full = true := by
  rw [List.all_map, List.all_eq_true]
  intro p _
  show (D.tup true [.int p.1, .int p.2]).full = true
  rw [full_tup]
  rfl
def gPr (ps : List (Int × Int)) (k : Int) : Int × Int := ps.getD k.toNat (0, 0)
theorem gPr_nat {ps : List (Int × Int)} {k : Nat} (h : k < ps.length) : gPr ps k = ps[k] := by
  unfold gPr
  simp [h]
theorem at_T {b : Bool} {ps : List (Int × Int)} {k : Int} (h : 0 ≤ k ∧ k < ps.length) : atI (ps.map (tupI b)) k = some (.tup b [.int (gPr ps k).1, .int (gPr ps k).2]) := by
  have h2 : k.toNat < ps.length := by omega
  unfold atI ixN
  rw [if_pos h.1, if_pos (by rw [List.length_map]; omega)]
  show (ps.map (tupI b))[k.toNat]? = _
  rw [List.getElem?_map, List.getElem?_eq_getElem h2]
  unfold gPr
  simp [h2, tupI]
theorem v_extI {o : Bool} {as bs : List Int} (h : as.length + bs.length ≤ 1000000) : mExtend (as.map D.int) [.lst o (bs.map D.int)] = some (.non, (as ++ bs).map D.int) := by
  have e : (as.map D.int).length + (bs.map D.int).length ≤ mx := by rw [List.length_map, List.length_map]; exact h
  rw [List.map_append]
  exact if_pos e
/-! numbers -/
theorem v_add {i j : Int} : dAddA (.int i) (.int j) = some (.int (i + j)) := (rfl)
theorem v_cat {o p : Bool} {as bs : List D} : dAddA (.lst o as) (.lst p bs) = if as.length + bs.length ≤ mx then some (.lst true (as ++ bs)) else none := by
  show Option.or _ (Option.or (if as.length + bs.length ≤ mx then some (D.lst true (as ++ bs)) else none) none) = _
  split <;> rfl
theorem v_sub {i j : Int} : dSub (.int i) (.int j) = some (.int (i - j)) := (rfl)
theorem mid_nat {i : Int} (h : -1000000000000000000000000000000000000000000000000000000000000000000000000000000000000000000 ≤ i ∧ i ≤ 1000000000000000000000000000000000000000000000000000000000000000000000000000000000000000000) : i.natAbs < 10 ^ 100 := by
  have e : (10 : Nat) ^ 100 = 10000000000 * 1000000000000000000000000000000000000000000000000000000000000000000000000000000000000000000 := by decide
  omega
theorem v_mul {i j : Int} (h : (-1000000000000000000000000000000000000000000000000000000000000000000000000000000000000000000 ≤ i ∧ i ≤ 1000000000000000000000000000000000000000000000000000000000000000000000000000000000000000000) ∧ -1000000000000000000000000000000000000000000000000000000000000000000000000000000000000000000 ≤ j ∧ j ≤ 1000000000000000000000000000000000000000000000000000000000000000000000000000000000000000000) : dMulA (.int i) (.int j) = some (.int (i * j)) := by
  rw [dMulA_is]
  show Option.or (if i.natAbs < 10 ^ 100 ∧ j.natAbs < 10 ^ 100 then some (D.int (i * j)) else none) none = _
  rw [if_pos ⟨mid_nat h.1, mid_nat h.2⟩]; rfl
theorem v_pow3 {i : Int} (h : -1000000000000000000000000000000000000000000000000000000000000000000000000000000000000000000 ≤ i ∧ i ≤ 1000000000000000000000000000000000000000000000000000000000000000000000000000000000000000000) : dPow (.int i) (.int 3) = some (.int (i ^ 3)) := by
  show (if i.natAbs < 10 ^ 100 ∧ 0 ≤ (3 : Int) ∧ (3 : Int) ≤ 1000 then some (D.int (i ^ (3 : Int).toNat)) else none) = _
  rw [if_pos ⟨mid_nat h, by decide, by decide⟩]; rfl
theorem v_rep {o : Bool} {ds : List D} {k : Int} (h : 0 ≤ k ∧ k ≤ 1000) (hl : ds.length ≤ 1000) (hz : ds.all D.isFz = true) : dMulA (.lst o ds) (.int k) = some (.lst true (List.replicate k.toNat ds).flatten) := by
  rw [dMulA_is]
  show (if 0 ≤ k ∧ k < 2 ^ 63 ∧ ds.length * k.toNat ≤ mx ∧ ds.all D.isFz = true then some (D.lst true (List.replicate k.toNat ds).flatten) else none) = _
  have e : ds.length * k.toNat ≤ 1000 * 1000 := Nat.mul_le_mul hl (by omega)
  exact if_pos ⟨h.1, by omega, e, hz⟩
theorem v_fdiv {i j : Int} (h : 0 < j ∧ j ≤ 1000000000000000000000000000000000000000000000000000000000000000000000000000000000000000000) : dFdiv (.int i) (.int j) = some (.int (i / j)) := if_pos ⟨h.1, mid_nat ⟨by omega, h.2⟩⟩
theorem v_mod {i j : Int} (h : 0 < j) : dMod (.int i) (.int j) = some (.int (i % j)) := if_pos h
theorem v_lt {i j : Int} : dLt (.int i) (.int j) = some (.bl (decide (i < j))) := (rfl)
theorem v_le {i j : Int} : dLe (.int i) (.int j) = some (.bl (decide (i ≤ j))) := (rfl)
theorem v_gt {i j : Int} : dGt (.int i) (.int j) = some (.bl (decide (j < i))) := (rfl)
theorem v_ge {i j : Int} : dGe (.int i) (.int j) = some (.bl (decide (j ≤ i))) := (rfl)
theorem v_neg {i : Int} : dNeg (.int i) = some (.int (-i)) := (rfl)
theorem pv_add {i j : Int} : dAdd (.int i) (.int j) = some (.int (i + j)) := (rfl)
theorem pv_mul {i j : Int} (h : (-1000000000000000000000000000000000000000000000000000000000000000000000000000000000000000000 ≤ i ∧ i ≤ 1000000000000000000000000000000000000000000000000000000000000000000000000000000000000000000) ∧ -1000000000000000000000000000000000000000000000000000000000000000000000000000000000000000000 ≤ j ∧ j ≤ 1000000000000000000000000000000000000000000000000000000000000000000000000000000000000000000) : dMul (.int i) (.int j) = some (.int (i * j)) := if_pos ⟨mid_nat h.1, mid_nat h.2⟩
theorem pv_sub {i j : Int} : dSub (.int i) (.int j) = some (.int (i - j)) := (rfl)
theorem if_le {α : Type} {n m : Nat} {x y : α} (h : n ≤ m) : (if n ≤ m then x else y) = x := if_pos h
theorem if_lt {α : Type} {n m : Nat} {x y : α} (h : n < m) : (if n < m then x else y) = x := if_pos h
theorem if_ile {α : Type} {n m : Int} {x y : α} (h : n ≤ m) : (if n ≤ m then x else y) = x := if_pos h
theorem if_rg {α : Type} {a n b : Int} {x y : α} (h : a ≤ n ∧ n ≤ b) : (if a ≤ n ∧ n ≤ b then x else y) = x := if_pos h
theorem if_rg2 {α : Type} {a n b : Int} {x y : α} (h : a ≤ n ∧ n < b) : (if a ≤ n ∧ n < b then x else y) = x := if_pos h
theorem if_rg4 {α : Type} {a n b c m d : Int} {x y : α} (h : a ≤ n ∧ n < b ∧ c ≤ m ∧ m < d) : (if a ≤ n ∧ n < b ∧ c ≤ m ∧ m < d then x else y) = x := if_pos h
theorem if_rg5 {α : Type} {a n b c m d : Int} {x y : α} (h : a ≤ n ∧ n ≤ b ∧ c ≤ m ∧ m ≤ d) : (if a ≤ n ∧ n ≤ b ∧ c ≤ m ∧ m ≤ d then x else y) = x := if_pos h
theorem dle_t {a b : Int} (h : a ≤ b) : decide (a ≤ b) = true := decide_eq_true h
theorem dle_f {a b : Int} (h : b < a) : decide (a ≤ b) = false := decide_eq_false (by omega)
theorem dlt_t {a b : Int} (h : a < b) : decide (a < b) = true := decide_eq_true h
theorem dlt_f {a b : Int} (h : b ≤ a) : decide (a < b) = false := decide_eq_false (by omega)
theorem deq_t {a b : Int} (h : a = b) : decide (a = b) = true := decide_eq_true h
theorem deq_f {a b : Int} (h : a ≠ b) : decide (a = b) = false := decide_eq_false h
theorem fm_ints {α : Type} (f : Int → Option α) (mk : α → D) (ns : List Int) (g : D → Option D) (h : ∀ n ∈ ns, g (.int n) = (f n).map mk) : (ns.map D.int).filterMap g = (ns.filterMap f).map mk := by
  induction ns with
  | nil => rfl
  | cons n ns ih =>
    have h1 := h n List.mem_cons_self
    have h2 := ih fun m hm => h m (List.mem_cons_of_mem _ hm)
    rw [List.map_cons]
    cases q : f n with
    | none => rw [q] at h1; rw [List.filterMap_cons_none h1, List.filterMap_cons_none q, h2]
    | some v => rw [q] at h1; rw [List.filterMap_cons_some h1, List.filterMap_cons_some q, h2]; rfl
theorem fm_true (ds : List D) : ds.filterMap (fun _ => some (D.bl true)) = (List.replicate ds.length true).map D.bl := by
  induction ds with
  | nil => rfl
  | cons d ds ih => exact congrArg (D.bl true :: ·) ih
theorem all_rep (n : Nat) : (List.replicate n true).all id = true := by simp
theorem arall_map (as : List D) : ARall (as.map Sum.inl) = some as := by
  induction as with
  | nil => rfl
  | cons a as ih => rw [List.map_cons, ARall, ih]; rfl
theorem arall_app (as : List D) (r : List AR) : ARall (as.map Sum.inl ++ r) = (ARall r).map fun ds => as ++ ds := by
  induction as with
  | nil => cases q : ARall r <;> simp [q]
  | cons a as ih => rw [List.map_cons, List.cons_append, ARall, ih]; cases q : ARall r <;> simp
theorem take_mapI {n : Nat} {ns : List Int} : (ns.map D.int).take n = (ns.take n).map D.int := List.map_take.symm
theorem drop_mapI {n : Nat} {ns : List Int} : (ns.map D.int).drop n = (ns.drop n).map D.int := List.map_drop.symm
theorem set_mapI {i : Nat} {z : Int} {ns : List Int} : (ns.map D.int).set i (.int z) = (ns.set i z).map D.int := List.map_set.symm
theorem rev_mapI {ns : List Int} : (ns.map D.int).reverse = ns.reverse.map D.int := List.map_reverse.symm
theorem ixN_lit {n : Nat} {i : Int} (h : 0 ≤ i ∧ i < n) : ixN n i = some i.toNat := by
  unfold ixN
  rw [if_pos h.1, if_pos h.2]
/-- an int between lo and hi -/
def isI (lo hi : Int) (d : D) : Prop := ∃ j, d = .int j ∧ lo ≤ j ∧ j ≤ hi
theorem isI_of {lo hi j : Int} (h : lo ≤ j ∧ j ≤ hi) : isI lo hi (.int j) := ⟨j, rfl, h.1, h.2⟩
def allI (lo hi : Int) : List D → Prop
  | [] => True
  | d :: ds => isI lo hi d ∧ allI lo hi ds
theorem pickI {lo hi : Int} {ds : List D} (h : allI lo hi ds) {k : Int} (hk : 0 ≤ k ∧ k < ds.length) : ∃ j, atI ds k = some (.int j) ∧ lo ≤ j ∧ j ≤ hi := by
  rw [show atI ds k = ds[k.toNat]? by unfold atI; rw [ixN_lit hk]; rfl]
  have hk2 : k.toNat < ds.length := by omega
  generalize k.toNat = n at hk2
  clear hk
  induction ds generalizing n with
  | nil => simp at hk2
  | cons d ds ih =>
    cases n with
    | zero => obtain ⟨j, rfl, h1, h2⟩ := h.1; exact ⟨j, rfl, h1, h2⟩
    | succ n => exact ih h.2 n (by simpa using hk2)
theorem erase_map (ns : List Int) (n : Nat) : (ns.eraseIdx n).map D.int = (ns.map D.int).eraseIdx n := by
  induction ns generalizing n with
  | nil => rfl
  | cons x ns ih => cases n with
    | zero => rfl
    | succ n => rw [List.eraseIdx_cons_succ, List.map_cons, ih]; rfl
theorem v_popAt {ns : List Int} {k : Int} (h : 0 ≤ k ∧ k < ns.length) (hl : ns.length ≤ 1000000) : mPopAt (ns.map D.int) [.int k] = some (.int (gi ns k), (ns.eraseIdx k.toNat).map D.int) := by
  have hk : k.toNat < ns.length := by omega
  show (if -(2 ^ 63) ≤ k ∧ k < 2 ^ 63 then (seqIndex? k (ns.map D.int).length).bind fun j => ((ns.map D.int)[j]?).map fun d => (d, (ns.map D.int).eraseIdx j) else none) = _
  rw [if_pos ⟨by omega, by omega⟩, List.length_map]
  have e : seqIndex? k ns.length = some k.toNat := by
    have := (ixN_seq (n := ns.length) (i := k) (j := k.toNat) (by unfold ixN; rw [if_pos h.1, if_pos h.2])).1
    exact this
  rw [e]
  show ((ns.map D.int)[k.toNat]?).map _ = _
  rw [List.getElem?_map, List.getElem?_eq_getElem hk, erase_map]
  · unfold gi
    simp [hk]
def rg1' (as : List AR) (s : S) : Option (List D × S) := match as with
  | [.inl (.int j)] => if -(2 ^ 62) ≤ j ∧ j < 2 ^ 62 then some (rgD 0 j.toNat, s) else none
  | _ => none
def rg2' (as : List AR) (s : S) : Option (List D × S) := match as with
  | [.inl (.int i), .inl (.int j)] => if -(2 ^ 62) ≤ i ∧ i < 2 ^ 62 ∧ -(2 ^ 62) ≤ j ∧ j < 2 ^ 62 then some (rgD i (j - i).toNat, s) else none
  | _ => none
theorem rg1_ex : ∃ f, f = rg1' := ⟨_, rfl⟩
theorem rg2_ex : ∃ f, f = rg2' := ⟨_, rfl⟩
/-- sealed, so that no one reckons the bounds -/
noncomputable def rg1 : List AR → S → Option (List D × S) := Classical.choose rg1_ex
noncomputable def rg2 : List AR → S → Option (List D × S) := Classical.choose rg2_ex
theorem rg1_is : rg1 = rg1' := Classical.choose_spec rg1_ex
theorem rg2_is : rg2 = rg2' := Classical.choose_spec rg2_ex
theorem rg1_i {j : Int} {s : S} (h : -1000000 ≤ j ∧ j ≤ 1000000) : rg1 [.inl (.int j)] s = some (rgD 0 j.toNat, s) := by
  rw [rg1_is]
  exact if_pos ⟨by omega, by omega⟩
theorem rg2_i {i j : Int} {s : S} (h : -1000000 ≤ i ∧ i ≤ 1000000 ∧ -1000000 ≤ j ∧ j ≤ 1000000) : rg2 [.inl (.int i), .inl (.int j)] s = some (rgD i (j - i).toNat, s) := by
  rw [rg2_is]
  exact if_pos ⟨by omega, by omega, by omega, by omega⟩
theorem q_iR1 {fas : M (List AR)} {s : S} : iR1 fas s = (fas s).bnd fun a => rg1 a.1 a.2 := by rw [rg1_is]; rfl
theorem q_iR2 {fas : M (List AR)} {s : S} : iR2 fas s = (fas s).bnd fun a => rg2 a.1 a.2 := by rw [rg2_is]; rfl
def enD (as : List AR) (s : S) : Option (List D × S) := match as with
  | [.inl d] => (lstOf d).map fun ds => (ds.mapIdx fun i x => pairD (.int i) x, s)
  | _ => none
def ziD (as : List AR) (s : S) : Option (List D × S) := match as with
  | [.inl d, .inl e] => (lstOf d).bind fun ds => (lstOf e).map fun es => (List.zipWith pairD ds es, s)
  | _ => none
theorem enD_i {o : Bool} {ds : List D} {s : S} : enD [.inl (.lst o ds)] s = some ((ds.map D.frz).mapIdx fun i x => pairD (.int i) x, s) := (rfl)
theorem ziD_i {o p : Bool} {ds es : List D} {s : S} : ziD [.inl (.lst o ds), .inl (.lst p es)] s = some (List.zipWith pairD (ds.map D.frz) (es.map D.frz), s) := (rfl)
theorem q_iE {fas : M (List AR)} {s : S} : iE fas s = (fas s).bnd fun a => enD a.1 a.2 := (rfl)
theorem q_iZ {fas : M (List AR)} {s : S} : iZ fas s = (fas s).bnd fun a => ziD a.1 a.2 := (rfl)
theorem mx_is : mx = 1000000 := (rfl)
theorem fz_if {d : D} (h : d.isFz = true) : (if d.isFz = true then some d else none) = some d := if_pos h
theorem v_isN {d : D} : dIsN d .non = some (.bl d.isN) := by cases d <;> rfl
theorem v_notN {d : D} : dNotN d .non = some (.bl !d.isN) := by cases d <;> rfl
theorem isN_int {i : Int} : (D.int i).isN = false := (rfl)
theorem isN_bl {i : Bool} : (D.bl i).isN = false := (rfl)
theorem isN_str {i : Str} : (D.str i).isN = false := (rfl)
theorem isN_lst {o : Bool} {ds : List D} : (D.lst o ds).isN = false := (rfl)
theorem isN_tup {o : Bool} {ds : List D} : (D.tup o ds).isN = false := (rfl)
theorem isN_non : D.non.isN = true := (rfl)
theorem v_isB {i j : Bool} : dIsB (.bl i) (.bl j) = some (.bl (decide (i = j))) := (rfl)
theorem v_notB {i j : Bool} : dNotB (.bl i) (.bl j) = some (.bl (!decide (i = j))) := (rfl)
/-! lists -/
theorem v_ixI {o : Bool} {ns : List Int} {i : Int} (h : 0 ≤ i ∧ i < ns.length) : dIxA (.lst o (ns.map D.int)) (.int i) = some (.int (gi ns i)) := by
  have : atI (ns.map D.int) i = some (.int (gi ns i)) := by
    obtain ⟨h0, h1⟩ := h
    unfold atI ixN
    rw [List.length_map, if_pos h0, if_pos h1]
    show (ns.map D.int)[i.toNat]? = _
    have hl : i.toNat < ns.length := by omega
    rw [List.getElem?_map, List.getElem?_eq_getElem hl]
    unfold gi
    simp [hl]
  show Option.or (atI (ns.map D.int) i) _ = _
  rw [this]; rfl
theorem v_ix {o : Bool} {ds : List D} {i : Int} : dIxA (.lst o ds) (.int i) = atI ds i := by
  show Option.or (atI ds i) (Option.or none none) = _
  cases atI ds i <;> rfl
theorem v_ixT {o : Bool} {ds : List D} {i : Int} : dIxA (.tup o ds) (.int i) = atI ds i := by
  show Option.or none (Option.or (atI ds i) none) = _
  cases atI ds i <;> rfl
theorem at_ints {ns : List Int} {i : Int} (h : 0 ≤ i ∧ i < ns.length) : atI (ns.map D.int) i = some (.int (gi ns i)) := by
  have := v_ixI (o := true) h
  rw [v_ix] at this
  exact this
theorem at_0 {α : Type} {d : α} {ds : List α} : atI (d :: ds) 0 = some d := by
  unfold atI ixN
  rw [if_pos (by decide), if_pos (by simp only [List.length_cons]; omega)]; rfl
theorem at_s {α : Type} {d : α} {ds : List α} {i : Int} (h : 0 < i) : atI (d :: ds) i = atI ds (i - 1) := by
  unfold atI ixN
  rw [if_pos (show 0 ≤ i by omega), if_pos (show 0 ≤ i - 1 by omega)]
  by_cases q : i - 1 < ds.length
  · rw [if_pos q, if_pos (by rw [List.length_cons]; omega)]
    show (d :: ds)[i.toNat]? = ds[(i - 1).toNat]?
    rw [show i.toNat = (i - 1).toNat + 1 by omega]; rfl
  · rw [if_neg q, if_neg (by rw [List.length_cons]; omega)]; rfl
theorem v_len {o : Bool} {ds : List D} : dLenA [.lst o ds] = some (.int ds.length) := (rfl)
theorem v_lenT {o : Bool} {ds : List D} : dLenA [.tup o ds] = some (.int ds.length) := (rfl)
theorem v_abs {i : Int} : dAbs [.int i] = some (.int (if i < 0 then -i else i)) := (rfl)
theorem v_max2 {i j : Int} : dMax2 [.int i, .int j] = some (.int (if j > i then j else i)) := (rfl)
theorem v_min2 {i j : Int} : dMin2 [.int i, .int j] = some (.int (if j < i then j else i)) := (rfl)
theorem v_list {o : Bool} {ds : List D} : dList [.lst o ds] = some (.lst true ds) := (rfl)
theorem v_listT {o : Bool} {ds : List D} : dList [.tup o ds] = some (.lst true ds) := (rfl)
theorem v_sorted0 {o : Bool} {ns : List Int} (h : ns.length < 64) : dSorted [.lst o (ns.map D.int)] = some (.lst true ((sortI ns).map D.int)) := by
  show (intsOf (ns.map D.int)).bind _ = _
  rw [intsOf_ints]
  exact if_pos h
theorem v_sorted {o : Bool} {ns : List Int} (h : ns.length < 64) : dSortedA [.lst o (ns.map D.int)] = some (.lst true ((sortI ns).map D.int)) := by
  unfold dSortedA
  rw [v_sorted0 h]; rfl
/-- pairs -/
theorem v_sortP {o b : Bool} {ps : List (Int × Int)} (h : ps ≠ []) : dSortedA [.lst o (ps.map (tupI b))] = some (.lst true ((sortP ps).map (tupI b))) := by
  have h1 : dSorted [.lst o (ps.map (tupI b))] = none := by
    cases ps with
    | nil => exact absurd rfl h
    | cons p r => rfl
  unfold dSortedA
  rw [h1]
  show ((prsB true (ps.map (tupI b))).map _).or ((prsB false (ps.map (tupI b))).map _) = _
  cases b with
  | true => rw [prsB_of]; rfl
  | false =>
    have h2 : prsB true (ps.map (tupI false)) = none := by
      cases ps with
      | nil => exact absurd rfl h
      | cons p r => rfl
    rw [h2, prsB_of]; rfl
theorem v_all {o : Bool} {bs : List Bool} : dAll [.lst o (bs.map D.bl)] = some (.bl (bs.all id)) := by
  show (boolsOf (bs.map D.bl)).map _ = _
  rw [boolsOf_bools]; rfl
theorem v_any {o : Bool} {bs : List Bool} : dAny [.lst o (bs.map D.bl)] = some (.bl (bs.any id)) := by
  show (boolsOf (bs.map D.bl)).map _ = _
  rw [boolsOf_bools]; rfl
theorem v_sum {o : Bool} {ns : List Int} : dSum [.lst o (ns.map D.int)] = some (.int ns.sum) := by
  show (intsOf (ns.map D.int)).map _ = _
  rw [intsOf_ints]; rfl
theorem v_maxL {o : Bool} {ns : List Int} (h : 0 < ns.length) : dMaxL [.lst o (ns.map D.int)] = some (.int (maxL ns)) := by
  show (intsOf (ns.map D.int)).bind _ = _
  rw [intsOf_ints]; exact if_pos h
theorem v_minL {o : Bool} {ns : List Int} (h : 0 < ns.length) : dMinL [.lst o (ns.map D.int)] = some (.int (minL ns)) := by
  show (intsOf (ns.map D.int)).bind _ = _
  rw [intsOf_ints]; exact if_pos h
theorem inF_ints (x : Int) (ns : List Int) : inF (.int x) (ns.map D.int) = decide (x ∈ ns) := by
  unfold inF
  induction ns with
  | nil => rfl
  | cons n ns ih =>
    rw [List.map_cons, List.any_cons, ih]
    show ((n == x) || _) = _
    by_cases h : n = x
    · subst h; simp
    · simp [h, Ne.symm h]
theorem v_in {o : Bool} {x : Int} {ns : List Int} : dInA (.int x) (.lst o (ns.map D.int)) = some (.bl (decide (x ∈ ns))) := by
  have : dIn false (.int x) (.lst o (ns.map D.int)) = some (.bl (decide (x ∈ ns))) := by
    show (if (D.int x).flat = true ∧ (ns.map D.int).all D.flat = true then some (D.bl (if false = true then !inF (.int x) (ns.map D.int) else inF (.int x) (ns.map D.int))) else none) = _
    rw [if_pos ⟨rfl, all_flat_int ns⟩, inF_ints]; rfl
  show Option.or (dIn false (.int x) (.lst o (ns.map D.int))) _ = _
  rw [this]; rfl
theorem v_notIn {o : Bool} {x : Int} {ns : List Int} : dIn true (.int x) (.lst o (ns.map D.int)) = some (.bl (!decide (x ∈ ns))) := by
  show (if (D.int x).flat = true ∧ (ns.map D.int).all D.flat = true then some (D.bl (if true = true then !inF (.int x) (ns.map D.int) else inF (.int x) (ns.map D.int))) else none) = _
  rw [if_pos ⟨rfl, all_flat_int ns⟩, inF_ints]; rfl
theorem sIx_pos {n d : Nat} {i : Int} (h : 0 ≤ i) : HT.sIx n d (some i) = min i.toNat n := by
  unfold HT.sIx
  simp only []
  rw [if_neg (by omega)]
theorem cutD_to {ds : List D} {i : Int} (h : 0 ≤ i) : cutD ds none (some i) = ds.take i.toNat := by
  unfold cutD
  rw [HT.sIx_none, sIx_pos h]
  simp
theorem cutD_from {ds : List D} {i : Int} (h : 0 ≤ i) : cutD ds (some i) none = ds.drop i.toNat := by
  unfold cutD
  rw [HT.sIx_none, sIx_pos h]
  by_cases q : i.toNat ≤ ds.length
  · rw [Nat.min_eq_left q, List.take_of_length_le (by simp)]
  · rw [Nat.min_eq_right (by omega), List.drop_eq_nil_of_le (Nat.le_refl _), List.drop_eq_nil_of_le (by omega)]
    simp
theorem cutD_both {ds : List D} {i j : Int} (h : 0 ≤ i) (h2 : 0 ≤ j) : cutD ds (some i) (some j) = (ds.drop i.toNat).take (j.toNat - i.toNat) := by
  unfold cutD
  rw [sIx_pos h, sIx_pos h2]
  by_cases q : i.toNat ≤ ds.length
  · rw [Nat.min_eq_left q]
    by_cases q2 : j.toNat ≤ ds.length
    · rw [Nat.min_eq_left q2]
    · rw [Nat.min_eq_right (Nat.le_of_lt (Nat.lt_of_not_le q2)), List.take_of_length_le (by simp), List.take_of_length_le (by simp; omega)]
  · rw [Nat.min_eq_right (Nat.le_of_lt (Nat.lt_of_not_le q)), List.drop_eq_nil_of_le (Nat.le_refl _), List.drop_eq_nil_of_le (Nat.le_of_lt (Nat.lt_of_not_le q))]
    simp
theorem cutD_all {ds : List D} : cutD ds none none = ds := by
  unfold cutD
  rw [HT.sIx_none, HT.sIx_none]
  simp
theorem v_sl {o : Bool} {ds : List D} {lo hi : Option Int} : dSlA (.lst o ds) lo hi = some (.lst true (cutD ds lo hi)) := (rfl)
theorem v_eq {d e : D} (h : d.shp = true ∧ e.shp = true) : dEq d e = some (.bl (d.eqv e)) := if_pos h
theorem v_ne {d e : D} (h : d.shp = true ∧ e.shp = true) : dNe d e = some (.bl (!d.eqv e)) := if_pos h
theorem py_ints {o : Bool} (ns : List Int) : (D.lst o (ns.map D.int)).py = pl ns := by
  rw [D.py]
  unfold pl
  congr 1
  induction ns with
  | nil => rfl
  | cons n ns ih => rw [List.map_cons, D.pyL, ih]; rfl
theorem shp_ints {o : Bool} (ns : List Int) : (D.lst o (ns.map D.int)).shp = true := by unfold D.shp; rw [py_ints]; exact shaped_pl ns
theorem eqv_ints {o p : Bool} (as bs : List Int) : (D.lst o (as.map D.int)).eqv (.lst p (bs.map D.int)) = decide (as = bs) := by unfold D.eqv; rw [py_ints, py_ints, eqv_pl]
theorem eqv_int {i j : Int} : (D.int i).eqv (.int j) = decide (i = j) := by
  show (i == j) = _
  by_cases h : i = j <;> simp [h]
theorem eqv_bl {i j : Bool} : (D.bl i).eqv (.bl j) = decide (i = j) := by cases i <;> cases j <;> rfl
theorem shp_int {i : Int} : (D.int i).shp = true := by
  unfold D.shp
  exact shaped_of (by simp [D.py, PyData.canLay0]) (by simp [D.py, PyData.depth])
theorem shp_bl {i : Bool} : (D.bl i).shp = true := by
  unfold D.shp
  exact shaped_of (by simp [D.py, PyData.canLay0]) (by simp [D.py, PyData.depth])
theorem shp_non : D.non.shp = true := by
  unfold D.shp
  exact shaped_of (by simp [D.py, PyData.canLay0]) (by simp [D.py, PyData.depth])
theorem v_eqII {i j : Int} : dEqA (.int i) (.int j) = some (.bl (decide (i = j))) := by rw [← eqv_int]; exact v_eq ⟨shp_int, shp_int⟩
theorem v_neII {i j : Int} : dNeA (.int i) (.int j) = some (.bl (!decide (i = j))) := by rw [← eqv_int]; exact v_ne ⟨shp_int, shp_int⟩
theorem v_eqBB {i j : Bool} : dEqA (.bl i) (.bl j) = some (.bl (decide (i = j))) := by rw [← eqv_bl]; exact v_eq ⟨shp_bl, shp_bl⟩
theorem v_neBB {i j : Bool} : dNeA (.bl i) (.bl j) = some (.bl (!decide (i = j))) := by rw [← eqv_bl]; exact v_ne ⟨shp_bl, shp_bl⟩
theorem v_eqSS {i j : Str} : dEqA (.str i) (.str j) = some (.bl (decide (i = j))) := (rfl)
theorem v_neSS {i j : Str} : dNeA (.str i) (.str j) = some (.bl (!decide (i = j))) := (rfl)
theorem v_eqLL {o p : Bool} {as bs : List Int} : dEqA (.lst o (as.map D.int)) (.lst p (bs.map D.int)) = some (.bl (decide (as = bs))) := by rw [← eqv_ints (o := o) (p := p)]; exact v_eq ⟨shp_ints _, shp_ints _⟩
theorem v_neLL {o p : Bool} {as bs : List Int} : dNeA (.lst o (as.map D.int)) (.lst p (bs.map D.int)) = some (.bl (!decide (as = bs))) := by rw [← eqv_ints (o := o) (p := p)]; exact v_ne ⟨shp_ints _, shp_ints _⟩
theorem v_eqLN {o p : Bool} {as : List Int} : dEqA (.lst o (as.map D.int)) (.lst p []) = some (.bl (decide (as = []))) := v_eqLL (bs := [])
theorem v_neLN {o p : Bool} {as : List Int} : dNeA (.lst o (as.map D.int)) (.lst p []) = some (.bl (!decide (as = []))) := v_neLL (bs := [])
theorem v_dget {o : Bool} {kvs : KD} {k : Int} (f : KD.fl kvs = true) : dDGet (.dct o kvs) (.int k) = valD kvs k := if_pos f
theorem v_din {o : Bool} {kvs : KD} {k : Int} (f : KD.fl kvs = true) : dDIn false (.int k) (.dct o kvs) = some (.bl (valD kvs k).isSome) := if_pos f
theorem v_dnotin {o : Bool} {kvs : KD} {k : Int} (f : KD.fl kvs = true) : dDIn true (.int k) (.dct o kvs) = some (.bl (!(valD kvs k).isSome)) := if_pos f
theorem isFz_dct {o : Bool} {kvs : KD} : (D.dct o kvs).isFz = !o := (rfl)
theorem frzK_fl : ∀ {kvs : KD}, KD.fl kvs = true → D.frzK kvs = kvs
  | [], _ => rfl
  | (k, d) :: r, f => by
    unfold KD.fl at f
    rw [List.all_cons, Bool.and_eq_true] at f
    rw [D.frzK, frzK_fl f.2]
    cases d <;> first | rfl | cases f.1
theorem frz_dct {o : Bool} {kvs : KD} (f : KD.fl kvs = true) : (D.dct o kvs).frz = .dct false kvs := by rw [D.frz, frzK_fl f]
theorem fullK_fl : ∀ {kvs : KD}, KD.fl kvs = true → D.fullK kvs = true
  | [], _ => rfl
  | (k, d) :: r, f => by
    unfold KD.fl at f
    rw [List.all_cons, Bool.and_eq_true] at f
    rw [D.fullK, fullK_fl f.2]
    cases d <;> first | rfl | cases f.1
theorem full_dct {o : Bool} {kvs : KD} (f : KD.fl kvs = true) : (D.dct o kvs).full = o := by rw [D.full, fullK_fl f, Bool.and_true]
theorem dk_va {kvs : KD} (f : KD.fl kvs = true) : Sl.dk (some (.va (.dct true kvs))) = some kvs := if_pos f
theorem dk_pn {kvs : KD} (f : KD.fl kvs = true) : Sl.dk (some (.pn (.dct true kvs))) = some kvs := if_pos f
theorem v_intT : dIntC [.bl true] = some (.int 1) := rfl
theorem v_intF : dIntC [.bl false] = some (.int 0) := rfl
theorem v_intI {i : Int} : dIntC [.int i] = some (.int i) := rfl
theorem v_eqNN {o p : Bool} : dEqA (.lst o []) (.lst p []) = some (.bl true) := v_eqLL (as := []) (bs := [])
theorem v_neNN {o p : Bool} : dNeA (.lst o []) (.lst p []) = some (.bl false) := v_neLL (as := []) (bs := [])
theorem at_last {ns : List Int} (h : 0 < ns.length) : atI (ns.map D.int) (-1) = some (.int (gi ns (ns.length - 1))) := by
  have e : ixN (ns.map D.int).length (-1) = some (ns.length - 1) := by
    unfold ixN
    rw [List.length_map, if_neg (by omega), if_pos (by omega)]
    congr 1
    omega
  unfold atI
  rw [e]
  show (ns.map D.int)[ns.length - 1]? = _
  rw [List.getElem?_map, List.getElem?_eq_getElem (by omega), show ((ns.length : Int) - 1) = ((ns.length - 1 : Nat) : Int) by omega, gi_nat (by omega)]
  rfl
/-- == of lists (not of texts) -/
theorem v_eqL {o p : Bool} {as bs : List D} (h : (D.lst o as).shp = true ∧ (D.lst p bs).shp = true) : dEqA (.lst o as) (.lst p bs) = some (.bl ((D.lst o as).eqv (.lst p bs))) := v_eq h
theorem v_neL {o p : Bool} {as bs : List D} (h : (D.lst o as).shp = true ∧ (D.lst p bs).shp = true) : dNeA (.lst o as) (.lst p bs) = some (.bl (!(D.lst o as).eqv (.lst p bs))) := v_ne h
/-! ### loops -/
def lcStep (fg : D → S → Option S) (ft : M Bool) (fe : M D) (vs : List Nat) (d : D) (s : S) : Option (Option D × S) := (fg d (wipeS vs s)).bind fun s1 => (ft s1).bind fun t => if t.1 = true then (fe t.2).map fun r => (some r.1, r.2) else some (none, t.2)
theorem lcGo_cons {fg : D → S → Option S} {ft : M Bool} {fe : M D} {vs : List Nat} {d : D} {ds : List D} {s : S} : lcGo fg ft fe vs (d :: ds) s = (lcStep fg ft fe vs d s).bind fun r => match r.1 with
    | some v => (lcGo fg ft fe vs ds r.2).map fun q => (v :: q.1, q.2)
    | none => lcGo fg ft fe vs ds r.2 := by
  rw [lcGo]
  unfold lcStep
  cases fg d (wipeS vs s) with
  | none => rfl
  | some s1 =>
    show (ft s1).bind _ = ((ft s1).bind _).bind _
    cases ft s1 with
    | none => rfl
    | some t =>
      show (if t.1 = true then _ else _) = (if t.1 = true then _ else _ : Option (Option D × S)).bind _
      split
      · cases fe t.2 <;> rfl
      · rfl
/-- turns of which each leaves the state I (by the turn) and what is made so far -/
theorem lc_inv {fg : D → S → Option S} {ft : M Bool} {fe : M D} {vs : List Nat} {ds : List D} {s : S} (I : Nat → List D → S → Prop) (h0 : I 0 [] s)
    (hs : ∀ i d acc s, ds[i]? = some d → I i acc s → ∃ r s', lcStep fg ft fe vs d s = some (r, s') ∧ I (i + 1) (acc ++ r.toList) s') :
    ∃ acc s', lcGo fg ft fe vs ds s = some (acc, s') ∧ I ds.length acc s' := by
  have main : ∀ (k : Nat) (acc : List D) (s : S), k ≤ ds.length → I k acc s → ∃ out s', lcGo fg ft fe vs (ds.drop k) s = some (out, s') ∧ I ds.length (acc ++ out) s' := by
    intro k
    induction hn : ds.length - k generalizing k with
    | zero =>
      intro acc s hk hi
      have e : k = ds.length := by omega
      subst e
      exact ⟨[], s, by rw [List.drop_length]; rfl, by rw [List.append_nil]; exact hi⟩
    | succ n ih =>
      intro acc s hk hi
      have hlt : k < ds.length := by omega
      obtain ⟨r, s', e1, e2⟩ := hs k ds[k] acc s (List.getElem?_eq_getElem hlt) hi
      obtain ⟨out, s2, e3, e4⟩ := ih (k + 1) (by omega) (acc ++ r.toList) s' (by omega) e2
      rw [List.drop_eq_getElem_cons hlt, lcGo_cons, e1]
      cases r with
      | none => exact ⟨out, s2, e3, by simpa using e4⟩
      | some v => exact ⟨v :: out, s2, by show (lcGo fg ft fe vs (ds.drop (k + 1)) s').map _ = _; rw [e3]; rfl, by simpa using e4⟩
  obtain ⟨out, s', h1, h2⟩ := main 0 [] s (Nat.zero_le _) h0
  exact ⟨out, s', by simpa using h1, by simpa using h2⟩
/-- turns that change nothing -/
theorem lc_pure {fg : D → S → Option S} {ft : M Bool} {fe : M D} {vs : List Nat} {ds : List D} {s : S} (g : D → Option D) (hw : wipeS vs s = s)
    (hs : ∀ d ∈ ds, ∃ s', lcStep fg ft fe vs d s = some (g d, s') ∧ wipeS vs s' = s) : ∃ s', lcGo fg ft fe vs ds s = some (ds.filterMap g, s') ∧ wipeS vs s' = s := by
  have h : ∀ (ds : List D), (∀ d ∈ ds, ∃ s', lcStep fg ft fe vs d s = some (g d, s') ∧ wipeS vs s' = s) → ∀ s0, wipeS vs s0 = s → ∃ s', lcGo fg ft fe vs ds s0 = some (ds.filterMap g, s') ∧ wipeS vs s' = s := by
    intro ds
    induction ds with
    | nil => intro _ s0 h0; exact ⟨s0, rfl, h0⟩
    | cons d ds ih =>
      intro hs s0 h0
      obtain ⟨s', e1, e2⟩ := hs d List.mem_cons_self
      obtain ⟨s2, e3, e4⟩ := ih (fun d hd => hs d (List.mem_cons_of_mem _ hd)) s' e2
      have e5 : lcStep fg ft fe vs d s0 = lcStep fg ft fe vs d s := by unfold lcStep; rw [h0, hw]
      refine ⟨s2, ?_, e4⟩
      rw [lcGo_cons, e5, e1]
      cases q : g d with
      | none => rw [List.filterMap_cons_none q]; exact e3
      | some v => rw [List.filterMap_cons_some q]; show (lcGo fg ft fe vs ds s').map _ = _; rw [e3]; rfl
  exact h ds hs s hw
theorem fLc_pure {fi : M (List D)} {fg : D → S → Option S} {ft : M Bool} {fe : M D} {vs : List Nat} {ds : List D} {s s1 : S} (g : D → Option D) (hi : fi s = some (ds, s1)) (hl : ds.length ≤ mx) (hw : wipeS vs s1 = s1)
    (hs : ∀ d ∈ ds, ∃ s', lcStep fg ft fe vs d s1 = some (g d, s') ∧ wipeS vs s' = s1) : zLc fi fg ft fe vs s = some (.lst true (ds.filterMap g), s1) := by
  rw [zLc_is]
  obtain ⟨s', e1, e2⟩ := lc_pure g hw hs
  unfold fLc
  rw [hi]
  show (if ds.length ≤ mx then _ else none) = _
  rw [if_pos hl, e1, ← e2]
  rfl
theorem fLc_inv {fi : M (List D)} {fg : D → S → Option S} {ft : M Bool} {fe : M D} {vs : List Nat} {ds : List D} {s s1 : S} (I : Nat → List D → S → Prop) (hi : fi s = some (ds, s1)) (hl : ds.length ≤ mx) (h0 : I 0 [] s1)
    (hs : ∀ i d acc s, ds[i]? = some d → I i acc s → ∃ r s', lcStep fg ft fe vs d s = some (r, s') ∧ I (i + 1) (acc ++ r.toList) s') : ∃ acc s', zLc fi fg ft fe vs s = some (.lst true acc, wipeS vs s') ∧ I ds.length acc s' := by
  rw [zLc_is]
  obtain ⟨acc, s', e1, e2⟩ := lc_inv I h0 hs
  refine ⟨acc, s', ?_, e2⟩
  unfold fLc
  rw [hi]
  show (if ds.length ≤ mx then _ else none) = _
  rw [if_pos hl, e1]
  rfl
/-- a for whose turns all go on: I by the turn and the state -/
theorem loop_inv {step : D → S → Option Out} {ds : List D} {s : S} (I : Nat → S → Prop) (h0 : I 0 s) (hs : ∀ i d s, ds[i]? = some d → I i s → ∃ s', (step d s = some (.nx s') ∨ step d s = some (.ct s')) ∧ I (i + 1) s') :
    ∃ s', fLoop step ds s = some (.nx s') ∧ I ds.length s' := by
  have main : ∀ (k : Nat) (s : S), k ≤ ds.length → I k s → ∃ s', fLoop step (ds.drop k) s = some (.nx s') ∧ I ds.length s' := by
    intro k
    induction hn : ds.length - k generalizing k with
    | zero =>
      intro s hk hi
      have e : k = ds.length := by omega
      subst e
      exact ⟨s, by rw [List.drop_length]; rfl, hi⟩
    | succ n ih =>
      intro s hk hi
      have hlt : k < ds.length := by omega
      obtain ⟨s', e1, e2⟩ := hs k ds[k] s (List.getElem?_eq_getElem hlt) hi
      obtain ⟨s2, e3, e4⟩ := ih (k + 1) (by omega) s' (by omega) e2
      refine ⟨s2, ?_, e4⟩
      rw [List.drop_eq_getElem_cons hlt, fLoop]
      rcases e1 with e1 | e1 <;> (rw [e1]; exact e3)
  obtain ⟨s', h1, h2⟩ := main 0 s (Nat.zero_le _) h0
  exact ⟨s', by simpa using h1, h2⟩
theorem sFor_inv {fi : M (List D)} {fg : D → S → Option S} {fb : S → Option Out} {ds : List D} {s s1 : S} (I : Nat → S → Prop) (hi : fi s = some (ds, s1)) (h0 : I 0 s1)
    (hs : ∀ i d s, ds[i]? = some d → I i s → ∃ s', ((fg d s).bind fb = some (.nx s') ∨ (fg d s).bind fb = some (.ct s')) ∧ I (i + 1) s') : ∃ s', zFor fi fg fb s = some (.nx s') ∧ I ds.length s' := by
  rw [zFor_is]
  obtain ⟨s', e1, e2⟩ := loop_inv (step := fun d s => (fg d s).bind fb) I h0 hs
  refine ⟨s', ?_, e2⟩
  unfold sFor
  rw [hi]
  exact e1
/-- a while: I by a measure -/
theorem wh_inv {ft : M Bool} {fb : S → Option Out} (I : Nat → S → Prop) (Z : S → Prop) (h : ∀ m s, I m s → (∃ s', ft s = some (false, s') ∧ Z s') ∨ ∃ s1 s2 m', ft s = some (true, s1) ∧ (fb s1 = some (.nx s2) ∨ fb s1 = some (.ct s2)) ∧ m' < m ∧ I m' s2) :
    ∀ m s, I m s → ∃ s', sWh ft fb s = some (.nx s') ∧ Z s' := by
  have main : ∀ n m s, m < n → I m s → ∃ s', fWh ft fb n s = some (.nx s') ∧ Z s' := by
    intro n
    induction n with
    | zero => intro m s hm; omega
    | succ n ih =>
      intro m s hm hi
      rw [fWh]
      rcases h m s hi with ⟨s', e, z⟩ | ⟨s1, s2, m', e1, e2, hlt, hi2⟩
      · exact ⟨s', by rw [e]; rfl, z⟩
      · obtain ⟨s', e3, z⟩ := ih m' s2 (by omega) hi2
        refine ⟨s', ?_, z⟩
        rw [e1]
        show (fb s1).bind _ = _
        rcases e2 with e2 | e2 <;> (rw [e2]; exact e3)
  intro m s hi
  obtain ⟨s', e, z⟩ := main (m + 1) m s (Nat.lt_succ_self _) hi
  exact ⟨s', sWh_of (n := m + 1) e, z⟩
end
/-! held for the time of a statement -/
theorem pm_tv {d : D} {ms : List Bool} {s : S} : pmask (true :: ms) (.va d :: s) = .pn d.frz :: pmask ms s := (rfl)
theorem pm_tp {d : D} {ms : List Bool} {s : S} : pmask (true :: ms) (.pn d :: s) = .pn d.frz :: pmask ms s := (rfl)
theorem pm_tn {ms : List Bool} {s : S} : pmask (true :: ms) (.no :: s) = .no :: pmask ms s := (rfl)
theorem pm_f {x : Sl} {ms : List Bool} {s : S} : pmask (false :: ms) (x :: s) = x :: pmask ms s := (rfl)
theorem pm_n {s : S} : pmask [] s = s := by cases s <;> rfl
theorem pg_t {x y : Sl} {ms : List Bool} {s t : S} : pmerge (true :: ms) (x :: s) (y :: t) = x.back y :: pmerge ms s t := (rfl)
theorem pg_f {x y : Sl} {ms : List Bool} {s t : S} : pmerge (false :: ms) (x :: s) (y :: t) = y :: pmerge ms s t := (rfl)
theorem pg_n {s t : S} : pmerge [] s t = t := by cases s <;> rfl
theorem pf_t {y : Sl} {ms : List Bool} {t : S} : pfull (true :: ms) (y :: t) = pfull ms t := (rfl)
theorem pf_f {y : Sl} {ms : List Bool} {t : S} : pfull (false :: ms) (y :: t) = (y.full && pfull ms t) := (rfl)
theorem pf_n : pfull [] [] = true := (rfl)
theorem bk_p {x : Sl} {d : D} : x.back (.pn d) = x := (rfl)
theorem bk_n {x : Sl} : x.back .no = .no := (rfl)
theorem bk_v {x : Sl} {d : D} : x.back (.va d) = .no := (rfl)
theorem po_nx {ms : List Bool} {s t : S} : pout ms s (.nx t) = if pfull ms t = true then some (.nx (pmerge ms s t)) else none := (rfl)
theorem po_bk {ms : List Bool} {s t : S} : pout ms s (.bk t) = if pfull ms t = true then some (.bk (pmerge ms s t)) else none := (rfl)
theorem po_ct {ms : List Bool} {s t : S} : pout ms s (.ct t) = if pfull ms t = true then some (.ct (pmerge ms s t)) else none := (rfl)
theorem po_rt {ms : List Bool} {s t : S} {r : D} : pout ms s (.rt r t) = if r.full = true ∧ pfull ms t = true then some (.rt r (pmerge ms s t)) else none := (rfl)
/-- a local that may be bound or not -/
def Fr (x : Sl) : Prop := x = .no ∨ ∃ d, x = .va d
theorem Fr.no : Fr .no := .inl rfl
theorem Fr.va {d : D} : Fr (.va d) := .inr ⟨d, rfl⟩
def gP : Option Sl → S → Option S
  | some .no, s => some s
  | some (.va _), s => some s
  | _, _ => none
theorem gP_no {s : S} : gP (some .no) s = some s := (rfl)
theorem gP_va {s : S} {d : D} : gP (some (.va d)) s = some s := (rfl)
theorem gP_fr {s : S} {x : Sl} (h : Fr x) : gP (some x) s = some s := by rcases h with rfl | ⟨d, rfl⟩ <;> rfl
theorem q_gS {i : Nat} {d : D} {cc : Sl} {s : S} : gS i d (cc :: s) = gP (cc :: s)[i]? ((cc :: s).set i (.va d)) := by
  unfold gS
  generalize (cc :: s)[i]? = x
  rcases x with _ | (_ | _ | _) <;> rfl
end DL
set_option Elab.async false
set_option linter.all false
set_option maxRecDepth 100000
/-! which built-in class is one of which (printed by mkEv.py) -/
namespace DL
open PySem PySem.Spec PyProof.Rows L2 LB
theorem kb_NoneType_int : kitB "NoneType" "int" = some false := by decide +kernel
theorem kb_bool_int : kitB "bool" "int" = some true := by decide +kernel
theorem kb_int_int : kitB "int" "int" = some true := by decide +kernel
theorem kb_str_int : kitB "str" "int" = some false := by decide +kernel
theorem kb_list_int : kitB "list" "int" = some false := by decide +kernel
theorem kb_tuple_int : kitB "tuple" "int" = some false := by decide +kernel
theorem kb_dict_int : kitB "dict" "int" = some false := by decide +kernel
theorem kb_NoneType_bool : kitB "NoneType" "bool" = some false := by decide +kernel
theorem kb_bool_bool : kitB "bool" "bool" = some true := by decide +kernel
theorem kb_int_bool : kitB "int" "bool" = some false := by decide +kernel
theorem kb_str_bool : kitB "str" "bool" = some false := by decide +kernel
theorem kb_list_bool : kitB "list" "bool" = some false := by decide +kernel
theorem kb_tuple_bool : kitB "tuple" "bool" = some false := by decide +kernel
theorem kb_dict_bool : kitB "dict" "bool" = some false := by decide +kernel
theorem kb_NoneType_str : kitB "NoneType" "str" = some false := by decide +kernel
theorem kb_bool_str : kitB "bool" "str" = some false := by decide +kernel
theorem kb_int_str : kitB "int" "str" = some false := by decide +kernel
theorem kb_str_str : kitB "str" "str" = some true := by decide +kernel
theorem kb_list_str : kitB "list" "str" = some false := by decide +kernel
theorem kb_tuple_str : kitB "tuple" "str" = some false := by decide +kernel
theorem kb_dict_str : kitB "dict" "str" = some false := by decide +kernel
theorem kb_NoneType_list : kitB "NoneType" "list" = some false := by decide +kernel
theorem kb_bool_list : kitB "bool" "list" = some false := by decide +kernel
theorem kb_int_list : kitB "int" "list" = some false := by decide +kernel
theorem kb_str_list : kitB "str" "list" = some false := by decide +kernel
theorem kb_list_list : kitB "list" "list" = some true := by decide +kernel
theorem kb_tuple_list : kitB "tuple" "list" = some false := by decide +kernel
theorem kb_dict_list : kitB "dict" "list" = some false := by decide +kernel
theorem kb_NoneType_tuple : kitB "NoneType" "tuple" = some false := by decide +kernel
theorem kb_bool_tuple : kitB "bool" "tuple" = some false := by decide +kernel
theorem kb_int_tuple : kitB "int" "tuple" = some false := by decide +kernel
theorem kb_str_tuple : kitB "str" "tuple" = some false := by decide +kernel
theorem kb_list_tuple : kitB "list" "tuple" = some false := by decide +kernel
theorem kb_tuple_tuple : kitB "tuple" "tuple" = some true := by decide +kernel
theorem kb_dict_tuple : kitB "dict" "tuple" = some false := by decide +kernel
theorem kb_NoneType_dict : kitB "NoneType" "dict" = some false := by decide +kernel
theorem kb_bool_dict : kitB "bool" "dict" = some false := by decide +kernel
theorem kb_int_dict : kitB "int" "dict" = some false := by decide +kernel
theorem kb_str_dict : kitB "str" "dict" = some false := by decide +kernel
theorem kb_list_dict : kitB "list" "dict" = some false := by decide +kernel
theorem kb_tuple_dict : kitB "tuple" "dict" = some false := by decide +kernel
theorem kb_dict_dict : kitB "dict" "dict" = some true := by decide +kernel
end DL
set_option Elab.async false
set_option linter.all false
set_option maxRecDepth 100000
set_option maxHeartbeats 2000000
/-! the functions over data, at a state (printed by mkEv.py) -/
namespace DL
open PySem PySem.Spec PyProof.Rows L2 LB
section
variable {s : S} {d : D} {i j l : Nat} {fa fb : M D} {ft gt : M Bool} {fas : M (List AR)} {f1 f2 : S → Option Out} {fg : D → S → Option S} {fgs : List D → S → Option S}
theorem q_fC {cc : Sl}  : fC d (cc :: s) = (some (d, (cc :: s))) := (rfl)
theorem q_fV {cc : Sl}  : fV i (cc :: s) = ((Sl.get (cc :: s)[i]?).mpp fun d => (d, (cc :: s))) := (rfl)
theorem q_fMv {cc : Sl}  : fMv i (cc :: s) = (match (cc :: s)[i]? with | some (.va d) => some (d, (cc :: s).set i .no) | _ => none) := (rfl)
theorem q_fOp {cc : Sl} {g : D → D → Option D} : fOp g fa fb (cc :: s) = ((fa (cc :: s)).bnd fun x => (fb x.2).bnd fun y => (g x.1 y.1).mpp fun z => (z, y.2)) := (rfl)
theorem q_fUn {cc : Sl} {g1 : D → Option D} : fUn g1 fa (cc :: s) = ((fa (cc :: s)).bnd fun x => (g1 x.1).mpp fun z => (z, x.2)) := (rfl)
theorem q_fT {cc : Sl}  : fT fa (cc :: s) = ((fa (cc :: s)).bnd fun x => (asB x.1).mpp fun b => (b, x.2)) := (rfl)
theorem q_fAnd {cc : Sl}  : fAnd ft gt (cc :: s) = ((ft (cc :: s)).bnd fun x => if x.1 = true then gt x.2 else some (false, x.2)) := (rfl)
theorem q_fOr {cc : Sl}  : fOr ft gt (cc :: s) = ((ft (cc :: s)).bnd fun x => if x.1 = true then some (true, x.2) else gt x.2) := (rfl)
theorem q_fNot {cc : Sl}  : fNot ft (cc :: s) = ((ft (cc :: s)).mpp fun x => (!x.1, x.2)) := (rfl)
theorem q_fAndV {cc : Sl}  : fAndV fa fb (cc :: s) = ((fa (cc :: s)).bnd fun x => (asB x.1).bnd fun c => if c = true then fb x.2 else some (.bl false, x.2)) := (rfl)
theorem q_fOrV {cc : Sl}  : fOrV fa fb (cc :: s) = ((fa (cc :: s)).bnd fun x => (asB x.1).bnd fun c => if c = true then some (.bl true, x.2) else fb x.2) := (rfl)
theorem q_fNotV {cc : Sl}  : fNotV fa (cc :: s) = ((fa (cc :: s)).bnd fun x => (asB x.1).mpp fun c => (.bl !c, x.2)) := (rfl)
theorem q_fIfE {cc : Sl}  : fIfE ft fa fb (cc :: s) = ((ft (cc :: s)).bnd fun x => if x.1 = true then fa x.2 else fb x.2) := (rfl)
theorem q_fChain {cc : Sl} {g g2 : D → D → Option D} {fc : M D} : fChain g g2 fa fb fc (cc :: s) = ((fa (cc :: s)).bnd fun x => (fb x.2).bnd fun y => if y.1.isFz then (g x.1 y.1).bnd fun z => (asB z).bnd fun k => if k = true then (fc y.2).bnd fun w => (g2 y.1 w.1).mpp fun u => (u, w.2) else some (.bl false, y.2) else none) := (rfl)
theorem q_fAN {cc : Sl}  : fAN (cc :: s) = (some ([], (cc :: s))) := (rfl)
theorem q_fAC {cc : Sl}  : fAC fa fas (cc :: s) = ((fa (cc :: s)).bnd fun x => (fas x.2).mpp fun r => (.inl x.1 :: r.1, r.2)) := (rfl)
theorem q_fAI {cc : Sl}  : fAI i fas (cc :: s) = (if Sl.is (cc :: s)[i]? = true then (fas (cc :: s)).mpp fun r => (.inr i :: r.1, r.2) else none) := (rfl)
theorem q_fAS {cc : Sl}  : fAS fa fas (cc :: s) = ((fa (cc :: s)).bnd fun x => (itemsOf x.1).bnd fun ds => (fas x.2).mpp fun r => (ds.map Sum.inl ++ r.1, r.2)) := (rfl)
theorem q_fLst {cc : Sl}  : fLst fas (cc :: s) = ((fas (cc :: s)).bnd fun a => (ARall a.1).bnd fun ds => if ds.length ≤ mx then some (.lst true ds, a.2) else none) := (rfl)
theorem q_fTup {cc : Sl}  : fTup fas (cc :: s) = ((fas (cc :: s)).bnd fun a => (ARall a.1).bnd fun ds => if ds.length ≤ mx then some (.tup true ds, a.2) else none) := (rfl)
theorem q_fCB {cc : Sl} {gl : List D → Option D} : fCB gl fas (cc :: s) = ((fas (cc :: s)).bnd fun a => (ARall a.1).bnd fun ds => (gl ds).mpp fun z => (z, a.2)) := (rfl)
theorem q_fPN {cc : Sl}  : fPN (cc :: s) = (some (none, (cc :: s))) := (rfl)
theorem q_fPS {cc : Sl}  : fPS fa (cc :: s) = ((fa (cc :: s)).bnd fun x => (asI x.1).mpp fun i => (some i, x.2)) := (rfl)
theorem q_fSl {cc : Sl} {gs : D → Option Int → Option Int → Option D} {fl fh : M (Option Int)} : fSl gs fa fl fh (cc :: s) = ((fa (cc :: s)).bnd fun x => (fl x.2).bnd fun l => (fh l.2).bnd fun h => (gs x.1 l.1 h.1).mpp fun z => (z, h.2)) := (rfl)
theorem q_fSc {cc : Sl} {ms : List Nat} : fSc ms fa (cc :: s) = ((fa (mask ms (cc :: s))).mpp fun x => (x.1, merge (x.1.full && fullK ms x.2) ms (cc :: s) x.2)) := (rfl)
theorem q_fScT {cc : Sl} {ms : List Nat} : fScT ms ft (cc :: s) = ((ft (mask ms (cc :: s))).mpp fun x => (x.1, merge (fullK ms x.2) ms (cc :: s) x.2)) := (rfl)
theorem q_fPick {cc : Sl}  : fPick fas fb (cc :: s) = ((fas (cc :: s)).bnd fun a => if a.1.length ≤ mx then (fb a.2).bnd fun y => (asI y.1).bnd fun k => (atI a.1 k).bnd fun r => match r with | .inl d => some (d, y.2) | .inr i => match y.2[i]? with | some (.va d) => some (d, y.2.set i .no) | _ => none else none) := (rfl)
theorem q_bNil {cc : Sl}  : bNil (cc :: s) = (some (.nx (cc :: s))) := (rfl)
theorem q_bSeq {cc : Sl}  : bSeq f1 f2 (cc :: s) = ((f1 (cc :: s)).bnd fun o => match o with | .nx s2 => f2 s2 | o => some o) := (rfl)
theorem q_sPass {cc : Sl}  : sPass (cc :: s) = (some (.nx (cc :: s))) := (rfl)
theorem q_sBrk {cc : Sl}  : sBrk (cc :: s) = (some (.bk (cc :: s))) := (rfl)
theorem q_sCt {cc : Sl}  : sCt (cc :: s) = (some (.ct (cc :: s))) := (rfl)
theorem q_sNo {cc : Sl}  : sNo (cc :: s) = (none) := (rfl)
theorem q_sRet {cc : Sl}  : sRet fa (cc :: s) = ((fa (cc :: s)).mpp fun x => .rt x.1 x.2) := (rfl)
theorem q_sRetN {cc : Sl}  : sRetN (cc :: s) = (some (.rt .non (cc :: s))) := (rfl)
theorem q_sEx {cc : Sl}  : sEx fa (cc :: s) = ((fa (cc :: s)).mpp fun x => .nx x.2) := (rfl)
theorem q_sIf {cc : Sl}  : sIf ft f1 f2 (cc :: s) = ((ft (cc :: s)).bnd fun x => if x.1 = true then f1 x.2 else f2 x.2) := (rfl)
theorem q_gN {cc : Sl}  : gN [] (cc :: s) = (some (cc :: s)) := (rfl)
theorem q_gC {cc : Sl} {ds : List D} : gC fg fgs (d :: ds) (cc :: s) = ((fg d (cc :: s)).bnd (fgs ds)) := (rfl)
theorem q_gA {cc : Sl} {ds : List D} {o : Bool} {n : Nat} : gA n fgs (.tup o ds) (cc :: s) = (if ds.length = n then fgs ds (cc :: s) else none) := (rfl)
theorem q_gA2 {cc : Sl} {ds : List D} {o : Bool} {n : Nat} : gA n fgs (.lst o ds) (cc :: s) = (if ds.length = n then fgs ds (cc :: s) else none) := (rfl)
theorem q_sAsg {cc : Sl}  : sAsg fa fg (cc :: s) = ((fa (cc :: s)).bnd fun x => (fg x.1 x.2).mpp Out.nx) := (rfl)
theorem q_sPar {cc : Sl}  : sPar i j fas (cc :: s) = ((fas (cc :: s)).bnd fun a => (ARall a.1).bnd fun ds => match ds with | [c, d] => ((gS i c a.2).bnd (gS j d)).mpp Out.nx | _ => none) := (rfl)
theorem q_sPar3 {cc : Sl}  : sPar3 i j l fas (cc :: s) = ((fas (cc :: s)).bnd fun a => (ARall a.1).bnd fun ds => match ds with | [c, d, u] => (((gS i c a.2).bnd (gS j d)).bnd (gS l u)).mpp Out.nx | _ => none) := (rfl)
theorem q_sAug {cc : Sl} {g : D → D → Option D} : sAug i g fa (cc :: s) = ((Sl.get (cc :: s)[i]?).bnd fun d => (fa (cc :: s)).bnd fun y => (g d y.1).bnd fun z => (gS i z y.2).mpp Out.nx) := (rfl)
theorem q_iA {cc : Sl}  : iA fa (cc :: s) = ((fa (cc :: s)).bnd fun x => (seqOf x.1).mpp fun ds => (ds, x.2)) := (rfl)
theorem q_fYes {cc : Sl}  : fYes (cc :: s) = (some (true, (cc :: s))) := (rfl)
theorem q_lcStep {cc : Sl} {vs : List Nat} : lcStep fg ft fa vs d (cc :: s) = ((fg d (wipeS vs (cc :: s))).bnd fun s1 => (ft s1).bnd fun t => if t.1 = true then (fa t.2).mpp fun r => (some r.1, r.2) else some (none, t.2)) := (rfl)
theorem q_fCall {cc : Sl} {io : List Bool} {FD : List D → Option (D × List D)} : fCall io FD fas (cc :: s) = ((fas (cc :: s)).bnd fun a => if okIO io a.1 = true then (takeIO a.1 a.2).bnd fun t => (FD t.1).bnd fun r => (giveIO t.2.1 (selO io a.1 r.2) t.2.2).mpp fun s3 => (r.1, s3) else none) := (rfl)
theorem q_fCallK {cc : Sl} {n m : Nat} {idx : List Nat} {io : List Bool} {FD : List D → Option (D × List D)} {fks : M (List AR)} : fCallK n m idx io FD fas fks (cc :: s) = ((fas (cc :: s)).bnd fun a => (ARall a.1).bnd fun ds => (fks a.2).bnd fun b => (ARall b.1).bnd fun es => if ds.length = n ∧ es.length = m ∧ io.all (fun b => !b) = true ∧ (pickL idx (ds ++ es)).length = io.length then (FD (pickL idx (ds ++ es))).bnd fun r => if r.2.length = 0 then some (r.1, b.2) else none else none) := (rfl)
theorem q_fMt {cc : Sl} {gm : List D → List D → Option (D × List D)} : fMt j gm fas (cc :: s) = (if (Sl.ls (cc :: s)[j]?).isSome = true then (fas (cc :: s)).bnd fun a => (ARall a.1).bnd fun as => (Sl.ls a.2[j]?).bnd fun ds => (gm ds as).mpp fun z => (z.1, Sl.put a.2 j (.lst true z.2)) else none) := (rfl)
theorem q_fMt0 {cc : Sl} {gm : List D → List D → Option (D × List D)} : fMt0 j gm (cc :: s) = (fMt j gm fAN (cc :: s)) := (rfl)
theorem q_mtP {cc : Sl} {gm : List D → List D → Option (D × List D)} {c : Int} {as : List D} : mtP j c gm as (cc :: s) = ((Sl.ls (cc :: s)[j]?).bnd fun ds => (ixN ds.length c).bnd fun n => match ds[n]? with | some (.lst true es) => (gm es as).mpp fun z => (z.1, Sl.put (cc :: s) j (.lst true (ds.set n (.lst true z.2)))) | _ => none) := (rfl)
theorem q_fMtP0 {cc : Sl} {gm : List D → List D → Option (D × List D)} {c : Int} : fMtP0 j c gm (cc :: s) = (mtP j c gm [] (cc :: s)) := (rfl)
theorem q_fMtP {cc : Sl} {gm : List D → List D → Option (D × List D)} {c : Int} : fMtP j c gm fa (cc :: s) = ((fa (cc :: s)).bnd fun x => mtP j c gm [x.1] (cc :: s)) := (rfl)
theorem q_sStore {cc : Sl} {fi : M D} : sStore j fa fi (cc :: s) = ((fa (cc :: s)).bnd fun x => if (Sl.ls x.2[j]?).isSome = true then (fi x.2).bnd fun y => (asI y.1).bnd fun i => (Sl.ls y.2[j]?).bnd fun ds => (ixN ds.length i).mpp fun n => .nx (Sl.put y.2 j (.lst true (ds.set n x.1))) else none) := (rfl)
theorem q_gSb {cc : Sl} {fi : M D} : gSb j fi d (cc :: s) = (if (Sl.ls (cc :: s)[j]?).isSome = true then (fi (cc :: s)).bnd fun y => (asI y.1).bnd fun i => (Sl.ls y.2[j]?).bnd fun ds => (ixN ds.length i).mpp fun n => Sl.put y.2 j (.lst true (ds.set n d)) else none) := (rfl)
theorem q_fDNew {cc : Sl}  : fDNew (cc :: s) = (some (.dct true [], (cc :: s))) := (rfl)
theorem q_sDSet {cc : Sl} {fe fi : M D} : sDSet j fe fi (cc :: s) = ((fe (cc :: s)).bnd fun x => if (Sl.dk x.2[j]?).isSome = true then (fi x.2).bnd fun y => (asI y.1).bnd fun i => (Sl.dk y.2[j]?).bnd fun kvs => if x.1.flat = true ∧ kvs.length ≤ mx then some (.nx (Sl.put y.2 j (.dct true (putD kvs i x.1)))) else none else none) := (rfl)
theorem q_fBM {cc : Sl} {gv : D → List D → Option D} : fBM gv fa fas (cc :: s) = ((fa (cc :: s)).bnd fun x => if x.1.isL = true then (fas x.2).bnd fun a => (ARall a.1).bnd fun as => (gv x.1 as).mpp fun z => (z, a.2) else none) := (rfl)
theorem q_fRev {cc : Sl}  : fRev fa (cc :: s) = ((fa (cc :: s)).bnd fun x => match x.1 with | .lst _ ds => some (.lst true ds.reverse, x.2) | _ => none) := (rfl)
theorem q_fStep {cc : Sl}  : fStep fa fb (cc :: s) = (fOp dStep fa fb (cc :: s)) := (rfl)
theorem q_fRg1 {cc : Sl}  : fRg1 fa (cc :: s) = ((fa (cc :: s)).bnd fun x => (asI x.1).bnd fun n => if -1000000 ≤ n ∧ n ≤ 1000000 then some (.lst true (rgD 0 n.toNat), x.2) else none) := (rfl)
theorem q_fRg2 {cc : Sl}  : fRg2 fa fb (cc :: s) = ((fa (cc :: s)).bnd fun x => (fb x.2).bnd fun y => (asI x.1).bnd fun lo => (asI y.1).bnd fun hi => if -1000000 ≤ lo ∧ lo ≤ 1000000 ∧ -1000000 ≤ hi ∧ hi ≤ 1000000 then some (.lst true (rgD lo (hi - lo).toNat), y.2) else none) := (rfl)
theorem q_sSc {cc : Sl} {mp : List Bool} : sSc mp f1 (cc :: s) = ((f1 (pmask mp (cc :: s))).bnd (pout mp (cc :: s))) := (rfl)
theorem vi_non_int  : dIsiA [.non, .ty "int"] = some (.bl false) := by
  show Option.or ((kitB "NoneType" "int").map D.bl) _ = _
  rw [kb_NoneType_int]; rfl
theorem vi_non_bool  : dIsiA [.non, .ty "bool"] = some (.bl false) := by
  show Option.or ((kitB "NoneType" "bool").map D.bl) _ = _
  rw [kb_NoneType_bool]; rfl
theorem vi_non_str  : dIsiA [.non, .ty "str"] = some (.bl false) := by
  show Option.or ((kitB "NoneType" "str").map D.bl) _ = _
  rw [kb_NoneType_str]; rfl
theorem vi_non_list  : dIsiA [.non, .ty "list"] = some (.bl false) := by
  show Option.or ((kitB "NoneType" "list").map D.bl) _ = _
  rw [kb_NoneType_list]; rfl
theorem vi_non_tuple  : dIsiA [.non, .ty "tuple"] = some (.bl false) := by
  show Option.or ((kitB "NoneType" "tuple").map D.bl) _ = _
  rw [kb_NoneType_tuple]; rfl
theorem vi_non_dict  : dIsiA [.non, .ty "dict"] = some (.bl false) := by
  show Option.or ((kitB "NoneType" "dict").map D.bl) _ = _
  rw [kb_NoneType_dict]; rfl
theorem vi_non_lt  : dIsiA [.non, .tup true [.ty "list", .ty "tuple"]] = some (.bl false) := by
  show Option.or none ((kitL "NoneType" ["list", "tuple"]).map D.bl) = _
  simp only [kitL, kb_NoneType_list, kb_NoneType_tuple]; rfl
theorem vi_bl_int {b : Bool} : dIsiA [(.bl b), .ty "int"] = some (.bl true) := by
  show Option.or ((kitB "bool" "int").map D.bl) _ = _
  rw [kb_bool_int]; rfl
theorem vi_bl_bool {b : Bool} : dIsiA [(.bl b), .ty "bool"] = some (.bl true) := by
  show Option.or ((kitB "bool" "bool").map D.bl) _ = _
  rw [kb_bool_bool]; rfl
theorem vi_bl_str {b : Bool} : dIsiA [(.bl b), .ty "str"] = some (.bl false) := by
  show Option.or ((kitB "bool" "str").map D.bl) _ = _
  rw [kb_bool_str]; rfl
theorem vi_bl_list {b : Bool} : dIsiA [(.bl b), .ty "list"] = some (.bl false) := by
  show Option.or ((kitB "bool" "list").map D.bl) _ = _
  rw [kb_bool_list]; rfl
theorem vi_bl_tuple {b : Bool} : dIsiA [(.bl b), .ty "tuple"] = some (.bl false) := by
  show Option.or ((kitB "bool" "tuple").map D.bl) _ = _
  rw [kb_bool_tuple]; rfl
theorem vi_bl_dict {b : Bool} : dIsiA [(.bl b), .ty "dict"] = some (.bl false) := by
  show Option.or ((kitB "bool" "dict").map D.bl) _ = _
  rw [kb_bool_dict]; rfl
theorem vi_bl_lt {b : Bool} : dIsiA [(.bl b), .tup true [.ty "list", .ty "tuple"]] = some (.bl false) := by
  show Option.or none ((kitL "bool" ["list", "tuple"]).map D.bl) = _
  simp only [kitL, kb_bool_list, kb_bool_tuple]; rfl
theorem vi_int_int {z : Int} : dIsiA [(.int z), .ty "int"] = some (.bl true) := by
  show Option.or ((kitB "int" "int").map D.bl) _ = _
  rw [kb_int_int]; rfl
theorem vi_int_bool {z : Int} : dIsiA [(.int z), .ty "bool"] = some (.bl false) := by
  show Option.or ((kitB "int" "bool").map D.bl) _ = _
  rw [kb_int_bool]; rfl
theorem vi_int_str {z : Int} : dIsiA [(.int z), .ty "str"] = some (.bl false) := by
  show Option.or ((kitB "int" "str").map D.bl) _ = _
  rw [kb_int_str]; rfl
theorem vi_int_list {z : Int} : dIsiA [(.int z), .ty "list"] = some (.bl false) := by
  show Option.or ((kitB "int" "list").map D.bl) _ = _
  rw [kb_int_list]; rfl
theorem vi_int_tuple {z : Int} : dIsiA [(.int z), .ty "tuple"] = some (.bl false) := by
  show Option.or ((kitB "int" "tuple").map D.bl) _ = _
  rw [kb_int_tuple]; rfl
theorem vi_int_dict {z : Int} : dIsiA [(.int z), .ty "dict"] = some (.bl false) := by
  show Option.or ((kitB "int" "dict").map D.bl) _ = _
  rw [kb_int_dict]; rfl
theorem vi_int_lt {z : Int} : dIsiA [(.int z), .tup true [.ty "list", .ty "tuple"]] = some (.bl false) := by
  show Option.or none ((kitL "int" ["list", "tuple"]).map D.bl) = _
  simp only [kitL, kb_int_list, kb_int_tuple]; rfl
theorem vi_str_int {z : Str} : dIsiA [(.str z), .ty "int"] = some (.bl false) := by
  show Option.or ((kitB "str" "int").map D.bl) _ = _
  rw [kb_str_int]; rfl
theorem vi_str_bool {z : Str} : dIsiA [(.str z), .ty "bool"] = some (.bl false) := by
  show Option.or ((kitB "str" "bool").map D.bl) _ = _
  rw [kb_str_bool]; rfl
theorem vi_str_str {z : Str} : dIsiA [(.str z), .ty "str"] = some (.bl true) := by
  show Option.or ((kitB "str" "str").map D.bl) _ = _
  rw [kb_str_str]; rfl
theorem vi_str_list {z : Str} : dIsiA [(.str z), .ty "list"] = some (.bl false) := by
  show Option.or ((kitB "str" "list").map D.bl) _ = _
  rw [kb_str_list]; rfl
theorem vi_str_tuple {z : Str} : dIsiA [(.str z), .ty "tuple"] = some (.bl false) := by
  show Option.or ((kitB "str" "tuple").map D.bl) _ = _
  rw [kb_str_tuple]; rfl
theorem vi_str_dict {z : Str} : dIsiA [(.str z), .ty "dict"] = some (.bl false) := by
  show Option.or ((kitB "str" "dict").map D.bl) _ = _
  rw [kb_str_dict]; rfl
theorem vi_str_lt {z : Str} : dIsiA [(.str z), .tup true [.ty "list", .ty "tuple"]] = some (.bl false) := by
  show Option.or none ((kitL "str" ["list", "tuple"]).map D.bl) = _
  simp only [kitL, kb_str_list, kb_str_tuple]; rfl
theorem vi_lst_int {b : Bool} {ds : List D} : dIsiA [(.lst b ds), .ty "int"] = some (.bl false) := by
  show Option.or ((kitB "list" "int").map D.bl) _ = _
  rw [kb_list_int]; rfl
theorem vi_lst_bool {b : Bool} {ds : List D} : dIsiA [(.lst b ds), .ty "bool"] = some (.bl false) := by
  show Option.or ((kitB "list" "bool").map D.bl) _ = _
  rw [kb_list_bool]; rfl
theorem vi_lst_str {b : Bool} {ds : List D} : dIsiA [(.lst b ds), .ty "str"] = some (.bl false) := by
  show Option.or ((kitB "list" "str").map D.bl) _ = _
  rw [kb_list_str]; rfl
theorem vi_lst_list {b : Bool} {ds : List D} : dIsiA [(.lst b ds), .ty "list"] = some (.bl true) := by
  show Option.or ((kitB "list" "list").map D.bl) _ = _
  rw [kb_list_list]; rfl
theorem vi_lst_tuple {b : Bool} {ds : List D} : dIsiA [(.lst b ds), .ty "tuple"] = some (.bl false) := by
  show Option.or ((kitB "list" "tuple").map D.bl) _ = _
  rw [kb_list_tuple]; rfl
theorem vi_lst_dict {b : Bool} {ds : List D} : dIsiA [(.lst b ds), .ty "dict"] = some (.bl false) := by
  show Option.or ((kitB "list" "dict").map D.bl) _ = _
  rw [kb_list_dict]; rfl
theorem vi_lst_lt {b : Bool} {ds : List D} : dIsiA [(.lst b ds), .tup true [.ty "list", .ty "tuple"]] = some (.bl true) := by
  show Option.or none ((kitL "list" ["list", "tuple"]).map D.bl) = _
  simp only [kitL, kb_list_list, kb_list_tuple]; rfl
theorem vi_tup_int {b : Bool} {ds : List D} : dIsiA [(.tup b ds), .ty "int"] = some (.bl false) := by
  show Option.or ((kitB "tuple" "int").map D.bl) _ = _
  rw [kb_tuple_int]; rfl
theorem vi_tup_bool {b : Bool} {ds : List D} : dIsiA [(.tup b ds), .ty "bool"] = some (.bl false) := by
  show Option.or ((kitB "tuple" "bool").map D.bl) _ = _
  rw [kb_tuple_bool]; rfl
theorem vi_tup_str {b : Bool} {ds : List D} : dIsiA [(.tup b ds), .ty "str"] = some (.bl false) := by
  show Option.or ((kitB "tuple" "str").map D.bl) _ = _
  rw [kb_tuple_str]; rfl
theorem vi_tup_list {b : Bool} {ds : List D} : dIsiA [(.tup b ds), .ty "list"] = some (.bl false) := by
  show Option.or ((kitB "tuple" "list").map D.bl) _ = _
  rw [kb_tuple_list]; rfl
theorem vi_tup_tuple {b : Bool} {ds : List D} : dIsiA [(.tup b ds), .ty "tuple"] = some (.bl true) := by
  show Option.or ((kitB "tuple" "tuple").map D.bl) _ = _
  rw [kb_tuple_tuple]; rfl
theorem vi_tup_dict {b : Bool} {ds : List D} : dIsiA [(.tup b ds), .ty "dict"] = some (.bl false) := by
  show Option.or ((kitB "tuple" "dict").map D.bl) _ = _
  rw [kb_tuple_dict]; rfl
theorem vi_tup_lt {b : Bool} {ds : List D} : dIsiA [(.tup b ds), .tup true [.ty "list", .ty "tuple"]] = some (.bl true) := by
  show Option.or none ((kitL "tuple" ["list", "tuple"]).map D.bl) = _
  simp only [kitL, kb_tuple_list, kb_tuple_tuple]; rfl
theorem vi_dct_int {b : Bool} {ds : List (Key × D)} : dIsiA [(.dct b ds), .ty "int"] = some (.bl false) := by
  show Option.or ((kitB "dict" "int").map D.bl) _ = _
  rw [kb_dict_int]; rfl
theorem vi_dct_bool {b : Bool} {ds : List (Key × D)} : dIsiA [(.dct b ds), .ty "bool"] = some (.bl false) := by
  show Option.or ((kitB "dict" "bool").map D.bl) _ = _
  rw [kb_dict_bool]; rfl
theorem vi_dct_str {b : Bool} {ds : List (Key × D)} : dIsiA [(.dct b ds), .ty "str"] = some (.bl false) := by
  show Option.or ((kitB "dict" "str").map D.bl) _ = _
  rw [kb_dict_str]; rfl
theorem vi_dct_list {b : Bool} {ds : List (Key × D)} : dIsiA [(.dct b ds), .ty "list"] = some (.bl false) := by
  show Option.or ((kitB "dict" "list").map D.bl) _ = _
  rw [kb_dict_list]; rfl
theorem vi_dct_tuple {b : Bool} {ds : List (Key × D)} : dIsiA [(.dct b ds), .ty "tuple"] = some (.bl false) := by
  show Option.or ((kitB "dict" "tuple").map D.bl) _ = _
  rw [kb_dict_tuple]; rfl
theorem vi_dct_dict {b : Bool} {ds : List (Key × D)} : dIsiA [(.dct b ds), .ty "dict"] = some (.bl true) := by
  show Option.or ((kitB "dict" "dict").map D.bl) _ = _
  rw [kb_dict_dict]; rfl
theorem vi_dct_lt {b : Bool} {ds : List (Key × D)} : dIsiA [(.dct b ds), .tup true [.ty "list", .ty "tuple"]] = some (.bl false) := by
  show Option.or none ((kitL "dict" ["list", "tuple"]).map D.bl) = _
  simp only [kitL, kb_dict_list, kb_dict_tuple]; rfl
end
end DL
set_option Elab.async false
set_option linter.all false
set_option maxRecDepth 100000
set_option maxHeartbeats 2000000
set_option exponentiation.threshold 600
/-! repr: how long it is -/
namespace DL
open PySem PySem.Spec PyProof.Rows L2 LB
theorem core10 : ∀ (k fuel n : Nat) (ds : List Char), 1 ≤ k → n < 10 ^ k → (Nat.toDigitsCore 10 fuel n ds).length ≤ ds.length + k := by
  intro k
  induction k with
  | zero => intro _ _ _ h; omega
  | succ k ih =>
    intro fuel n ds _ hn
    cases fuel with
    | zero => simp [Nat.toDigitsCore]
    | succ fuel =>
      rw [Nat.toDigitsCore]
      by_cases h0 : n / 10 = 0
      · rw [if_pos h0]; simp
      · rw [if_neg h0]
        have hk : 1 ≤ k := by
          rcases Nat.eq_zero_or_pos k with h | h
          · subst h; simp at hn; omega
          · exact h
        have h2 : n / 10 < 10 ^ k := by
          rw [Nat.pow_succ] at hn
          omega
        have := ih fuel (n / 10) (Nat.digitChar (n % 10) :: ds) hk h2
        simp only [List.length_cons] at this
        omega
theorem len_nat {k n : Nat} (hk : 1 ≤ k) (hn : n < 10 ^ k) : (Nat.repr n).length ≤ k := by
  have := core10 k (n + 1) n [] hk hn
  unfold Nat.repr Nat.toDigits
  rw [String.length_ofList]
  simpa using this
theorem len_int {k : Nat} {i : Int} (hk : 1 ≤ k) (hi : i.natAbs < 10 ^ k) : (toString i : String).length ≤ k + 1 := by
  cases i with
  | ofNat n =>
    have := len_nat hk (show n < 10 ^ k from hi)
    show (Nat.repr n).length ≤ _
    omega
  | negSucc n =>
    have := len_nat hk (show n + 1 < 10 ^ k from hi)
    show ("-" ++ Nat.repr (n + 1)).length ≤ _
    rw [String.length_append]
    have : ("-" : String).length = 1 := rfl
    omega
theorem slen_append (a b : Str) : (a ++ b).length = a.length + b.length := by
  show (a.cps ++ b.cps).size = _
  rw [Array.size_append]; rfl
theorem textFrom_le : ∀ (ts : List Str) (k : Nat) (acc : Str) (m : Nat), (∀ t ∈ ts, t.length ≤ m) → (textFrom k acc ts).length ≤ acc.length + ts.length * (m + 2)
  | [], k, acc, m, _ => by show acc.length ≤ _; omega
  | t :: r, k, acc, m, h => by
    have h1 := h t List.mem_cons_self
    have h2 := textFrom_le r (k + 1) (acc ++ (if k > 0 then ", " else "" : String) ++ t) m fun t ht => h t (List.mem_cons_of_mem _ ht)
    show (textFrom (k + 1) (acc ++ (if k > 0 then ", " else "" : String) ++ t) r).length ≤ _
    have h3 : (acc ++ ((if k > 0 then ", " else "" : String) : Str) ++ t).length ≤ acc.length + 2 + t.length := by
      rw [slen_append, slen_append]
      have : (((if k > 0 then ", " else "" : String) : Str)).length ≤ 2 := by split <;> decide
      omega
    rw [List.length_cons, Nat.succ_mul]
    omega
theorem listText_le {ts : List Str} {m : Nat} (h : ∀ t ∈ ts, t.length ≤ m) : (listText ts).length ≤ ts.length * (m + 2) + 2 := by
  unfold listText
  rw [slen_append]
  have := textFrom_le ts 0 "[" m h
  have h1 : ("[" : Str).length = 1 := rfl
  have h2 : ("]" : Str).length = 1 := rfl
  omega
/-- data whose repr is asked: its depth, its length -/
structure Rp (d : D) (k n : Nat) : Prop where
  lay : d.py.canLay0 = true
  sh : d.py.showable = true
  dp : d.py.depth ≤ k
  ln : d.py.shown.length ≤ n
theorem Rp.int {i : Int} (h : -100000000000000000000000000000000000000000000000000 < i ∧ i < 100000000000000000000000000000000000000000000000000) : Rp (.int i) 0 51 := by
  have h1 : i.natAbs < 10 ^ 50 := by
    have e : (10 : Nat) ^ 50 = 100000000000000000000000000000000000000000000000000 := by decide
    omega
  refine ⟨rfl, ?_, Nat.le_refl _, ?_⟩
  · have h2 : i.natAbs < 2 ^ 200 := Nat.lt_of_lt_of_le h1 (by decide)
    show decide (i.natAbs.log2 < 1920) = true
    exact decide_eq_true (Nat.lt_of_lt_of_le (PySem.Flt.log2_lt_of (by decide) h2) (by decide))
  · show (Str.ofString (toString i)).length ≤ 51
    rw [ofString_len]
    exact len_int (by decide) h1
theorem Rp.bl {b : Bool} : Rp (.bl b) 0 51 := ⟨rfl, rfl, Nat.le_refl _, by cases b <;> decide⟩
theorem Rp.non : Rp .non 0 51 := ⟨rfl, rfl, Nat.le_refl _, by decide⟩
theorem Rp.mono {d : D} {k n k' n' : Nat} (h : Rp d k n) (hk : k ≤ k') (hn : n ≤ n') : Rp d k' n' := ⟨h.lay, h.sh, Nat.le_trans h.dp hk, Nat.le_trans h.ln hn⟩
theorem rp_all {ds : List D} {k n : Nat} (h : ∀ d ∈ ds, Rp d k n) : PyData.canLayAll0 (D.pyL ds) = true ∧ PyData.showableAll (D.pyL ds) = true ∧ PyData.depthAll (D.pyL ds) ≤ k ∧ (∀ t ∈ PyData.shownAll (D.pyL ds), t.length ≤ n) ∧ (PyData.shownAll (D.pyL ds)).length = ds.length := by
  induction ds with
  | nil => exact ⟨rfl, rfl, Nat.zero_le _, (fun t ht => by cases ht), rfl⟩
  | cons d ds ih =>
    obtain ⟨h1, h2, h3, h4, h5⟩ := ih fun e he => h e (List.mem_cons_of_mem _ he)
    have hd := h d List.mem_cons_self
    rw [D.pyL]
    refine ⟨?_, ?_, ?_, ?_, ?_⟩
    · rw [PyData.canLayAll0, hd.lay, h1]; rfl
    · rw [PyData.showableAll, hd.sh, h2]; rfl
    · rw [PyData.depthAll]
      exact Nat.max_le.mpr ⟨hd.dp, h3⟩
    · intro t ht
      rw [PyData.shownAll] at ht
      rcases List.mem_cons.mp ht with rfl | ht
      · exact hd.ln
      · exact h4 t ht
    · rw [PyData.shownAll, List.length_cons, List.length_cons, h5]
theorem Rp.lst {o : Bool} {ds : List D} {k n : Nat} (h : ∀ d ∈ ds, Rp d k n) : Rp (.lst o ds) (k + 1) (ds.length * (n + 2) + 2) := by
  obtain ⟨h1, h2, h3, h4, h5⟩ := rp_all h
  refine ⟨h1, h2, ?_, ?_⟩
  · rw [D.py, PyData.depth]; omega
  · rw [D.py, PyData.shown]
    have := listText_le h4
    rw [h5] at this
    exact this
theorem Rp.ints {o : Bool} {ns : List Int} (h : ∀ n ∈ ns, -100000000000000000000000000000000000000000000000000 < n ∧ n < 100000000000000000000000000000000000000000000000000) {m : Nat} (hm : ns.length ≤ m) : Rp (.lst o (ns.map D.int)) 1 (m * 53 + 2) := by
  have : Rp (.lst o (ns.map D.int)) 1 ((ns.map D.int).length * 53 + 2) := Rp.lst fun d hd => by
    obtain ⟨n, hn, rfl⟩ := List.mem_map.mp hd
    exact Rp.int (h n hn)
  refine this.mono (Nat.le_refl _) ?_
  rw [List.length_map]
  omega
theorem v_repr {o : Bool} {ds : List D} {k n : Nat} (h : Rp (.lst o ds) k n) (hk : k ≤ 60) (hn : n ≤ 10000000) : dRepr [.lst o ds] = some (.str (D.lst o ds).py.shown) := by
  have hz : (10000000 : Nat) ≤ sizeLine := by decide
  exact if_pos ⟨h.lay, h.sh, Nat.le_trans h.dp hk, Nat.le_trans h.ln (Nat.le_trans hn hz), rfl⟩
/-- what is equal shows equally: frozen or not -/
theorem py_lst {o p : Bool} {ds : List D} : (D.lst o ds).py = (D.lst p ds).py := rfl
end DL
set_option Elab.async false
set_option linter.all false
/-! what comes out of a reckoning: rules by the goal -/
namespace DL
open PySem PySem.Spec PyProof.Rows L2 LB
def Ok {α : Type} (m : Option α) (Q : α → Prop) (_ : Box Q := ⟨⟩) : Prop := ∃ a, m = some a ∧ Q a
theorem Ok.some {α : Type} {a : α} {Q : α → Prop} (h : Q a) : Ok (some a) Q := ⟨a, rfl, h⟩
theorem Ok.bind {α β : Type} {m : Option α} {k : α → Option β} {R : α → Prop} {Q : β → Prop} (h : Ok m R) (hk : ∀ a, R a → Ok (k a) Q) : Ok (m.bnd k) Q := by
  obtain ⟨a, rfl, h⟩ := h
  exact hk a h
theorem Ok.eq {α β : Type} {m : Option α} {a : α} {k : α → Option β} {Q : β → Prop} (h : m = .some a) (hk : Ok (k a) Q) : Ok (m.bnd k) Q := by subst h; exact hk
theorem Ok.mono {α : Type} {m : Option α} {R Q : α → Prop} (h : Ok m R) (hq : ∀ a, R a → Q a) : Ok m Q := by
  obtain ⟨a, e, h⟩ := h
  exact ⟨a, e, hq a h⟩
theorem Ok.is {α : Type} {m : Option α} {b : α} (h : Ok m (fun a => a = b)) : m = .some b := by
  obtain ⟨a, e, rfl⟩ := h
  exact e
theorem Ok.of {α : Type} {m : Option α} {b : α} (h : m = .some b) : Ok m (fun a => a = b) := ⟨b, h, rfl⟩
theorem Ok.ite {α : Type} {c : Prop} [Decidable c] {x y : Option α} {Q : α → Prop} (h1 : c → Ok x Q) (h2 : ¬c → Ok y Q) : Ok (if c then x else y) Q := by
  split
  · exact h1 ‹_›
  · exact h2 ‹_›
theorem Ok.iteb {α β : Type} {c : Prop} [Decidable c] {x y : Option α} {k : α → Option β} {Q : β → Prop} (h1 : c → Ok (x.bnd k) Q) (h2 : ¬c → Ok (y.bnd k) Q) : Ok ((if c then x else y).bnd k) Q := by
  split
  · exact h1 ‹_›
  · exact h2 ‹_›
/-- the next state of a turn -/
def nxt (I : S → Prop) (o : Out) : Prop := ∃ s', (o = .nx s' ∨ o = .ct s') ∧ I s'
theorem nxt.nx {I : S → Prop} {s : S} (h : I s) : nxt I (.nx s) := ⟨s, .inl rfl, h⟩
theorem nxt.ct {I : S → Prop} {s : S} (h : I s) : nxt I (.ct s) := ⟨s, .inr rfl, h⟩
theorem ok_for {α : Type} {fi : M (List D)} {fg : D → S → Option S} {fb : S → Option Out} {ds : List D} {s s1 : S} {k : Out → Option α} {Q : α → Prop} (I : Nat → S → Prop) (hi : fi s = some (ds, s1)) (h0 : I 0 s1)
    (hs : ∀ i d s, ds[i]? = some d → I i s → Ok ((fg d s).bnd fb) (nxt (I (i + 1)))) (hk : ∀ s', I ds.length s' → Ok (k (.nx s')) Q) : Ok ((zFor fi fg fb s).bnd k) Q := by
  obtain ⟨s', e, h⟩ := sFor_inv I hi h0 fun i d s hd hI => by
    obtain ⟨o, e, s', ho, hI⟩ := hs i d s hd hI
    exact ⟨s', ho.imp (fun h => Eq.trans e (congrArg Option.some h)) (fun h => Eq.trans e (congrArg Option.some h)), hI⟩
  exact Ok.eq e (hk s' h)
/-- a turn of a comprehension -/
theorem ok_lc {α : Type} {fi : M (List D)} {fg : D → S → Option S} {ft : M Bool} {fe : M D} {vs : List Nat} {ds : List D} {s s1 : S} {k : D × S → Option α} {Q : α → Prop} (I : Nat → List D → S → Prop) (hi : fi s = some (ds, s1)) (hl : ds.length ≤ mx) (h0 : I 0 [] (wipeS vs s1))
    (hs : ∀ i d acc s, ds[i]? = some d → I i acc s → Ok ((fg d s).bnd fun s1 => (ft s1).bnd fun t => if t.1 = true then (fe t.2).bnd fun r => some (Option.some r.1, r.2) else some (none, t.2)) (fun r => I (i + 1) (acc ++ r.1.toList) (wipeS vs r.2)))
    (hk : ∀ acc s', I ds.length acc s' → Ok (k (.lst true acc, s')) Q) : Ok ((zLc fi fg ft fe vs s).bnd k) Q := by
  obtain ⟨acc, s', e, h⟩ := fLc_inv (fg := fg) (ft := ft) (fe := fe) (fun i acc s => I i acc (wipeS vs s)) hi hl h0 fun i d acc s hd hI => by
    obtain ⟨r, e, h⟩ := hs i d acc _ hd hI
    refine ⟨r.1, r.2, ?_, h⟩
    rw [← e]
    unfold lcStep
    cases fg d (wipeS vs s) with
    | none => rfl
    | some s2 =>
      show (ft s2).bnd _ = (ft s2).bnd _
      cases ft s2 with
      | none => rfl
      | some t =>
        show (if t.1 = true then _ else _) = (if t.1 = true then _ else _)
        rw [map_b]
  exact Ok.eq e (hk acc _ h)
/-- a comprehension over what stays -/
theorem ok_lcp {α : Type} {fi : M (List D)} {fg : D → S → Option S} {ft : M Bool} {fe : M D} {vs : List Nat} {ds : List D} {s s1 : S} {k : D × S → Option α} {Q : α → Prop} (g : D → Option D) (hi : fi s = some (ds, s1)) (hl : ds.length ≤ mx) (hw : wipeS vs s1 = s1)
    (hs : ∀ (i : Nat) (d : D), ds[i]? = some d → Ok ((fg d s1).bnd fun s1 => (ft s1).bnd fun t => if t.1 = true then (fe t.2).bnd fun r => some (Option.some r.1, r.2) else some (none, t.2)) (fun r => r.1 = g d ∧ wipeS vs r.2 = s1))
    (hk : Ok (k (.lst true (ds.filterMap g), s1)) Q) : Ok ((zLc fi fg ft fe vs s).bnd k) Q := by
  refine Ok.eq (fLc_pure g hi hl hw fun d hd => ?_) hk
  obtain ⟨i, hi, rfl⟩ := List.mem_iff_getElem.mp hd
  obtain ⟨r, e, h1, h2⟩ := hs i _ (List.getElem?_eq_getElem hi)
  refine ⟨r.2, ?_, h2⟩
  rw [← h1, show (r.1, r.2) = r from rfl, ← e]
  unfold lcStep
  rw [hw]
  cases fg ds[i] s1 with
  | none => rfl
  | some s2 =>
    show (ft s2).bnd _ = (ft s2).bnd _
    cases ft s2 with
    | none => rfl
    | some t =>
      show (if t.1 = true then _ else _) = (if t.1 = true then _ else _)
      rw [map_b]
theorem ok_wh {α : Type} {ft : M Bool} {fb : S → Option Out} {k : Out → Option α} {Q : α → Prop} (I : Nat → S → Prop) (Z : S → Prop) (m : Nat) {s : S} (hI : I m s)
    (h : ∀ m s, I m s → Ok (ft s) (fun r => if r.1 = true then Ok (fb r.2) (nxt fun s' => ∃ m', m' < m ∧ I m' s') else Z r.2)) (hk : ∀ s', Z s' → Ok (k (.nx s')) Q) : Ok ((sWh ft fb s).bnd k) Q := by
  obtain ⟨s', e, hz⟩ := wh_inv (ft := ft) (fb := fb) I Z (fun m s hI => by
    obtain ⟨⟨b, s1⟩, e1, h1⟩ := h m s hI
    cases b with
    | false => exact .inl ⟨s1, e1, h1⟩
    | true =>
      obtain ⟨o, e2, s2, ho, m', hm, hI'⟩ := h1
      exact .inr ⟨s1, s2, m', e1, ho.imp (fun h => by rw [e2, h]) (fun h => by rw [e2, h]), hm, hI'⟩) m s hI
  exact Ok.eq e (hk s' hz)
theorem rgD_get {lo : Int} {n i : Nat} {d : D} (h : (rgD lo n)[i]? = some d) : d = .int (lo + i) ∧ i < n := by
  rw [rgD, List.getElem?_map, Option.map_eq_some_iff] at h
  obtain ⟨j, hj, rfl⟩ := h
  obtain ⟨h1, h2⟩ := List.getElem?_eq_some_iff.mp hj
  rw [List.length_range] at h1
  rw [List.getElem_range] at h2
  subst h2
  exact ⟨rfl, h1⟩
theorem rgD_len {lo : Int} {n : Nat} : (rgD lo n).length = n := by rw [rgD, List.length_map, List.length_range]
theorem mint_get {ns : List Int} {i : Nat} {d : D} (h : (ns.map D.int)[i]? = some d) : ∃ x, ns[i]? = some x ∧ d = .int x ∧ x ∈ ns ∧ i < ns.length ∧ gi ns i = x := by
  rw [List.getElem?_map, Option.map_eq_some_iff] at h
  obtain ⟨x, hx, rfl⟩ := h
  have h1 := (List.getElem?_eq_some_iff.mp hx).1
  exact ⟨x, hx, rfl, List.mem_of_getElem? hx, h1, by rw [gi_nat h1]; exact (List.getElem?_eq_some_iff.mp hx).2⟩
end DL
set_option Elab.async false
set_option linter.all false
set_option maxRecDepth 100000
set_option maxHeartbeats 2000000
/-! a < b for lists of whole numbers -/
namespace DL
open PySem PySem.Spec PyProof.Rows L2 LB PySem.W
def lexI : List Int → List Int → Bool
  | [], [] => false
  | [], _ :: _ => true
  | _ :: _, [] => false
  | x :: xs, y :: ys => if x = y then lexI xs ys else decide (x < y)
def pyI (ns : List Int) : List PyData := ns.map PyData.int
theorem lexI_is : ∀ xs ys : List Int, PyProof.Rows.lexLt itemOrd (keyToksAll (pyI xs)) (keyToksAll (pyI ys)) = lexI xs ys
  | [], [] => by
    show PyProof.Rows.lexLt itemOrd [.inl 0] [.inl 0] = false
    decide
  | [], y :: ys => by
    show PyProof.Rows.lexLt itemOrd (.inl 0 :: []) (.inl 1 :: _) = true
    rw [lex_atom (by decide)]
    decide
  | x :: xs, [] => by
    show PyProof.Rows.lexLt itemOrd (.inl 1 :: _) (.inl 0 :: []) = false
    rw [lex_atom (by decide)]
    decide
  | x :: xs, y :: ys => by
    show PyProof.Rows.lexLt itemOrd (keyToksAll (.int x :: pyI xs)) (keyToksAll (.int y :: pyI ys)) = _
    rw [lexI]
    by_cases e : x = y
    · rw [if_pos e, dataLt_all_yes (by rfl) (by simp [PyData.eqv, e]), lexI_is xs ys]
    · rw [if_neg e, dataLt_all_no (by rfl) (by simp [PyData.eqv, e]), dataLt_int]
theorem alikeI : ∀ xs ys : List Int, alikeAll (pyI xs) (pyI ys) = true
  | [], _ => by unfold pyI; rw [List.map_nil, alikeAll]
  | _ :: _, [] => by unfold pyI; rw [List.map_nil, List.map_cons, alikeAll]
  | x :: xs, y :: ys => by
    show alikeAll (.int x :: pyI xs) (.int y :: pyI ys) = true
    rw [alikeAll, alikeI xs ys]
    rfl
theorem pyL_ints : ∀ ns : List Int, D.pyL (ns.map D.int) = pyI ns
  | [] => rfl
  | x :: xs => by
    rw [List.map_cons, D.pyL, pyL_ints xs]
    rfl
def rLtD (K : PySem.W.Frag) : R2 := fun x y H Q => ∃ ns ms : List Int, Dp K H x (.list (pyI ns)) ∧ Dp K H y (.list (pyI ms)) ∧ Q (.bl (lexI ns ms)) H
theorem depthI : ∀ ns : List Int, PyData.depthAll (pyI ns) ≤ 1
  | [] => by unfold pyI; rw [List.map_nil]; simp [PyData.depthAll]
  | x :: xs => by
    have := depthI xs
    show PyData.depthAll (.int x :: pyI xs) ≤ 1
    simp only [PyData.depthAll, PyData.depth]
    omega
section
variable {X : Cx} {K : PySem.W.Frag}
theorem op_ltD (hu : X.A.units + 64 < cLine) : OpR X (compareOp .Lt) (rLtD X.K) := by
  intro pins s σ H x y v u Q I rx ry h
  obtain ⟨ns, ms, hd, he, q⟩ := h
  obtain ⟨as, r1⟩ := Dp.reads I _ x v hd rx
  obtain ⟨bs, r2⟩ := Dp.reads I _ y u he ry
  have hq := rcLt_alike _ _ X.A s v u as bs r1 r2 (by rw [alike]; exact alikeI ns ms) (by simp) (by
    have := depthI ns
    simp only [PyData.depth]
    omega)
  rw [dataLt_list, lexI_is] at hq
  exact hq _ _ _ _ ⟨.bl _, H, I, rfl, q⟩
theorem k_ltD (hK : X.K = K) (hu : X.A.units + 64 < cLine) : OpR X (compareOp .Lt) (rLtD K) := by subst hK; exact op_ltD hu
theorem intsOf_is : ∀ {ds : List D} {ns : List Int}, intsOf ds = some ns → ds = ns.map D.int := by
  intro ds
  induction ds with
  | nil => intro ns e; cases e; rfl
  | cons d ds ih =>
    intro ns e
    cases d <;> first | (cases e; done) | skip
    rw [intsOf] at e
    obtain ⟨r, e1, rfl⟩ := Option.map_eq_some_iff.mp e
    rw [ih e1]
    rfl
theorem shp_I {o : Bool} (ns : List Int) : (D.lst o (ns.map D.int)).shp = true := by
  unfold D.shp
  rw [show (D.lst o (ns.map D.int)).py = pl ns from by rw [D.py, pyL_ints]; rfl]
  exact shaped_pl ns
def dLtL : D → D → Option D
  | .lst _ as, .lst _ bs => (intsOf as).bind fun ns => (intsOf bs).map fun ms => .bl (lexI ns ms)
  | _, _ => none
theorem d_ltL : OpD K (rLtD K) dLtL := by
  intro F U C1 C2 H x y d e z Q hz o1 o2 ha k
  match d, e, hz, o1, o2 with
  | .lst o as, .lst p bs, hz, o1, o2 =>
    obtain ⟨ns, e1, hz⟩ := Option.bind_eq_some_iff.mp hz
    obtain ⟨ms, e2, hz⟩ := Option.map_eq_some_iff.mp hz
    subst hz
    have s1 : as = ns.map D.int := intsOf_is e1
    have s2 : bs = ms.map D.int := intsOf_is e2
    subst s1 s2
    have h1 := o1.dp ha (SeqAt.canLay_of_shaped (shp_I (o := o) ns))
    have h2 := o2.dp (U := C1 ++ U) (ha.sub fun x => by simp only [cn_append]; omega) (SeqAt.canLay_of_shaped (shp_I (o := p) ms))
    rw [show (D.lst o (ns.map D.int)).py = .list (pyI ns) from by rw [D.py, pyL_ints]] at h1
    rw [show (D.lst p (ms.map D.int)).py = .list (pyI ms) from by rw [D.py, pyL_ints]] at h2
    exact ⟨ns, ms, h1, h2, k _ H F [] .refl (.z (.bl _)) (ha.sub fun x => by simp only [cn_append, cn_nil]; omega)⟩
def dLtA (d e : D) : Option D := (dLt d e).or (dLtL d e)
theorem c_ltA {RI : R2} (hK : X.K = K) (h : OpR X (compareOp .Lt) RI) (hu : X.A.units + 64 < cLine) : OpR X (compareOp .Lt) (R2or RI (rLtD K)) := opr_or h (k_ltD hK hu)
theorem d_ltA : OpD K (R2or (rI0 fun i j => .bl (decide (i < j))) (rLtD K)) dLtA := opd_or d_lt d_ltL
end
end DL
set_option Elab.async false
set_option linter.all false
set_option maxRecDepth 100000
set_option maxHeartbeats 2000000
/-! {k: v}, a display of one pair: k a whole number, v flat -/
namespace DL
open PySem PySem.Spec PyProof.Rows L2 LB
def fDisp1 (fk fv : M D) : M D := fun s => (fk s).bind fun x => (fv x.2).bind fun y => match x.1 with
  | .int i => if y.1.flat = true then some (.dct true [(.inl i, y.1)], y.2) else none
  | _ => none
section
variable {X : Cx} {K : PySem.W.Frag} {ke ve : Expr} {pos : Pos} {fk fv : M D}
theorem e_disp1 (hk : PE X ke (tF K fk)) (hv : PE X ve (tF K fv)) : PE X (.Dict [some ke] [ve] pos) (tF K (fDisp1 fk fv)) := pe_same (pe_disp (pps_cons hk hv pps_nil) rfl rfl (by simp) (by simp)) fun σ H Q z => by
  obtain ⟨p, F, R, s, r, s', hr, e, k⟩ := z
  obtain ⟨x, ex, e⟩ := Option.bind_eq_some_iff.mp e
  obtain ⟨y, ey, e⟩ := Option.bind_eq_some_iff.mp e
  cases hx : x.1 <;> rw [hx] at e <;> try (cases e; done)
  rename_i i
  dsimp only at e
  split at e
  · rename_i fl
    cases e
    intro q hq
    have hr' : Rel K p F ((q, .dK []) :: R) σ (upd H q (.dK [])) s := by
      obtain ⟨C, hs, ha⟩ := hr
      exact ⟨C, hs, (ha.new hq _).sub fun z => by simp only [cn_append, cn_cons]; omega⟩
    refine ⟨p, F, _, s, x.1, x.2, hr', ex, fun v1 H1 F1 C1 l1 o1 hr1 => ?_⟩
    refine ⟨p, F1, _, x.2, y.1, y.2, hr1, ey, fun v2 H2 F2 C2 l2 o2 hr2 => ?_⟩
    rw [hx] at o1
    obtain ⟨rfl, rfl⟩ := own_int o1
    obtain ⟨rfl, rfl⟩ := own_flV o2 fl
    obtain ⟨C, hs, hA⟩ := hr2
    have hA2 : HA F2 ((q, .dK []) :: (C ++ R)) H2 := hA.sub fun z => by simp only [cn_append, cn_cons, cn_nil]; omega
    refine ⟨(hA2.ow _ List.mem_cons_self).1, [(.inl i, y.1.flV)], rfl, by simp, ?_⟩
    have hfl : KD.fl [((.inl i : Key), y.1)] = true := by unfold KD.fl; simp [fl]
    refine k _ _ F2 _ (l1.trans l2) (.dct (ownK_of F2 hfl)) ⟨C, hs, (hA2.put (.dK (mergeK [] [(.inl i, y.1.flV)]))).sub fun z => ?_⟩
    simp only [cn_append, cn_cons, cn_nil]
    show _ ≤ c1 z (q, HO.dK [(.inl i, y.1.flV)]) + _
    unfold KD.v
    simp only [List.map_cons, List.map_nil]
    omega
  · cases e
end
end DL
set_option Elab.async false
set_option linter.all false
set_option maxRecDepth 100000
set_option maxHeartbeats 2000000
/-! slot[c] += v, c and v whole numbers as they are written -/
namespace DL
open PySem PySem.Spec PyProof.Rows L2 LB
/-- l[i], by values, i from 0 -/
def rGetL (K : PySem.W.Frag) : V → V → Hp → VK → Prop := fun o y H Q => ∃ (p : Addr) (xs : List V) (n : Nat) (v : V), o = .ref p ∧ y = .int (n : Nat) ∧ SqL K H p xs ∧ xs[n]? = some v ∧ Q v H
theorem get_list {X : Cx} : PGet X (rGetL X.K) := by
  intro pins s σ H o i ov iv Q I ro ri h
  obtain ⟨p, xs, n, z, rfl, rfl, hq, he, q⟩ := h
  cases ro
  obtain ⟨t, rfl⟩ := ri
  obtain ⟨its, r, pl, hz⟩ := I.list hq
  obtain ⟨w, ew, rw'⟩ := r.get he
  have hl := r.length
  have hn := line63
  have hlt := (List.getElem?_eq_some_iff.mp he).1
  exact wpAny_getItem_list pl.isList (by omega) (by omega) (by rw [Int.toNat_natCast]; simpa using ew) ⟨z, H, I, rw', q⟩
def sAugS (j n : Nat) (v : Int) : S → Option Out := fun s => (Sl.ls s[j]?).bind fun ds => match ds[n]? with
  | some (.int i) => some (.nx (Sl.put s j (.lst true (ds.set n (.int (i + v))))))
  | _ => none
section
variable {X : Cx} {K : PySem.W.Frag} {x : Str} {p0 tpos pos p2 p3 : Pos} {k2 k3 : Nat}
theorem OwnL.at {F : Hp} : ∀ {vs : List V} {ds : List D} {C : CL} {n : Nat} {i : Int}, OwnL K F vs ds C → ds[n]? = some (.int i) → vs[n]? = some (.int i)
  | _, _, _, _, _, .nil, e => by simp at e
  | _, _, _, 0, i, .cons o t, e => by
    cases e
    obtain ⟨rfl, rfl⟩ := own_int o
    rfl
  | _, _, _, n + 1, i, .cons o t, e => OwnL.at (n := n) t e
theorem s_augS {j n : Nat} {v : Int} (hK : X.K = K) (hp : PE X (.Name x p0) (tVar j)) :
    PS X (.AugAssign (.Subscript (.Name x p0) (.Constant (.int (n : Nat)) k2 p2) tpos) .Add (.Constant (.int v) k3 p3) pos) (tSF K (sAugS j n v)) := by
  subst hK
  refine ps_same (ps_augS hp pe_int get_list pe_int ip_add set_list) fun E σ H z => ?_
  obtain ⟨p, F, R, s, o, hr, e, k⟩ := z
  obtain ⟨ds, ed, e⟩ := Option.bind_eq_some_iff.mp e
  cases q : ds[n]? with
  | none => rw [q] at e; cases e
  | some d =>
    rw [q] at e
    cases d <;> try (cases e; done)
    rename_i i
    cases e
    obtain ⟨C, hs, ha⟩ := hr
    obtain ⟨a, xs, C3, C4, h1, h2, h3, h4⟩ := ls_take hs ed
    have hA : HA F ((a, .lst xs) :: (C3 ++ (C4 ++ R))) H := ha.sub fun x => by simp only [cn_append, cn_cons, cn_nil]; have := h3 x; omega
    have hat := (hA.ow _ List.mem_cons_self).1
    have hlt := (List.getElem?_eq_some_iff.mp q).1
    obtain ⟨C5, m1, m2⟩ := h2.set (v := .int (i + v)) (C1 := []) (.z (.int _)) n hlt
    obtain ⟨C6, m3, m4⟩ := h4 F _ _ C5 .refl m1
    refine ⟨.ref a, h1, a, xs, n, .int i, rfl, rfl, .inl (.inl hat), h2.at q, i, v, rfl, rfl, a, xs, (n : Nat), n, rfl, rfl, hat, ?_, ?_⟩
    · have hl := h2.length
      unfold ixN
      rw [if_pos (by omega)]
      rw [Int.toNat_natCast]
      first | done | rfl | rw [if_pos (by omega)]
    · exact k σ _ F .refl ⟨C6, m3, (hA.put _).sub fun x => by have a2 := m2 x; have a4 := m4 x; simp only [cn_append, cn_cons, cn_nil] at *; omega⟩
end
end DL
set_option Elab.async false
set_option linter.all false
set_option maxRecDepth 100000
set_option maxHeartbeats 2000000
/-! list(zip(xs, ys)) -/
namespace PySem
open Sem (wp)
namespace F
theorem zip_no_len : typeLookup (.type "zip") "__len__" = pure none := by rw [typeLookup_type, builtinLookup_eq_fast]; kernel_rfl
theorem zip_no_hint : typeLookup (.type "zip") "__length_hint__" = pure none := by rw [typeLookup_type, builtinLookup_eq_fast]; kernel_rfl
end F
/-- where the walk stands -/
def ZWalk (z TI TO i1 i2 a b S : Addr) (xs ys : Array Value) (i : Nat) (h : Heap) : Prop :=
  IsPair h TI (.ref i1) (.ref i2) ∧ (∃ o, h.get? TO = some o) ∧ h.IsListIter i1 a i ∧ h.IsListIter i2 b i ∧ h.IsList a xs ∧ h.IsList b ys ∧
    ((IsZip h z TI TO .none ∧ ∃ x y, IsPair h TO x y) ∨ ∃ T f oT, IsZipHeld h z TI TO T f ∧ h.get? T = some oT ∧ T ≠ z ∧ T ≠ i1 ∧ T ≠ i2 ∧ T ≠ S)
/-- the pairs that were handed out -/
def ZOut (xs ys : Array Value) (n0 : Nat) (Ts : List Addr) (h : Heap) : Prop :=
  Ts.Nodup ∧ ∀ (j : Nat) (hj : j < Ts.length), n0 ≤ Ts[j] ∧ ∃ x y, xs[j]? = some x ∧ ys[j]? = some y ∧ IsPair h Ts[j] x y
section
variable {prog : Program} {w : World} {A : Around} {s : Shared} {R : Result → Shared → Prop} {z TI TO i1 i2 a b S : Addr} {xs ys : Array Value}
theorem ZWalk.keep {h h' : Heap} {i : Nat} (q : ZWalk z TI TO i1 i2 a b S xs ys i h) (D : ∀ c ∈ [z, TI, TO, i1, i2, a, b], c ≠ S) (k : ∀ c o, c ≠ S → h.get? c = some o → h'.get? c = some o) : ZWalk z TI TO i1 i2 a b S xs ys i h' := by
  obtain ⟨hTI, ⟨oO, hO⟩, h1, h2, hl1, hl2, hz⟩ := q
  have dz := D z (by simp)
  have d1 := D i1 (by simp)
  have d2 := D i2 (by simp)
  have da := D a (by simp)
  have db := D b (by simp)
  have dI := D TI (by simp)
  have dO := D TO (by simp)
  refine ⟨k _ _ dI hTI, ⟨oO, k _ _ dO hO⟩, h1.at fun o e => k _ o d1 e, h2.at fun o e => k _ o d2 e, hl1.at fun o e => k _ o da e, hl2.at fun o e => k _ o db e, ?_⟩
  rcases hz with ⟨hz, x, y, hTO⟩ | ⟨T, f, oT, hz, hT, r1, r2, r3, r4⟩
  · exact .inl ⟨k _ _ dz hz, x, y, k _ _ dO hTO⟩
  · exact .inr ⟨T, f, oT, k _ _ dz hz, k _ _ r4 hT, r1, r2, r3, r4⟩
theorem zip_loop (hh : A.in1.handled = none) (D : ZipApart z TI TO i1 i2 a b) (DS : ∀ c ∈ [z, TI, TO, i1, i2, a, b], c ≠ S) (hn : min xs.size ys.size ≤ sizeLine) (n0 : Nat) (res : Value) :
    ∀ (k i : Nat) (s : Shared) (acc : Array Value) (c : Nat) (Ts : List Addr), min xs.size ys.size - i = k → i ≤ min xs.size ys.size → n0 ≤ s.heap.objs.size → ZWalk z TI TO i1 i2 a b S xs ys i s.heap →
    s.heap.get? S = some { cls := .type "list", dict := none, data := .seq acc c, slots := #[] } → acc.toList = Ts.map Value.ref → Ts.length = i → ZOut xs ys n0 Ts s.heap → (∀ T ∈ Ts, T ≠ S ∧ T ≠ z ∧ T ≠ TO ∧ T ≠ i1 ∧ T ≠ i2) → n0 ≤ S →
    (∀ h' acc' c' Ts', (∀ d o, d ∉ [S, z, TO, i1, i2] → s.heap.get? d = some o → h'.get? d = some o) → h'.get? S = some { cls := .type "list", dict := none, data := .seq acc' c', slots := #[] } → acc'.toList = Ts'.map Value.ref →
      Ts'.length = min xs.size ys.size → ZOut xs ys n0 Ts' h' → S ∉ Ts' → R (.ok (.ret res)) { s with heap := h' }) →
    codeAny (model prog w) A (.builtin "list.extend.loop" ⟨[.ref S, .ref z, res], []⟩) R s := by
  intro k
  have dSz := DS z (by simp)
  have dS1 := DS i1 (by simp)
  have dS2 := DS i2 (by simp)
  have dSa := DS a (by simp)
  have dSb := DS b (by simp)
  have dSI := DS TI (by simp)
  have dSO := DS TO (by simp)
  induction k with
  | zero =>
    intro i s acc c Ts hk hi hs0 hst hS hacc hTl hout hTs hnS hR
    have hin : i = min xs.size ys.size := by omega
    refine codeAny_builtin F.entry_extend_loop ?_
    rw [Around.under_plainId F.plain_extend_loop _]
    show wpAny _ A.in1 (pyNext (.ref z) >>= _) _ _ s
    obtain ⟨hTI, ⟨oO, hO⟩, h1, h2, hl1, hl2, hz⟩ := hst
    have hend : xs[i]? = none ∨ ys[i]? = none := by
      rw [hin]
      rcases Nat.le_total xs.size ys.size with h | h
      · exact .inl (Array.getElem?_eq_none (by rw [Nat.min_eq_left h]; exact Nat.le_refl _))
      · exact .inr (Array.getElem?_eq_none (by rw [Nat.min_eq_right h]; exact Nat.le_refl _))
    have fin : ∀ h' : Heap, (∀ d o, d ≠ z → d ≠ TO → d ≠ i1 → d ≠ i2 → s.heap.get? d = some o → h'.get? d = some o) → R (.ok (.ret res)) { s with heap := h' } := fun h' hk => by
      refine hR h' acc c Ts (fun d o hd e => hk d o (fun q => hd (by simp [q])) (fun q => hd (by simp [q])) (fun q => hd (by simp [q])) (fun q => hd (by simp [q])) e) (hk S _ (Ne.symm dSz) (Ne.symm dSO) (Ne.symm dS1) (Ne.symm dS2) hS) hacc (by omega)
        ⟨hout.1, fun j hj => ?_⟩ (fun hm => (hTs S hm).1 rfl)
      obtain ⟨q1, x, y, q2, q3, q4⟩ := hout.2 j hj
      obtain ⟨t1, t2, t3, t4, t5⟩ := hTs _ (List.getElem_mem hj)
      exact ⟨q1, x, y, q2, q3, hk _ _ t2 t3 t4 t5 q4⟩
    rcases hz with ⟨hz, x, y, hTO⟩ | ⟨T, f, oT, hz, hT, r1, r2, r3, r4⟩
    · refine wpAny_bind (wpAny_pyNext_zip_end hh D hz hTI hTO h1 h2 hl1 hl2 hend fun h' hk => ?_)
      exact wpAny_pure (fin h' fun d o d1 d2 d3 d4 e => hk d o d1 d2 d3 d4 e)
    · refine wpAny_bind (wpAny_pyNext_zip_end_held hh D hz hT hTI h1 h2 hl1 hl2 hend fun h' hk => ?_)
      exact wpAny_pure (fin h' fun d o d1 d2 d3 d4 e => hk d o d1 d3 d4 e)
  | succ k ih =>
    intro i s acc c Ts hk hi hs0 hst hS hacc hTl hout hTs hnS hR
    have hlt : i < min xs.size ys.size := by omega
    have hsz : acc.size = i := by rw [← Array.length_toList, hacc, List.length_map, hTl]
    refine codeAny_builtin F.entry_extend_loop ?_
    rw [Around.under_plainId F.plain_extend_loop _]
    show wpAny _ A.in1 (pyNext (.ref z) >>= _) _ _ s
    obtain ⟨hTI, ⟨oO, hO⟩, h1, h2, hl1, hl2, hz⟩ := hst
    have hix : i < xs.size := Nat.lt_of_lt_of_le hlt (Nat.min_le_left ..)
    have hiy : i < ys.size := Nat.lt_of_lt_of_le hlt (Nat.min_le_right ..)
    have ex := Array.getElem?_eq_getElem hix
    have ey := Array.getElem?_eq_getElem hiy
    have lt : ∀ {c o}, s.heap.get? c = some o → s.heap.objs.size ≠ c := fun e => Nat.ne_of_gt (Heap.lt_size e)
    have nz : s.heap.objs.size ≠ z := by
      rcases hz with ⟨hz, _⟩ | ⟨T, f, oT, hz, _⟩
      · exact lt hz
      · exact lt hz
    have n1 : s.heap.objs.size ≠ i1 := let ⟨_, e, _⟩ := h1; lt e
    have n2 : s.heap.objs.size ≠ i2 := let ⟨_, e, _⟩ := h2; lt e
    have nS : s.heap.objs.size ≠ S := lt hS
    have nTO : s.heap.objs.size ≠ TO := lt hO
    have nTs : ∀ T ∈ Ts, s.heap.objs.size ≠ T := fun T hT => by
      obtain ⟨j, hj, rfl⟩ := List.getElem_of_mem hT
      obtain ⟨_, _, _, _, _, q⟩ := hout.2 j hj
      exact lt q
    -- behind an item
    have go : ∀ h' : Heap, (∃ o, h'.get? TO = some o) → (∃ f, IsZipHeld h' z TI TO s.heap.objs.size f) ∨ (∃ T f oT, IsZipHeld h' z TI TO T f ∧ h'.get? T = some oT ∧ T ≠ z ∧ T ≠ i1 ∧ T ≠ i2 ∧ T ≠ S) → h'.IsListIter i1 a (i + 1) → h'.IsListIter i2 b (i + 1) → IsPair h' s.heap.objs.size xs[i] ys[i] → h'.objs.size = s.heap.objs.size + 1 →
        (∀ d o, d ≠ z → d ≠ TO → d ≠ i1 → d ≠ i2 → s.heap.get? d = some o → h'.get? d = some o) →
        wpAny (model prog w) A.in1 (updateSeq S (·.push (.ref s.heap.objs.size)) >>= fun _ => again (.builtin "list.extend.loop" ⟨[.ref S, .ref z, res], []⟩))
          (fun fin s' => match fin with | .done f => R (.ok f) s' | .again c' => c'.quiet = true ∧ codeAny (model prog w) A c' R s') (fun e s' => R (.error e) s') { s with heap := h' } := by
      intro h' hO' hz' h1' h2' hp hsize hk
      have hS' := hk S _ (Ne.symm dSz) (Ne.symm dSO) (Ne.symm dS1) (Ne.symm dS2) hS
      have oth : ∀ d o, d ≠ S → h'.get? d = some o → (h'.update S (Obj.mapSeq (·.push (Value.ref s.heap.objs.size)))).get? d = some o := fun d o hd e => (Heap.get?_update_other _ _ (Ne.symm hd)).trans e
      refine wpAny_bind ?_
      refine wpAny_updateSeq (s := { s with heap := h' }) hS' rfl (wpAny_pure ⟨plainId_quiet F.plain_extend_loop _, ?_⟩) (by rw [hsz]; omega) (by show (acc.push _).size ≤ sizeLine + 1; rw [Array.size_push, hsz]; omega)
      refine ih (i + 1) { s with heap := h'.update S (Obj.mapSeq (·.push (Value.ref s.heap.objs.size))) } (acc.push (.ref s.heap.objs.size)) _ (Ts ++ [s.heap.objs.size]) (by omega) hlt ?_ ?_ (Heap.get?_update_self _ hS' rfl) ?_ ?_ ?_ ?_ hnS ?_
      · show n0 ≤ (h'.update _ _).objs.size
        have : (h'.update S (Obj.mapSeq (·.push (Value.ref s.heap.objs.size)))).objs.size = h'.objs.size := by simp [Heap.update]
        omega
      · refine ZWalk.keep (h := h') ⟨hk _ _ D.TIz D.TITO D.TIi1 D.TIi2 hTI, hO', h1', h2', hl1.at fun o e => hk _ o D.l1z D.l1TO D.l1i1 D.l1i2 e, hl2.at fun o e => hk _ o D.l2z D.l2TO D.l2i1 D.l2i2 e, ?_⟩ DS oth
        rcases hz' with ⟨f, q⟩ | q
        · exact .inr ⟨_, f, _, q, hp, nz, n1, n2, nS⟩
        · exact .inr q
      · simp [hacc]
      · simp [hTl]
      · refine ⟨List.nodup_append.mpr ⟨hout.1, by simp, fun x hx y hy => ?_⟩, fun j hj => ?_⟩
        · rw [List.mem_singleton.mp hy]
          exact Ne.symm (nTs x hx)
        · by_cases c : j < Ts.length
          · obtain ⟨q1, x, y, q2, q3, q4⟩ := hout.2 j c
            obtain ⟨t1, t2, t3, t4, t5⟩ := hTs _ (List.getElem_mem c)
            rw [List.getElem_append_left c]
            exact ⟨q1, x, y, q2, q3, oth _ _ t1 (hk _ _ t2 t3 t4 t5 q4)⟩
          · have hj' : j = i := by
              rw [List.length_append, List.length_singleton] at hj; omega
            subst hj'
            rw [List.getElem_append_right (by omega)]
            have e0 : ([s.heap.objs.size] : List Addr)[j - Ts.length]'(by simp; omega) = s.heap.objs.size := by simp
            rw [e0]
            exact ⟨hs0, _, _, ex, ey, oth _ _ nS hp⟩
      · intro T hT
        rcases List.mem_append.mp hT with h | h
        · exact hTs T h
        · rw [List.mem_singleton.mp h]
          exact ⟨nS, nz, nTO, n1, n2⟩
      · intro h'' acc' c' Ts' hk' hS'' hacc' hl' hout' hnm
        refine hR h'' acc' c' Ts' (fun d o hd e => ?_) hS'' hacc' hl' hout' hnm
        have hd2 : d ≠ S ∧ d ≠ z ∧ d ≠ TO ∧ d ≠ i1 ∧ d ≠ i2 := ⟨fun q => hd (by simp [q]), fun q => hd (by simp [q]), fun q => hd (by simp [q]), fun q => hd (by simp [q]), fun q => hd (by simp [q])⟩
        exact hk' d o hd (oth d o hd2.1 (hk d o hd2.2.1 hd2.2.2.1 hd2.2.2.2.1 hd2.2.2.2.2 e))
    rcases hz with ⟨hz, x, y, hTO⟩ | ⟨T, f, oT, hz, hT, r1, r2, r3, r4⟩
    · refine wpAny_bind (wpAny_pyNext_zip_item D hz hTI hTO h1 h2 hl1 hl2 ex ey fun h' a1 a2 a3 a4 a5 a6 hk => ?_)
      exact go h' ⟨_, a2⟩ (.inl ⟨false, a1⟩) a3 a4 a5 a6 hk
    · refine wpAny_bind (wpAny_pyNext_zip_item_held D hz hT hTI h1 h2 hl1 hl2 ex ey fun h' a1 a3 a4 a5 a6 hk => ?_)
      exact go h' ⟨_, hk _ _ D.TOz D.TOi1 D.TOi2 hO⟩ (.inr ⟨T, true, oT, a1, hk _ _ r1 r2 r3 hT, r1, r2, r3, r4⟩) a3 a4 a5 a6 fun d o d1 d2 d3 d4 e => hk d o d1 d3 d4 e
theorem call_list_zip {E : Value → Shared → Prop} {Q : Value → Shared → Prop} (hh : A.handled = none) (D : ZipApart z TI TO i1 i2 a b) (hn : min xs.size ys.size ≤ sizeLine)
    (hz : IsZip s.heap z TI TO .none) (hTI : IsPair s.heap TI (.ref i1) (.ref i2)) (hTO : ∃ x y, IsPair s.heap TO x y) (h1 : s.heap.IsListIter i1 a 0) (h2 : s.heap.IsListIter i2 b 0) (hl1 : s.heap.IsList a xs) (hl2 : s.heap.IsList b ys)
    (hQ : ∀ h' acc c Ts, (∀ d o, d ∉ [z, TO, i1, i2] → s.heap.get? d = some o → h'.get? d = some o) → h'.get? s.heap.objs.size = some { cls := .type "list", dict := none, data := .seq acc c, slots := #[] } → acc.toList = Ts.map Value.ref →
      Ts.length = min xs.size ys.size → ZOut xs ys s.heap.objs.size Ts h' → s.heap.objs.size ∉ Ts → Q (.ref s.heap.objs.size) { s with heap := h' }) :
    wpAny (model prog w) A (call (.type "list") [.ref z]) Q E s := by
  have hT0 : s.TypeIs (.ref z) "zip" := ⟨_, hz, rfl⟩
  obtain ⟨x0, y0, hTO⟩ := hTO
  have lt : ∀ {c o}, s.heap.get? c = some o → c ≠ s.heap.objs.size := fun e => Nat.ne_of_lt (Heap.lt_size e)
  have DS : ∀ c ∈ [z, TI, TO, i1, i2, a, b], c ≠ s.heap.objs.size := fun c hc => by
    simp only [List.mem_cons, List.not_mem_nil, or_false] at hc
    obtain ⟨o1, e1, _⟩ := id h1
    obtain ⟨o2, e2, _⟩ := id h2
    obtain ⟨o3, e3, _⟩ := id hl1
    obtain ⟨o4, e4, _⟩ := id hl2
    rcases hc with rfl | rfl | rfl | rfl | rfl | rfl | rfl
    · exact lt hz
    · exact lt hTI
    · exact lt hTO
    · exact lt e1
    · exact lt e2
    · exact lt e3
    · exact lt e4
  have hSI : s.heap.objs.size ≠ z := Ne.symm (DS z (by simp))
  refine callType_codes (Q₁ := fun obj s₁ => obj = .ref s.heap.objs.size ∧ s₁ = { s with heap := s.heap.push { cls := .type "list", data := .seq #[] } }) F.called_list (F.typeCall_list_1 _) F.entry_list_init
    (code_list_new _ ⟨rfl, rfl⟩) fun obj s₁ h₁ => ?_
  obtain ⟨rfl, rfl⟩ := h₁
  have hS : (s.heap.push { cls := .type "list", data := .seq #[] }).get? s.heap.objs.size = some { cls := .type "list", data := .seq #[] } := Heap.get?_push_size _ rfl
  have pk : ∀ d o, s.heap.get? d = some o → (s.heap.push { cls := .type "list", data := .seq #[] }).get? d = some o := fun d o e => Heap.get?_push_of_some _ e
  refine ⟨⟨_, hS, rfl⟩, F.args_list_init_2 _ _, ?_⟩
  show wpAny _ A.in1.in1 (do let old ← Builtin.List.listItems (.ref s.heap.objs.size); Builtin.List.listUpdate (.ref s.heap.objs.size) (fun _ => #[]); letGo old.toList.reverse; Builtin.List.listExtendWith (.ref s.heap.objs.size) (.ref z) .none) _ _ _
  refine wpAny_bind ?_
  unfold Builtin.List.listItems
  refine wpAny_bind (wpAny_seqItems hS rfl (wpAny_pure ?_))
  show wpAny _ A.in1.in1 (updateSeq s.heap.objs.size (fun _ => #[]) >>= fun _ => letGo (#[] : Array Value).toList.reverse >>= fun _ => Builtin.List.listExtendWith (.ref s.heap.objs.size) (.ref z) .none) _ _ _
  refine wpAny_bind (wpAny_updateSeq hS rfl ?_)
  have hS₂ := Heap.get?_update_self (Obj.mapSeq (fun _ => (#[] : Array Value))) hS rfl
  have k2 : ∀ d o, d ≠ s.heap.objs.size → s.heap.get? d = some o → ((s.heap.push { cls := .type "list", data := .seq #[] }).update s.heap.objs.size (Obj.mapSeq (fun _ => (#[] : Array Value)))).get? d = some o :=
    fun d o hd e => (Heap.get?_update_other _ _ (Ne.symm hd)).trans (pk d o e)
  refine wpAny_bind (wpAny_letGo ?_)
  generalize (s.heap.push { cls := .type "list", data := .seq #[] }).update s.heap.objs.size (Obj.mapSeq (fun _ => (#[] : Array Value))) = g2 at hS₂ k2
  have hz2 := k2 _ _ (DS z (by simp)) hz
  have hT2 : ({ s with heap := g2 } : Shared).TypeIs (.ref z) "zip" := ⟨_, hz2, rfl⟩
  unfold Builtin.List.listExtendWith
  refine wpAny_bind (wpAny_typeOf hT2 ?_)
  have e1 : Builtin.List.listSameRef (.ref s.heap.objs.size) (.ref z) = false := by simp [Builtin.List.listSameRef, hSI]
  have e2 : (Value.type "zip" == Value.type "list") = false := by decide
  have e3 : (Value.type "zip" == Value.type "tuple") = false := by decide
  simp only [e1, e2, e3, Bool.or_false, Bool.false_eq_true, if_false]
  refine wpAny_bind (wpAny_pyIter_zip hz2 ?_)
  refine wpAny_bind (wpAny_holding ?_)
  unfold Builtin.List.listLengthHint
  refine wpAny_bind (wpAny_specialOf hT2 F.zip_no_len ?_)
  show wpAny _ A.in1.in1 (specialOf (Value.ref z) (Str.ofString "__length_hint__") >>= _) _ _ _
  refine wpAny_bind (wpAny_specialOf hT2 F.zip_no_hint ?_)
  refine wpAny_pure ?_
  show wpAny _ A.in1.in1 (rule "list.extend.makes-room" >>= fun _ => Builtin.List.listTouch (.ref s.heap.objs.size) >>= fun _ =>
    again (.builtin "list.extend.loop" ⟨[.ref s.heap.objs.size, .ref z, .none], []⟩)) _ _ _
  refine wpAny_bind (wpAny_rule ?_)
  refine wpAny_bind ?_
  show wpAny _ A.in1.in1 (updateSeq s.heap.objs.size (·.push .none) >>= fun _ => updateSeq s.heap.objs.size (·.pop)) _ _ _
  refine wpAny_bind (wpAny_updateSeq hS₂ rfl ?_)
  have hS₃ := Heap.get?_update_self (Obj.mapSeq (·.push Value.none)) hS₂ rfl
  refine wpAny_updateSeq (hz := by seq_fits) hS₃ rfl ?_
  have hS₄ := Heap.get?_update_self (Obj.mapSeq (·.pop)) hS₃ rfl
  have k4 : ∀ d o, d ≠ s.heap.objs.size → s.heap.get? d = some o → ((g2.update s.heap.objs.size (Obj.mapSeq (·.push Value.none))).update s.heap.objs.size (Obj.mapSeq (·.pop))).get? d = some o :=
    fun d o hd e => (Heap.get?_update_other _ _ (Ne.symm hd)).trans ((Heap.get?_update_other _ _ (Ne.symm hd)).trans (k2 d o hd e))
  generalize (g2.update s.heap.objs.size (Obj.mapSeq (·.push Value.none))).update s.heap.objs.size (Obj.mapSeq (·.pop)) = g4 at hS₄ k4
  have big : s.heap.objs.size ≤ g4.objs.size := Nat.le_of_lt (Heap.lt_size hS₄)
  refine wpAny_pure ⟨plainId_quiet F.plain_extend_loop _, zip_loop (A := A.in1) hh D DS hn s.heap.objs.size .none _ 0 _ _ _ [] rfl (Nat.zero_le _) big ?_ hS₄ rfl rfl ⟨List.nodup_nil, fun j hj => absurd hj (Nat.not_lt_zero _)⟩ (by simp) (Nat.le_refl _) fun h' acc' c' Ts' hk hS' hacc hl hout hnm => ?_⟩
  · exact ⟨k4 _ _ (DS TI (by simp)) hTI, ⟨_, k4 _ _ (DS TO (by simp)) hTO⟩, h1.at fun o e => k4 _ o (DS i1 (by simp)) e, h2.at fun o e => k4 _ o (DS i2 (by simp)) e, hl1.at fun o e => k4 _ o (DS a (by simp)) e, hl2.at fun o e => k4 _ o (DS b (by simp)) e, .inl ⟨k4 _ _ (DS z (by simp)) hz, _, _, k4 _ _ (DS TO (by simp)) hTO⟩⟩
  · refine ⟨rfl, hQ h' acc' c' Ts' (fun d o hd e => ?_) hS' hacc hl hout hnm⟩
    have hd0 := lt e
    exact hk d o (fun q => by
      rcases List.mem_cons.mp q with q | q
      · exact hd0 q
      · exact hd q) (k4 d o hd0 e)
end
end PySem
namespace L2
open PySem PySem.Spec PyProof.Rows
/-- the pairs laid, and the list of them -/
noncomputable def zipH (H : Hp) (S : Addr) (Ts : List Addr) (ps : List (V × V)) : Hp := fun c => if c = S then some (.lst (Ts.map V.ref)) else match (Ts.zip ps).lookup c with
  | some p => some (.tup [p.1, p.2])
  | none => H c
theorem zip_look {Ts : List Addr} {ps : List (V × V)} {c : Addr} {p : V × V} (h : (Ts.zip ps).lookup c = some p) : ∃ j : Nat, Ts[j]? = some c ∧ ps[j]? = some p := by
  induction Ts generalizing ps with
  | nil => cases h
  | cons T Ts ih =>
    cases ps with
    | nil => cases h
    | cons q ps =>
      rw [List.zip_cons_cons, List.lookup_cons] at h
      by_cases e : c = T
      · subst e
        simp at h
        exact ⟨0, rfl, by simp [h]⟩
      · rw [show (c == T) = false from beq_eq_false_iff_ne.mpr e] at h
        obtain ⟨j, h1, h2⟩ := ih h
        exact ⟨j + 1, h1, h2⟩
theorem look_zip {Ts : List Addr} {ps : List (V × V)} (nd : Ts.Nodup) {j : Nat} {c : Addr} {p : V × V} (h1 : Ts[j]? = some c) (h2 : ps[j]? = some p) : (Ts.zip ps).lookup c = some p := by
  induction Ts generalizing ps j with
  | nil => cases h1
  | cons T Ts ih =>
    have nd := List.nodup_cons.mp nd
    cases ps with
    | nil => cases h2
    | cons q ps =>
      rw [List.zip_cons_cons, List.lookup_cons]
      cases j with
      | zero =>
        cases h1
        cases h2
        simp
      | succ j =>
        have hm : c ∈ Ts := List.mem_of_getElem? (show Ts[j]? = some c from h1)
        have e : c ≠ T := fun e => nd.1 (e ▸ hm)
        rw [show (c == T) = false from beq_eq_false_iff_ne.mpr e]
        exact ih nd.2 (show Ts[j]? = some c from h1) (show ps[j]? = some p from h2)
theorem zipH_old {H : Hp} {S : Addr} {Ts : List Addr} {ps : List (V × V)} {c : Addr} (h1 : c ≠ S) (h2 : c ∉ Ts) : zipH H S Ts ps c = H c := by
  unfold zipH
  rw [if_neg h1]
  cases e : (Ts.zip ps).lookup c with
  | none => rfl
  | some p =>
    obtain ⟨j, q, _⟩ := zip_look e
    exact absurd (List.mem_of_getElem? q) h2
theorem zipH_S {H : Hp} {S : Addr} {Ts : List Addr} {ps : List (V × V)} : zipH H S Ts ps S = some (.lst (Ts.map V.ref)) := if_pos rfl
theorem zipH_T {H : Hp} {S : Addr} {Ts : List Addr} {ps : List (V × V)} (nd : Ts.Nodup) (hS : S ∉ Ts) {j : Nat} {c : Addr} {p : V × V} (h1 : Ts[j]? = some c) (h2 : ps[j]? = some p) : zipH H S Ts ps c = some (.tup [p.1, p.2]) := by
  have hne : c ≠ S := fun e => by
    rw [e] at h1
    exact hS (List.mem_of_getElem? h1)
  unfold zipH
  rw [if_neg hne, look_zip nd h1 h2]
def tListZip (K : PySem.W.Frag) (ta : TA) : TE := fun σ H Q => ta σ H fun vs H1 => ∃ a b xs ys, vs = [.ref a, .ref b] ∧ SqL K H1 a xs ∧ SqL K H1 b ys ∧
  ∀ S Ts, Ts.length = (xs.zip ys).length → Ts.Nodup → S ∉ Ts → H1 S = none → (∀ T ∈ Ts, H1 T = none) → Q (.ref S) (zipH H1 S Ts (xs.zip ys))
theorem pe_listZip {X : Cx} {e e2 : Expr} {ta : TA} {p pos p2 pos2 : Pos} (hc : X.calm = true) (hgl : Gl X "list") (hml : X.mg "list" = none) (hg : Gl X "zip") (hm : X.mg "zip" = none) (ha : PA X [e, e2] ta)
    (hs0 : starEach [.Call (.Name "zip" p2) [e, e2] [] pos2] X.env = (false, eval (.Call (.Name "zip" p2) [e, e2] [] pos2) X.env) :: starEach [] X.env := by rfl)
    (hs : starEach [e, e2] X.env = (false, eval e X.env) :: starEach [e2] X.env := by rfl) (hpl : (backTo pos2 (starEach [e2] X.env)).any (·.1) = false := by rfl) :
    PE X (.Call (.Name "list" p) [.Call (.Name "zip" p2) [e, e2] [] pos2] [] pos) (tListZip X.K ta) := by
  refine ⟨fun pins s σ H Q I h => ?_⟩
  refine Call_ (ld_blt I hgl hml PyProof.Rows.boot_list ?_)
  refine PyProof.Rows.callWith_type1 ?_ hs0 rfl
  rw [hs0]
  show wpAny _ _ (spliced ((false, eval (.Call (.Name "zip" p2) [e, e2] [] pos2) X.env) :: backTo pos (starEach [] X.env))) _ _ s
  refine Calls.spliced_cons ?_
  refine Call_ (ld_blt I hg hm PyProof.Rows.boot_zip (PyProof.Rows.callWith_type1 (thn (ha.run pos2 pins s σ H _ I h) fun us s1 ⟨vs, H1, I1, r1, q1⟩ => ?_) hs hpl))
  obtain ⟨a, b, xs, ys, ex, hqx, hqy, q⟩ := q1
  subst ex
  cases r1 with
  | cons r rr =>
    cases rr with
    | cons r' rr =>
      cases rr
      cases r
      cases r'
      obtain ⟨its, rv, p1, z1⟩ := I1.list hqx
      obtain ⟨its2, rv2, p2', z2⟩ := I1.list hqy
      have la : a < s1.heap.objs.size := p1.lt
      have lb : b < s1.heap.objs.size := p2'.lt
      have l1 := rv.length
      have l2 := rv2.length
      refine call_zip_2 p1.isList p2'.isList fun h' hz hTI hTO h1 h2 hsz hk => ?_
      refine Calls.spliced_nil ?_
      have hn : min its.toArray.size its2.toArray.size ≤ sizeLine := by simp only [List.size_toArray]; omega
      refine call_list_zip (I1.ok.hd hc) (PySem.W.ktu_apart s1.heap.objs.size a b la lb) hn hz hTI ⟨_, _, hTO⟩ h1 h2 (p1.isList.at fun o e => hk _ o e) (p2'.isList.at fun o e => hk _ o e) fun h2' acc c Ts hk2 hS hacc hl hout hnm => ?_
      have hS0 : s1.heap.objs.size ≤ h'.objs.size := by omega
      have k : ∀ d o, s1.heap.get? d = some o → h2'.get? d = some o := fun d o e => by
        have ld := Heap.lt_size e
        refine hk2 d o (fun hm => ?_) (hk d o e)
        simp only [List.mem_cons, List.not_mem_nil, or_false] at hm
        rcases hm with z | z | z | z <;> rw [z] at ld
        · exact Nat.lt_irrefl _ (Nat.lt_of_le_of_lt (Nat.le_add_right _ _) ld)
        · exact Nat.lt_irrefl _ (Nat.lt_of_le_of_lt (Nat.le_add_right _ _) ld)
        · exact Nat.lt_irrefl _ ld
        · exact Nat.lt_irrefl _ (Nat.lt_of_le_of_lt (Nat.le_add_right _ _) ld)
      have bT : ∀ T ∈ Ts, s1.heap.objs.size ≤ T := fun T hT => by
        obtain ⟨j, hj, rfl⟩ := List.getElem_of_mem hT
        exact Nat.le_trans hS0 (hout.2 j hj).1
      have fT : ∀ T ∈ Ts, H1 T = none := fun T hT => I1.hok.fresh (bT T hT)
      have fS : H1 h'.objs.size = none := I1.hok.fresh hS0
      have hlz : Ts.length = (xs.zip ys).length := by
        rw [hl, List.length_zip]
        simp only [List.size_toArray]
        rw [l1, l2]
      have old : ∀ d u, H1 d = some u → zipH H1 h'.objs.size Ts (xs.zip ys) d = some u := fun d u e => by
        rw [zipH_old (fun z => by rw [z, fS] at e; cases e) (fun z => by rw [fT d z] at e; cases e)]
        exact e
      refine ⟨.ref h'.objs.size, zipH H1 h'.objs.size Ts (xs.zip ys), ?_, rfl, q _ Ts hlz hout.1 hnm fS fT⟩
      refine I1.un (t' := s1.toks) ⟨fun d o e _ _ _ => k d o e, fun d o e _ _ _ => ⟨o.slots, k d o e⟩, fun d o e n _ => ?_, fun d o e _ => ⟨o, k d o e⟩, fun d xs e => old d _ e, fun d o u e => old d _ e, fun d ps e => ⟨#[], by rw [old d _ e]; simp⟩⟩ fun d u e => ?_
      · have ld := Heap.lt_size e
        rw [zipH_old (fun z => Nat.lt_irrefl _ (Nat.lt_of_lt_of_le ld (by rw [z]; exact hS0))) (fun z => Nat.lt_irrefl _ (Nat.lt_of_lt_of_le ld (bT d z)))]
        exact n
      · by_cases c1 : d = h'.objs.size
        · subst c1
          rw [zipH_S] at e
          cases e
          refine ⟨by rw [List.length_map, hl]; exact hn, acc.toList, c, ?_, by rw [hS]⟩
          rw [hacc]
          have go : ∀ Us : List Addr, Vals (Us.map V.ref) (Us.map Value.ref) := fun Us => by
            induction Us with
            | nil => exact .nil
            | cons U Us ih => exact .cons rfl ih
          exact go Ts
        · by_cases c2 : d ∈ Ts
          · obtain ⟨j, hj, hd⟩ := List.getElem_of_mem c2
            have hjz : j < (xs.zip ys).length := by omega
            have hjx : j < xs.length := by rw [List.length_zip] at hjz; omega
            have hjy : j < ys.length := by rw [List.length_zip] at hjz; omega
            have eT := zipH_T (H := H1) (S := h'.objs.size) (ps := xs.zip ys) hout.1 hnm (by rw [List.getElem?_eq_getElem hj, hd]) (List.getElem?_eq_getElem hjz)
            rw [eT] at e
            cases e
            obtain ⟨_, x, y, ex, ey, hp⟩ := hout.2 j hj
            obtain ⟨u, hu, ru⟩ := rv.get (List.getElem?_eq_getElem hjx)
            obtain ⟨u2, hu2, ru2⟩ := rv2.get (List.getElem?_eq_getElem hjy)
            have eu : u = x := by
              have : its.toArray[j]? = some u := by simpa using hu
              rw [this] at ex; cases ex; rfl
            have eu2 : u2 = y := by
              have : its2.toArray[j]? = some u2 := by simpa using hu2
              rw [this] at ey; cases ey; rfl
            subst eu eu2
            rw [hd] at hp
            rw [List.getElem_zip]
            exact ⟨by show 2 ≤ sizeLine; decide, [u, u2], .cons ru (.cons ru2 .nil), ⟨_, hp, rfl, _, rfl⟩⟩
          · rw [zipH_old c1 c2] at e
            exact (I1.hok d u e).stay (fun c v _ q => k c v q) (fun c q => old _ _ q) fun c xs q => old _ _ q
end L2
namespace DL
open PySem PySem.Spec PyProof.Rows L2 LB
def tupP (x y : D) : D := .tup true [x, y]
def fListZip (fas : M (List AR)) : M D := fun s => (fas s).bind fun a => match a.1 with
  | [.inl d, .inl e] => (lstOf d).bind fun ds => (lstOf e).map fun es => (.lst true (List.zipWith tupP ds es), a.2)
  | _ => none
section
variable {X : Cx} {K : PySem.W.Frag} {fas : M (List AR)} {F : Hp} {R : CL} {H : Hp}
theorem zip_own : ∀ {Ts : List Addr} {xs ys : List V} {ds es : List D}, DnL K F xs ds → DnL K F ys es → Ts.length = (xs.zip ys).length → OwnL K F (Ts.map V.ref) (List.zipWith tupP ds es) (List.zipWith (fun T (p : V × V) => (T, HO.tup [p.1, p.2])) Ts (xs.zip ys))
  | [], [], _, _, _, .nil, _, _ => .nil
  | [], _ :: _, [], _, _, _, .nil, _ => by simpa using OwnL.nil
  | [], _ :: _, _ :: _, _, _, _, _, h => by simp at h
  | _ :: _, [], _, _, _, _, _, h => by simp at h
  | _ :: _, _ :: _, [], _, _, _, _, h => by simp at h
  | T :: Ts, x :: xs, y :: ys, _, _, .cons h1 h2, .cons h3 h4, h => by
    have ih := zip_own (Ts := Ts) h2 h4 (by simpa using h)
    show OwnL K F (V.ref T :: Ts.map V.ref) (tupP _ _ :: _) ((T, HO.tup [x, y]) :: _)
    exact OwnL.cons (C1 := [(T, HO.tup [x, y])]) (.tup (.cons (C1 := []) (.z h1) (.cons (C1 := []) (.z h3) .nil))) ih
theorem zip_fst : ∀ {Ts : List Addr} {ps : List (V × V)}, Ts.length = ps.length → (List.zipWith (fun T (p : V × V) => (T, HO.tup [p.1, p.2])) Ts ps).map Prod.fst = Ts
  | [], [], _ => rfl
  | [], _ :: _, h => by cases h
  | _ :: _, [], h => by cases h
  | T :: Ts, p :: ps, h => by
    show T :: _ = _
    rw [zip_fst (by simpa using h)]
theorem zip_ha {S : Addr} {Ts : List Addr} {ps : List (V × V)} (h : HA F R H) (hl : Ts.length = ps.length) (nd : Ts.Nodup) (hS : S ∉ Ts) (nS : H S = none) (nT : ∀ T ∈ Ts, H T = none) :
    HA F ((S, HO.lst (Ts.map V.ref)) :: (List.zipWith (fun T (p : V × V) => (T, HO.tup [p.1, p.2])) Ts ps ++ R)) (zipH H S Ts ps) := by
  have old : ∀ d u, H d = some u → zipH H S Ts ps d = some u := fun d u e => by
    rw [zipH_old (fun z => by rw [z, nS] at e; cases e) (fun z => by rw [nT d z] at e; cases e)]
    exact e
  have fn : ∀ d, H d = none → F d = none := fun d n => h.fnone n
  refine ⟨fun a u e => old a u (h.fr a u e), fun x hx => ?_, ?_⟩
  · rcases List.mem_cons.mp hx with rfl | hx
    · exact ⟨zipH_S, fn S nS⟩
    · rcases List.mem_append.mp hx with hx | hx
      · obtain ⟨j, hj, rfl⟩ := List.getElem_of_mem hx
        rw [List.length_zipWith] at hj
        have j1 : j < Ts.length := by omega
        have j2 : j < ps.length := by omega
        rw [List.getElem_zipWith]
        exact ⟨zipH_T nd hS (List.getElem?_eq_getElem j1) (List.getElem?_eq_getElem j2), fn _ (nT _ (List.getElem_mem j1))⟩
      · obtain ⟨q1, q2⟩ := h.ow x hx
        exact ⟨old _ _ q1, q2⟩
  · rw [List.map_cons, List.map_append, zip_fst hl]
    have nin : ∀ d, H d = none → d ∉ R.map Prod.fst := fun d n => h.notin n
    refine List.nodup_cons.mpr ⟨fun hm => ?_, List.nodup_append.mpr ⟨nd, h.nd, fun a ha b hb e => ?_⟩⟩
    · rcases List.mem_append.mp hm with hm | hm
      · exact hS hm
      · exact nin S nS hm
    · subst e
      exact nin a (nT a ha) hb
theorem k_listZip {e e2 : Expr} {ta : TA} {p pos p2 pos2 : Pos} (hK : X.K = K) (hc : X.calm = true) (hgl : Gl X "list") (hml : X.mg "list" = none) (hg : Gl X "zip") (hm : X.mg "zip" = none) (ha : PA X [e, e2] ta)
    (hs0 : starEach [.Call (.Name "zip" p2) [e, e2] [] pos2] X.env = (false, eval (.Call (.Name "zip" p2) [e, e2] [] pos2) X.env) :: starEach [] X.env)
    (hs : starEach [e, e2] X.env = (false, eval e X.env) :: starEach [e2] X.env) (hpl : (backTo pos2 (starEach [e2] X.env)).any (·.1) = false) :
    PE X (.Call (.Name "list" p) [.Call (.Name "zip" p2) [e, e2] [] pos2] [] pos) (tListZip K ta) := by subst hK; exact pe_listZip hc hgl hml hg hm ha hs0 hs hpl
theorem e_listZip {e e2 : Expr} {p pos p2 pos2 : Pos} (hK : X.K = K) (hc : X.calm = true) (hgl : Gl X "list") (hml : X.mg "list" = none) (hg : Gl X "zip") (hm : X.mg "zip" = none) (ha : PA X [e, e2] (tFA K fas))
    (hs0 : starEach [.Call (.Name "zip" p2) [e, e2] [] pos2] X.env = (false, eval (.Call (.Name "zip" p2) [e, e2] [] pos2) X.env) :: starEach [] X.env := by rfl)
    (hs : starEach [e, e2] X.env = (false, eval e X.env) :: starEach [e2] X.env := by rfl) (hpl : (backTo pos2 (starEach [e2] X.env)).any (·.1) = false := by rfl) :
    PE X (.Call (.Name "list" p) [.Call (.Name "zip" p2) [e, e2] [] pos2] [] pos) (tF K (fListZip fas)) := pe_same (k_listZip hK hc hgl hml hg hm ha hs0 hs hpl) fun σ H Q z => by
  obtain ⟨p, F, R, s, r, s', hr, e, k⟩ := z
  obtain ⟨⟨as, s1⟩, ex, e⟩ := Option.bind_eq_some_iff.mp e
  refine ⟨p, F, R, s, as, s1, hr, ex, fun vs H1 F1 C1 l1 o1 ⟨C, hs, ha⟩ => ?_⟩
  match as, o1, e with
  | [.inl d, .inl d'], .d (C1 := Ca) o (.d (C1 := Cb) o' .nil), e =>
    obtain ⟨ds, ed, e⟩ := Option.bind_eq_some_iff.mp e
    obtain ⟨es, ee, e⟩ := Option.map_eq_some_iff.mp e
    cases e
    obtain ⟨F2, l2, h2, d2⟩ := fzz (U := Cb ++ (C ++ R)) o (ha.sub fun x => by simp only [cn_append, cn_nil]; omega)
    obtain ⟨F3, l3, h3, d3⟩ := fzz (U := C ++ R) (o'.mono l2) h2
    rw [lstOf_fz ed] at d2
    rw [lstOf_fz ee] at d3
    replace d2 := d2.mono l3
    cases d2 with
    | lst q t =>
      cases d3 with
      | lst q' t' =>
        refine ⟨_, _, _, _, rfl, sqL_mono h3.fr q.l, sqL_mono h3.fr q'.l, fun S Ts hl nd hS nS nT => ?_⟩
        have h4 := zip_ha (ps := List.zip _ _) h3 hl nd hS nS nT
        exact k _ _ F3 _ (l1.trans (l2.trans l3)) (.lst (zip_own t t' hl)) ⟨C, hs.mono (l2.trans l3), h4.sub fun x => by simp only [cn_append, cn_cons]; omega⟩
theorem v_listZip {s s1 : S} {o p : Bool} {ds es : List D} (h : fas s = some ([.inl (.lst o ds), .inl (.lst p es)], s1)) : fListZip fas s = some (.lst true (List.zipWith tupP (ds.map D.frz) (es.map D.frz)), s1) := by
  unfold fListZip
  rw [h]
  rfl
end
end DL
set_option Elab.async false
set_option linter.all false
set_option maxRecDepth 100000
set_option maxHeartbeats 2000000
/-! comprehensions with two fors -/
namespace DL
open PySem PySem.Spec PyProof.Rows L2 LB
def lc2Go (fg : D → S → Option S) (ft : M Bool) (fi1 : M (List D)) (fg1 : D → S → Option S) (ft1 : M Bool) (fe : M D) (vs vs1 : List Nat) : List D → S → Option (List D × S)
  | [], s => some ([], s)
  | d :: ds, s => (fg d (wipeS vs s)).bind fun s1 => (ft s1).bind fun t => if t.1 = true then (fi1 t.2).bind fun x => (lcGo fg1 ft1 fe vs1 x.1 x.2).bind fun q => (lc2Go fg ft fi1 fg1 ft1 fe vs vs1 ds q.2).map fun r => (q.1 ++ r.1, r.2)
      else lc2Go fg ft fi1 fg1 ft1 fe vs vs1 ds t.2
def fLc2 (fi : M (List D)) (fg : D → S → Option S) (ft : M Bool) (fi1 : M (List D)) (fg1 : D → S → Option S) (ft1 : M Bool) (fe : M D) (vs vs1 : List Nat) : M D := fun s => (fi s).bind fun x => (lc2Go fg ft fi1 fg1 ft1 fe vs vs1 x.1 x.2).bind fun q => if q.1.length ≤ mx then some (.lst true q.1, wipeS vs q.2) else none
section
variable {X : Cx} {K : PySem.W.Frag} {tg tg1 : Expr} {js js1 : List Nat} {fg fg1 : D → S → Option S} {ft ft1 : M Bool} {fe : M D} {fi fi1 : M (List D)} {vs vs1 : List Nat}
theorem wipeS_out {vs : List Nat} {s : S} {i : Nat} (h : i ∉ vs) : (wipeS vs s)[i]? = s[i]? := by
  induction vs with
  | nil => rfl
  | cons v vs ih =>
    rw [wipeS, List.getElem?_set_ne (fun e => h (by rw [← e]; exact List.mem_cons_self)), ih fun z => h (List.mem_cons_of_mem _ z)]
theorem wipeS_two {vs vs1 : List Nat} {s : S} (h : ∀ j ∈ vs1, j ∈ vs) : wipeS vs (wipeS vs1 s) = wipeS vs s := by
  refine List.ext_getElem? fun i => ?_
  by_cases hi : i ∈ vs
  · rcases wipeS_in (s := wipeS vs1 s) hi with z | z
    · rw [z]
      rcases wipeS_in (s := s) hi with y | y
      · rw [y]
      · have h1 := (List.getElem?_eq_some_iff.mp z).1
        rw [wipeS_len, wipeS_len] at h1
        omega
    · rw [wipeS_len] at z
      rw [List.getElem?_eq_none (by rw [wipeS_len, wipeS_len]; exact z), List.getElem?_eq_none (by rw [wipeS_len]; exact z)]
  · rw [wipeS_out hi, wipeS_out hi, wipeS_out fun z => hi (h i z)]
theorem tF_lc2 (hj : ∀ j ∈ js, j ∈ vs) (hj1 : ∀ j ∈ js1, j ∈ vs1) (hv : ∀ j ∈ vs1, j ∈ vs) {σ : L2.St} {H : Hp} {Q : VK} (z : tF K (fLc2 fi fg ft fi1 fg1 ft1 fe vs vs1) σ H Q) :
    tLc2 (tIF K fi) (tGF K js fg) (tFT K ft) (tIF K fi1) (tGF K js1 fg1) (tFT K ft1) (tF K fe) vs vs1 σ H Q := by
  obtain ⟨p, F, R, s, r, s', hr, e, k⟩ := z
  obtain ⟨⟨ds, s1⟩, ex, e⟩ := Option.bind_eq_some_iff.mp e
  obtain ⟨⟨out, s9⟩, eg, e⟩ := Option.bind_eq_some_iff.mp e
  change (if out.length ≤ mx then some (D.lst true out, wipeS vs s9) else none) = some (r, s') at e
  split at e
  rotate_left
  · cases e
  rename_i hl
  cases e
  refine ⟨p, F, R, s, ds, s1, hr, ex, fun J H1 F1 l1 ⟨C1, hs1, ha1⟩ hJ A nA => ?_⟩
  obtain ⟨G, Y, w, hG, hY⟩ := hJ
  refine ⟨fun i m H => m = ds.length - i ∧ i ≤ ds.length ∧ ∃ F' si accV accD Ca Cs rest, Le F1 F' ∧ Slots K F' σ p (wipeS vs si) Cs ∧ OwnL K F' accV accD Ca ∧ HA F' ((A, .lst accV) :: (Ca ++ (Cs ++ R))) H ∧
    lc2Go fg ft fi1 fg1 ft1 fe vs vs1 (ds.drop i) si = some (rest, s9) ∧ out = accD ++ rest, ⟨ds.length, rfl, Nat.zero_le _, ?_⟩, ?_⟩
  · obtain ⟨C', h2, h3⟩ := hs1.wipe vs
    exact ⟨F1, s1, [], [], [], C', out, .refl, h2, .nil, (ha1.new nA _).sub fun x => by simp only [cn_append, cn_cons, cn_nil]; have := h3 x; omega, by simpa using eg, rfl⟩
  rintro i m H ⟨rfl, hi, F', si, accV, accD, Ca, Cs, rest, l, hs, hacc, ha, hgo, ho⟩
  have hGH := hG H (l.trans ha.fr)
  by_cases hlt : i < ds.length
  rotate_left
  · have e : i = ds.length := by omega
    subst e
    refine .inl ⟨w.stops H hGH, ?_⟩
    rw [List.drop_length] at hgo
    cases hgo
    rw [List.append_nil] at ho
    subst ho
    exact k _ H F' _ (l1.trans l) (.lst hacc) ⟨Cs, hs, ha.sub fun x => by simp only [cn_append, cn_cons]; omega⟩
  refine .inr ⟨w.goes i H hlt hGH, fun H' => ∃ F' si accV accD Ca Cs rest, Le F1 F' ∧ Slots K F' σ p (wipeS vs si) Cs ∧ OwnL K F' accV accD Ca ∧ HA F' ((A, .lst accV) :: (Ca ++ (Cs ++ R))) H' ∧
    lc2Go fg ft fi1 fg1 ft1 fe vs vs1 (ds.drop (i + 1)) si = some (rest, s9) ∧ out = accD ++ rest, fun H' q => ⟨ds.length - (i + 1), by omega, rfl, hlt, q⟩, fun x H' y => ?_⟩
  obtain ⟨F2, d, l2, h2, hd, dd⟩ := hY i H x H' F' _ l ha (w.yields i H x H' hlt hGH y) hlt
  rw [List.drop_eq_getElem_cons hlt] at hgo
  have hd' : ds[i] = d := by rw [List.getElem?_eq_getElem hlt] at hd; exact Option.some.inj hd
  rw [hd', lc2Go] at hgo
  obtain ⟨s2, e2, hgo⟩ := Option.bind_eq_some_iff.mp hgo
  obtain ⟨⟨tb, s3⟩, e3, hgo⟩ := Option.bind_eq_some_iff.mp hgo
  have hs' : Slots K F2 (wipe σ vs) p (wipeS vs si) Cs := (hs.mono l2).wiped (wipe_length _ _) fun i hi => by rw [wipe_get, if_neg hi]
  refine ⟨p, F2, (A, .lst accV) :: (Ca ++ R), wipeS vs si, d, [], s2, .z dd, ⟨Cs, hs', h2.sub fun x => by simp only [cn_append, cn_cons, cn_nil]; omega⟩, e2, fun σ3 H3 F3 l3 r3 n3 q3 => ?_⟩
  have q3' : ∀ i, i ∉ vs → σ3[i]? = σ[i]? := fun i hi => by rw [q3 i fun z => hi (hj i z), wipe_get, if_neg hi]
  have n3' : σ3.length = σ.length := n3.trans (wipe_length _ _)
  refine ⟨wipe_eq n3' q3', p, F3, _, s2, tb, s3, r3, e3, fun H4 F4 l4 r4 => ?_⟩
  have l14 : Le F1 F4 := l.trans (l2.trans (l3.trans l4))
  have back : ∀ {F5 : Hp} {s5 : S} {R5 : CL} {H5 : Hp}, Rel K p F5 R5 σ3 H5 s5 → ∃ C', Slots K F5 σ p (wipeS vs s5) C' ∧ HA F5 (C' ++ R5) H5 := by
    rintro F5 s5 R5 H5 ⟨C5, hs5, ha5⟩
    obtain ⟨C', h6, h7⟩ := hs5.wipe vs
    exact ⟨C', h6.wiped n3'.symm fun i hi => (q3' i hi).symm, ha5.sub fun x => by simp only [cn_append]; have := h7 x; omega⟩
  cases tb with
  | false =>
    refine iteF ?_
    change lc2Go fg ft fi1 fg1 ft1 fe vs vs1 (ds.drop (i + 1)) s3 = some (rest, s9) at hgo
    obtain ⟨C', h6, h7⟩ := back r4
    exact ⟨F4, s3, accV, accD, Ca, C', rest, l14, h6, hacc.mono (l2.trans (l3.trans l4)), h7.sub fun x => by simp only [cn_append, cn_cons]; omega, hgo, ho⟩
  | true =>
    refine iteT ?_
    change ((fi1 s3).bind fun x => (lcGo fg1 ft1 fe vs1 x.1 x.2).bind fun q => (lc2Go fg ft fi1 fg1 ft1 fe vs vs1 (ds.drop (i + 1)) q.2).map fun r => (q.1 ++ r.1, r.2)) = some (rest, s9) at hgo
    obtain ⟨⟨es, s4⟩, e4, hgo⟩ := Option.bind_eq_some_iff.mp hgo
    obtain ⟨⟨mid, s7⟩, e7, hgo⟩ := Option.bind_eq_some_iff.mp hgo
    obtain ⟨⟨restO, s8⟩, e8, hgo⟩ := Option.map_eq_some_iff.mp hgo
    cases hgo
    refine ⟨p, F4, _, s3, es, s4, r4, e4, fun J1 H5 F5 l5 ⟨C5, hs5, ha5⟩ hJ1 => ?_⟩
    obtain ⟨G1, Y1, w1, hG1, hY1⟩ := hJ1
    -- the inner walk
    refine ⟨fun j m H => m = es.length - j ∧ j ≤ es.length ∧ ∃ F' sj accV accD Ca Cs rj, Le F5 F' ∧ Slots K F' σ3 p (wipeS vs1 sj) Cs ∧ OwnL K F' accV accD Ca ∧ HA F' ((A, .lst accV) :: (Ca ++ (Cs ++ R))) H ∧
      lcGo fg1 ft1 fe vs1 (es.drop j) sj = some (rj, s7) ∧ out = accD ++ (rj ++ restO), ⟨es.length, rfl, Nat.zero_le _, ?_⟩, ?_⟩
    · obtain ⟨C', h6, h7⟩ := hs5.wipe vs1
      exact ⟨F5, s4, accV, accD, Ca, C', mid, .refl, h6, hacc.mono (l2.trans (l3.trans (l4.trans l5))), ha5.sub fun x => by simp only [cn_append, cn_cons]; have := h7 x; omega, by simpa using e7, by rw [ho]⟩
    rintro j m H ⟨rfl, hjl, Fj, sj, accV, accD, Ca, Cs, rj, lj, hsj, hacc, haj, hgo, ho⟩
    have hGj := hG1 H (lj.trans haj.fr)
    by_cases hjt : j < es.length
    rotate_left
    · have e : j = es.length := by omega
      subst e
      refine .inl ⟨w1.stops H hGj, ?_⟩
      rw [List.drop_length] at hgo
      cases hgo
      obtain ⟨C', h6, h7⟩ := hsj.wipe vs
      have h6' : Slots K Fj σ p (wipeS vs (wipeS vs1 s7)) C' := h6.wiped n3'.symm fun i hi => (q3' i hi).symm
      rw [wipeS_two hv] at h6'
      exact ⟨Fj, s7, accV, accD, Ca, C', restO, l14.trans (l5.trans lj), h6', hacc, haj.sub fun x => by simp only [cn_append, cn_cons]; have := h7 x; omega, e8, ho⟩
    refine .inr ⟨w1.goes j H hjt hGj, fun H' => ∃ F' sj accV accD Ca Cs rj, Le F5 F' ∧ Slots K F' σ3 p (wipeS vs1 sj) Cs ∧ OwnL K F' accV accD Ca ∧ HA F' ((A, .lst accV) :: (Ca ++ (Cs ++ R))) H' ∧
      lcGo fg1 ft1 fe vs1 (es.drop (j + 1)) sj = some (rj, s7) ∧ out = accD ++ (rj ++ restO), fun H' q => ⟨es.length - (j + 1), by omega, rfl, hjt, q⟩, fun x1 H6 y1 => ?_⟩
    obtain ⟨F6, d1, l6, h6, hd1, dd1⟩ := hY1 j H x1 H6 Fj _ lj haj (w1.yields j H x1 H6 hjt hGj y1) hjt
    rw [List.drop_eq_getElem_cons hjt] at hgo
    have hd1' : es[j] = d1 := by rw [List.getElem?_eq_getElem hjt] at hd1; exact Option.some.inj hd1
    rw [hd1', lcGo] at hgo
    obtain ⟨s5, e5, hgo⟩ := Option.bind_eq_some_iff.mp hgo
    obtain ⟨⟨tb1, s6⟩, e6, hgo⟩ := Option.bind_eq_some_iff.mp hgo
    have hs6 : Slots K F6 (wipe σ3 vs1) p (wipeS vs1 sj) Cs := (hsj.mono l6).wiped (wipe_length _ _) fun i hi => by rw [wipe_get, if_neg hi]
    refine ⟨p, F6, (A, .lst accV) :: (Ca ++ R), wipeS vs1 sj, d1, [], s5, .z dd1, ⟨Cs, hs6, h6.sub fun x => by simp only [cn_append, cn_cons, cn_nil]; omega⟩, e5, fun σ4 H7 F7 l7 r7 n7 q7 => ?_⟩
    have q7' : ∀ i, i ∉ vs1 → σ4[i]? = σ3[i]? := fun i hi => by rw [q7 i fun z => hi (hj1 i z), wipe_get, if_neg hi]
    have n7' : σ4.length = σ3.length := n7.trans (wipe_length _ _)
    refine ⟨wipe_eq n7' q7', p, F7, _, s5, tb1, s6, r7, e6, fun H8 F8 l8 r8 => ?_⟩
    have back1 : ∀ {Fa : Hp} {sa : S} {Ra : CL} {Ha : Hp}, Rel K p Fa Ra σ4 Ha sa → ∃ C', Slots K Fa σ3 p (wipeS vs1 sa) C' ∧ HA Fa (C' ++ Ra) Ha := by
      rintro Fa sa Ra Ha ⟨Cb, hsa, haa⟩
      obtain ⟨C', h9, h10⟩ := hsa.wipe vs1
      exact ⟨C', h9.wiped n7'.symm fun i hi => (q7' i hi).symm, haa.sub fun x => by simp only [cn_append]; have := h10 x; omega⟩
    cases tb1 with
    | false =>
      refine iteF ?_
      change lcGo fg1 ft1 fe vs1 (es.drop (j + 1)) s6 = some (rj, s7) at hgo
      obtain ⟨C', h9, h10⟩ := back1 r8
      exact ⟨F8, s6, accV, accD, Ca, C', rj, lj.trans (l6.trans (l7.trans l8)), h9, hacc.mono (l6.trans (l7.trans l8)), h10.sub fun x => by simp only [cn_append, cn_cons]; omega, hgo, ho⟩
    | true =>
      refine iteT ?_
      change ((fe s6).bind fun r => (lcGo fg1 ft1 fe vs1 (es.drop (j + 1)) r.2).map fun q => (r.1 :: q.1, q.2)) = some (rj, s7) at hgo
      obtain ⟨⟨ra, sa⟩, ea, hgo⟩ := Option.bind_eq_some_iff.mp hgo
      obtain ⟨⟨qa, sb⟩, eb, hgo⟩ := Option.map_eq_some_iff.mp hgo
      have hq1 : ra :: qa = rj := congrArg Prod.fst (Option.some.inj (congrArg some hgo))
      have hq2 : sb = s7 := congrArg Prod.snd (Option.some.inj (congrArg some hgo))
      rw [hq2] at eb
      rw [← hq1] at ho
      refine ⟨p, F8, _, s6, ra, sa, r8, ea, fun v H9 F9 C9 l9 o9 r9 => ?_⟩
      obtain ⟨C', h9, h10⟩ := back1 r9
      have hlen : accD.length < out.length := by rw [ho, List.length_append, List.length_append, List.length_cons]; omega
      refine ⟨accV, (h10.ow (A, .lst accV) (by simp)).1, szl (by rw [hacc.length]; have : mx = 1000000 := rfl; omega), F9, sa, accV ++ [v], accD ++ [ra], Ca ++ (C9 ++ []), C', qa, lj.trans (l6.trans (l7.trans (l8.trans l9))), h9, ?_, ?_, eb, by rw [ho]; simp⟩
      · exact (hacc.mono (l6.trans (l7.trans (l8.trans l9)))).append (.cons o9 .nil)
      · have h11 : HA F9 ((A, .lst accV) :: (C' ++ (C9 ++ (Ca ++ R)))) H9 := h10.sub fun x => by simp only [cn_append, cn_cons]; omega
        exact (h11.put _).sub fun x => by simp only [cn_append, cn_cons, cn_nil]; omega
theorem e_lc2 {elt iter iter1 : Expr} {ifs ifs1 : List Expr} {scope : Scope} {own : List (Str × Nat)} {pos : Pos} (hvs : own.map (·.2) = vs) (hj : ∀ j ∈ js, j ∈ vs) (hj1 : ∀ j ∈ js1, j ∈ vs1) (hv : ∀ j ∈ vs1, j ∈ vs) (hc : X.calm = true) (hN : X.N.Nodup) (hi : PI X tg iter (tIF K fi)) (ok : BlkOk X.N X.env.scope scope own)
    (hg : ∀ (s : Shared) (H : Hp) (C : Addr) (cl : List (Str × Addr)) (fp : List Addr), PG (X.blk s H scope (compEnvC scope cl C X.env) fp) tg (tGF K js fg)) (ht : ∀ (s : Shared) (H : Hp) (C : Addr) (cl : List (Str × Addr)) (fp : List Addr), PTs (X.blk s H scope (compEnvC scope cl C X.env) fp) ifs (tFT K ft))
    (hi1 : ∀ (s : Shared) (H : Hp) (C : Addr) (cl : List (Str × Addr)) (fp : List Addr), PI (X.blk s H scope (compEnvC scope cl C X.env) fp) tg1 iter1 (tIF K fi1))
    (hg1 : ∀ (s : Shared) (H : Hp) (C : Addr) (cl : List (Str × Addr)) (fp : List Addr), PG (X.blk s H scope (compEnvC scope cl C X.env) fp) tg1 (tGF K js1 fg1)) (ht1 : ∀ (s : Shared) (H : Hp) (C : Addr) (cl : List (Str × Addr)) (fp : List Addr), PTs (X.blk s H scope (compEnvC scope cl C X.env) fp) ifs1 (tFT K ft1))
    (he : ∀ (s : Shared) (H : Hp) (C : Addr) (cl : List (Str × Addr)) (fp : List Addr), PE (X.blk s H scope (compEnvC scope cl C X.env) fp) elt (tF K fe)) (hs : ∀ x, foldedSetIterable iter X.env x = pure x := by intro _; rfl) (hs1 : ∀ env x, foldedSetIterable iter1 env x = pure x := by intro _ _; rfl) :
    PE X (.ListComp elt [⟨tg, iter, ifs, 0⟩, ⟨tg1, iter1, ifs1, 0⟩] scope pos) (tF K (fLc2 fi fg ft fi1 fg1 ft1 fe vs vs1)) := by
  subst hvs
  exact pe_same (pe_lc2 hc hN hi ok hv hg ht hi1 hg1 ht1 he hs hs1) fun σ H Q z => tF_lc2 hj hj1 hv z
theorem s_setLc2 {i : Nat} {y : Str} {py : Pos} {elt iter iter1 : Expr} {ifs ifs1 : List Expr} {scope : Scope} {own : List (Str × Nat)} {pos spos : Pos} (hvs : own.map (·.2) = vs) (hj : ∀ j ∈ js, j ∈ vs) (hj1 : ∀ j ∈ js1, j ∈ vs1) (hv : ∀ j ∈ vs1, j ∈ vs) (hc : X.calm = true) (hN : X.N.Nodup) (hy : X.N[i]? = some y) (hyl : X.env.scope.names.lookup y = some .local)
    (hsw : swapsWith (.ListComp elt [⟨tg, iter, ifs, 0⟩, ⟨tg1, iter1, ifs1, 0⟩] scope pos) (some (.Name y py)) spos.line X.env = pure true) (hi : PI X tg iter (tIF K fi)) (ok : BlkOk X.N X.env.scope scope own)
    (hg : ∀ (s : Shared) (H : Hp) (C : Addr) (cl : List (Str × Addr)) (fp : List Addr), PG (X.blk s H scope (compEnvC scope cl C X.env) fp) tg (tGF K js fg)) (ht : ∀ (s : Shared) (H : Hp) (C : Addr) (cl : List (Str × Addr)) (fp : List Addr), PTs (X.blk s H scope (compEnvC scope cl C X.env) fp) ifs (tFT K ft))
    (hi1 : ∀ (s : Shared) (H : Hp) (C : Addr) (cl : List (Str × Addr)) (fp : List Addr), PI (X.blk s H scope (compEnvC scope cl C X.env) fp) tg1 iter1 (tIF K fi1))
    (hg1 : ∀ (s : Shared) (H : Hp) (C : Addr) (cl : List (Str × Addr)) (fp : List Addr), PG (X.blk s H scope (compEnvC scope cl C X.env) fp) tg1 (tGF K js1 fg1)) (ht1 : ∀ (s : Shared) (H : Hp) (C : Addr) (cl : List (Str × Addr)) (fp : List Addr), PTs (X.blk s H scope (compEnvC scope cl C X.env) fp) ifs1 (tFT K ft1))
    (he : ∀ (s : Shared) (H : Hp) (C : Addr) (cl : List (Str × Addr)) (fp : List Addr), PE (X.blk s H scope (compEnvC scope cl C X.env) fp) elt (tF K fe)) (ms : List Nat) (hs : ∀ x, foldedSetIterable iter X.env x = pure x := by intro _; rfl) (hs1 : ∀ env x, foldedSetIterable iter1 env x = pure x := by intro _ _; rfl) :
    PS X (.Assign [.Name y py] (.ListComp elt [⟨tg, iter, ifs, 0⟩, ⟨tg1, iter1, ifs1, 0⟩] scope pos) spos) (tSF K (sAsg (fSc ms (fLc2 fi fg ft fi1 fg1 ft1 fe vs vs1)) (gS i))) := by
  subst hvs
  refine ps_same (ps_setLc2 hc hN hy hyl hsw hi ok hv hg ht hi1 hg1 ht1 he hs hs1) fun E σ H z => tS_asg (fun σ H Q z => tF_lc2 hj hj1 hv (tF_sc ms z)) (fun _ _ _ _ z => tG_name z) z
noncomputable def zLc2 : M (List D) → (D → S → Option S) → M Bool → M (List D) → (D → S → Option S) → M Bool → M D → List Nat → List Nat → M D := wax fLc2
theorem zLc2_is : zLc2 = fLc2 := wax_is _
theorem e_zlc2 {e : Expr} (h : PE X e (tF K (fLc2 fi fg ft fi1 fg1 ft1 fe vs vs1))) : PE X e (tF K (zLc2 fi fg ft fi1 fg1 ft1 fe vs vs1)) := by rw [zLc2_is]; exact h
theorem s_zlc2 {st : Stmt} {ms : List Nat} {g : D → S → Option S} (h : PS X st (tSF K (sAsg (fSc ms (fLc2 fi fg ft fi1 fg1 ft1 fe vs vs1)) g))) : PS X st (tSF K (sAsg (fSc ms (zLc2 fi fg ft fi1 fg1 ft1 fe vs vs1)) g)) := by rw [zLc2_is]; exact h
/-- rows of pure turns -/
theorem lc2_pure {ds : List D} {s1 : S} (g : D → List D) (hw : wipeS vs s1 = s1)
    (hs : ∀ d ∈ ds, ∃ s2 t2 es s3 s4, fg d s1 = some s2 ∧ ft s2 = some (true, t2) ∧ fi1 t2 = some (es, s3) ∧ lcGo fg1 ft1 fe vs1 es s3 = some (g d, s4) ∧ wipeS vs s4 = s1) : ∃ s', lc2Go fg ft fi1 fg1 ft1 fe vs vs1 ds s1 = some (ds.flatMap g, s') ∧ wipeS vs s' = s1 := by
  have h : ∀ (ds : List D), (∀ d ∈ ds, ∃ s2 t2 es s3 s4, fg d s1 = some s2 ∧ ft s2 = some (true, t2) ∧ fi1 t2 = some (es, s3) ∧ lcGo fg1 ft1 fe vs1 es s3 = some (g d, s4) ∧ wipeS vs s4 = s1) → ∀ s0, wipeS vs s0 = s1 → ∃ s', lc2Go fg ft fi1 fg1 ft1 fe vs vs1 ds s0 = some (ds.flatMap g, s') ∧ wipeS vs s' = s1 := by
    intro ds
    induction ds with
    | nil => intro _ s0 h0; exact ⟨s0, rfl, h0⟩
    | cons d ds ih =>
      intro hs s0 h0
      obtain ⟨s2, t2, es, s3, s4, e1, e2, e3, e4, e5⟩ := hs d List.mem_cons_self
      obtain ⟨s', e6, e7⟩ := ih (fun d hd => hs d (List.mem_cons_of_mem _ hd)) s4 e5
      refine ⟨s', ?_, e7⟩
      rw [lc2Go, h0, e1]
      show (ft s2).bind _ = _
      rw [e2]
      show (fi1 t2).bind _ = _
      rw [e3]
      show (lcGo fg1 ft1 fe vs1 es s3).bind _ = _
      rw [e4]
      show (lc2Go fg ft fi1 fg1 ft1 fe vs vs1 ds s4).map _ = _
      rw [e6, List.flatMap_cons]
      rfl
  exact h ds hs s1 hw
theorem fLc2_pure {ds : List D} {s s1 : S} (g : D → List D) (hi : fi s = some (ds, s1)) (hl : (ds.flatMap g).length ≤ mx) (hw : wipeS vs s1 = s1)
    (hs : ∀ d ∈ ds, ∃ s2 t2 es s3 s4, fg d s1 = some s2 ∧ ft s2 = some (true, t2) ∧ fi1 t2 = some (es, s3) ∧ lcGo fg1 ft1 fe vs1 es s3 = some (g d, s4) ∧ wipeS vs s4 = s1) : zLc2 fi fg ft fi1 fg1 ft1 fe vs vs1 s = some (.lst true (ds.flatMap g), s1) := by
  rw [zLc2_is]
  obtain ⟨s', e1, e2⟩ := lc2_pure g hw hs
  unfold fLc2
  rw [hi]
  show (lc2Go fg ft fi1 fg1 ft1 fe vs vs1 ds s1).bind _ = _
  rw [e1]
  show (if _ then _ else _) = _
  rw [if_pos hl, ← e2]
end
end DL
set_option Elab.async false
set_option linter.all false
set_option maxRecDepth 100000
set_option maxHeartbeats 4000000
set_option exponentiation.threshold 600
/-! sorted(set(whole numbers)), however many -/
namespace L2
open PySem PySem.Spec PyProof.Rows
section
variable {prog : Program} {w : World} {A : Around} {s : Shared}
def numV (v : Value) : Int := Builtin.Re.reRawOf v
theorem swo_num : SrtO.Swo fun v u : Value => decide (numV v < numV u) :=
  ⟨fun x y h => by
    have h := of_decide_eq_true h
    exact decide_eq_false (by omega), fun x y z h1 h2 => by
    have h1 := of_decide_eq_false h1
    have h2 := of_decide_eq_false h2
    exact decide_eq_false (by omega)⟩
theorem ints_sortableO {a : Addr} {vs : List Value} (h2 : 2 ≤ vs.length) (hi : ∀ v ∈ vs, ∃ k tk, v = Value.int k tk) : SrtO.SortableO prog w A s a vs fun v u => decide (numV v < numV u) := by
  intro h' keep
  refine ⟨oneType', fun Q E hq => ?_, fun p q hp hq => ?_⟩
  · match vs, h2 with
    | v₁ :: v₂ :: rest, _ =>
      rw [keyKind_ints (ints_of _ hi)]
      exact wpAny_pure hq
  · obtain ⟨k, t, e⟩ := hi _ hp
    obtain ⟨k', t', e'⟩ := hi _ hq
    show wpAny (model prog w) A (keyLt' oneType' p.1 q.1) _ _ _
    rw [e, e', keyLt'_oneType]
    refine oneLt_int ⟨rfl, ?_⟩
    show _ = decide (numV p.1 < numV q.1)
    rw [e, e']
    rfl
end
section
variable {P : Program} {w : World} {A : Around} {E : Value → Shared → Prop} {s : Shared} {a : Addr}
theorem sorted_setA {S : Int → Bool} {n : Nat} {Q : Value → Shared → Prop} (R : SetR w s.heap a S n) (hh : A.handled = none) (hsz : n ≤ sizeLine)
    (hQ : ∀ s' p (out : Array Value) (c : Nat) (ns : List Int), (∀ b o, s.heap.get? b = some o → s'.heap.get? b = some o) → s'.gens = s.gens → s'.os = s.os → s.heap.objs.size ≤ p →
      s'.heap.get? p = some (seqObj "list" out c) → IntsAre out.toList ns → ns.Pairwise (· < ·) → (∀ k, k ∈ ns ↔ S k = true) → ns.length = n → Q (.ref p) s') :
    wpAny (model P w) A (call (.builtin "sorted") [.ref a]) Q E s := by
  obtain ⟨o, es, ep, t, ho, hex, hd, g, nd, hm, hb, hf, hn, hr, hl⟩ := R
  refine Calls.call_function_entry kind_sorted plain_sorted entry_sorted (args_sorted1 _) ?_
  unfold Builtin.«sorted»
  refine wpAny_bind (m := checkCount "sorted" 1 1 _) (wpAny_pure ?_)
  refine wpAny_bind (collect_set (A := A.in1) hh ⟨o, ho, hex.1, hd⟩ hf hb hr hl fun s1 vs k1 hz g1 o1 pm => ?_)
  have hvl : vs.length = n := by rw [pm.length_eq, List.length_map, Array.length_toList]; exact hn
  have hints : ∀ v ∈ vs, ∃ k tk, v = Value.int k tk := fun v hv => by
    obtain ⟨e, he, q⟩ := List.mem_map.mp (pm.mem_iff.mp hv)
    obtain ⟨k, tk, h1, _⟩ := g e he
    exact ⟨k, tk, by rw [← q]; exact h1⟩
  have pk : (vs.map Builtin.Re.reRawOf).Perm (es.toList.map keyOf) := by
    have q := pm.map Builtin.Re.reRawOf
    rw [List.map_map] at q
    exact q
  have hvz : vs.length ≤ sizeLine := by rw [hvl]; exact hsz
  refine wpAny_bind (wpAny_newList ?_ hvz)
  have hoL : (s1.heap.push (seqObj "list" vs.toArray 0)).get? s1.heap.objs.size = some (seqObj "list" vs.toArray 0) := Heap.get?_push_size _ rfl
  refine wpAny_bind (wpAny_holding (wpAny_call_entry slot_list_sort ⟨_, hoL, rfl⟩ entry_list_sort (SrtO.list_sort_ord swo_num hoL hvz (fun h2 => ints_sortableO h2 hints) fun out a1 a2 => ⟨_, rfl, ?_⟩) (args_list_sort _)))
  obtain ⟨c, hc⟩ := sortedHeap_at (vs := vs) (out := out.toArray) hoL
  have pv : out.Perm vs := a2.perm
  have hI : IntsAre out (out.map Builtin.Re.reRawOf) := ints_of out fun v hv => hints v (pv.mem_iff.mp hv)
  have pn : (out.map Builtin.Re.reRawOf).Perm (es.toList.map keyOf) := (pv.map _).trans pk
  have up : (out.map Builtin.Re.reRawOf).Pairwise (· ≤ ·) := by
    rw [List.pairwise_map]
    refine a1.imp fun {x y} h => ?_
    have h := of_decide_eq_false h
    show numV x ≤ numV y
    omega
  refine wpAny_pure ⟨_, rfl, hQ _ s1.heap.objs.size out.toArray c _ (fun b u e => ?_) g1 o1 hz hc (by simpa using hI) (lt_of_le_nodup _ up (pn.nodup_iff.mpr nd)) (fun k => by rw [pn.mem_iff, ← hm k]) ?_⟩
  · have q := k1 b u e
    have hlt := Heap.lt_size q
    show (sortedHeap (s1.heap.push (seqObj "list" vs.toArray 0)) s1.heap.objs.size vs out.toArray).get? b = some u
    rw [sortedHeap_old (Nat.ne_of_lt hlt) (by rw [size_push']; exact Nat.lt_succ_of_lt hlt)]
    exact Heap.get?_push_of_some _ q
  · rw [pn.length_eq, List.length_map, Array.length_toList]; exact hn
end
end L2
namespace DL
open PySem PySem.Spec PyProof.Rows L2 LB
theorem setI_len (ns : List Int) : (setI ns).length ≤ ns.length := by
  have h : ∀ {a b : List Int}, a.Nodup → (∀ x ∈ a, x ∈ b) → a.length ≤ b.length := by
    intro a
    induction a with
    | nil => intro b _ _; exact Nat.zero_le _
    | cons x a ih =>
      intro b nd h
      have nd := List.nodup_cons.mp nd
      have hx := h x List.mem_cons_self
      have ih := ih (b := b.erase x) nd.2 fun y hy => (List.mem_erase_of_ne (fun (e : y = x) => nd.1 (by rw [← e]; exact hy))).mpr (h y (List.mem_cons_of_mem _ hy))
      rw [List.length_erase_of_mem hx] at ih
      have := List.length_pos_of_mem hx
      simp only [List.length_cons]
      omega
  exact h (up_nodup (setI_up ns)) fun x hx => mem_setI.mp hx
section
variable {X : Cx} {K : PySem.W.Frag} {a : Expr} {fe : M D} {pos : Pos} {F : Hp}
def tSsetA (K : PySem.W.Frag) (ta : TE) : TE := fun σ H Q => ta σ H fun x H1 => ∃ (l : Addr) (ns : List Int), x = V.ref l ∧ SqL K H1 l (ns.map V.int) ∧ ns.length ≤ 4000 ∧ ∀ p, H1 p = none → Q (.ref p) (upd H1 p (.lst ((setI ns).map V.int)))
theorem pe_ssetA {ta : TE} {p p2 q : Pos} (hc : X.calm = true) (g1 : Gl X "sorted") (m1 : X.mg "sorted" = none) (g2 : Gl X "set") (m2 : X.mg "set" = none) (ha : PE X a ta)
    (na : starEach [a] X.env = (false, eval a X.env) :: starEach [] X.env := by rfl) : PE X (.Call (.Name "sorted" p) [.Call (.Name "set" p2) [a] [] q] [] pos) (tSsetA X.K ta) := by
  refine ⟨fun pins s σ H Q I h => Call_ (ld_blt I g1 m1 PyProof.Rows.boot_sorted ?_)⟩
  refine PyProof.Rows.callWith_builtin1 (PyProof.Rows.args_cons ?_ rfl) rfl rfl
  refine Call_ (ld_blt I g2 m2 PyProof.Rows.boot_set ?_)
  refine PyProof.Rows.callWith_type1 (PyProof.Rows.args_cons (thn (ha.run pins s σ H _ I h) fun v z ⟨x, H1, I1, rx, qx⟩ => PyProof.Rows.args_nil ?_) na) na rfl
  obtain ⟨l, ns, rfl, hs, few, kk⟩ := qx
  cases rx
  obtain ⟨its, rv, pl, _⟩ := I1.list hs
  refine set_of_list (I1.ok.hd hc) pl.isList (ns := ns) (by simpa using rv.ints) (by unfold scanBound; omega) fun g tk c R _ old => ?_
  refine PyProof.Rows.args_nil ?_
  have I2 : Inv X pins σ H1 { z with heap := g, toks := tk } := I1.kept old
  rw [setR_count R] at R
  have R2 : SetR X.w ({ z with heap := g, toks := tk } : Shared).heap z.heap.objs.size (fun j => decide (j ∈ ns)) (setI ns).length := R
  generalize z.heap.objs.size = sa at R2 ⊢
  generalize ({ z with heap := g, toks := tk } : Shared) = u at I2 R2 ⊢
  refine sorted_setA R2 (I2.ok.hd hc) (by rw [sizeLine_eq]; have := setI_len ns; omega) fun y d out e ms k1 k2 k3 k4 k5 k6 up mem len => ?_
  have hsame : ms = setI ns := up_same up (setI_up ns) fun j => by
    rw [mem j, mem_setI]
    exact decide_eq_true_iff
  subst hsame
  have fresh : H1 d = none := I2.hok.fresh k4
  have short : ((setI ns).map V.int).length ≤ sizeLine := by rw [List.length_map, sizeLine_eq]; have := setI_len ns; omega
  have J : Inv X pins σ (upd H1 d (.lst ((setI ns).map V.int))) { u with heap := y.heap, gens := y.gens, drawn := y.drawn, toks := y.toks } :=
    I2.call (ch := []) (Un.laid k1 k4 fresh) (I2.hok.laid k1 k4 ⟨short, out.toList, e, vals_of_ints k6, k5⟩) (by rw [k2]; exact I2.bare) (fun _ z => nomatch z)
  have same : y = { u with heap := y.heap, gens := y.gens, drawn := y.drawn, toks := y.toks } := by
    cases y
    cases u
    cases k3
    rfl
  rw [same]
  exact ⟨.ref d, _, J, rfl, kk d fresh⟩
def dSsetA : D → Option D
  | .lst _ ds => (intsOf ds).bind fun ns => if ns.length ≤ 4000 then some (.lst true ((setI ns).map D.int)) else none
  | _ => none
theorem e_ssetA {p p2 q : Pos} (hK : X.K = K) (hc : X.calm = true) (g1 : Gl X "sorted") (m1 : X.mg "sorted" = none) (g2 : Gl X "set") (m2 : X.mg "set" = none) (ha : PE X a (tF K fe))
    (na : starEach [a] X.env = (false, eval a X.env) :: starEach [] X.env := by rfl) : PE X (.Call (.Name "sorted" p) [.Call (.Name "set" p2) [a] [] q] [] pos) (tF K (fUn dSsetA fe)) := by
  subst hK
  refine pe_same (pe_ssetA hc g1 m1 g2 m2 ha na) fun σ H Q z => ?_
  obtain ⟨p, F, R, s, r, s', hr, e, k⟩ := z
  obtain ⟨x, ex, e⟩ := Option.bind_eq_some_iff.mp e
  obtain ⟨w, ew, e⟩ := Option.map_eq_some_iff.mp e
  cases e
  refine ⟨p, F, R, s, x.1, x.2, hr, ex, fun v H1 F1 C1 l1 o1 ⟨C, hs, hA⟩ => ?_⟩
  cases hx : x.1 <;> rw [hx] at ew <;> try (cases ew)
  rename_i ob ds
  rw [hx] at o1
  obtain ⟨ns, en, ew⟩ := Option.bind_eq_some_iff.mp ew
  split at ew
  · rename_i hl
    cases ew
    obtain ⟨b, ys, C3, rfl, h3, h4, h5⟩ := o1.seqL (U := C ++ R) (hA.sub fun x => by simp only [cn_append]; omega)
    rw [(intsOf_own h4 en).1] at h3
    refine ⟨b, ns, rfl, h3.l, hl, fun q hq => ?_⟩
    refine k _ _ F1 _ l1 (.lst (own_ints _)) ⟨C, hs, (hA.new hq (.lst ((setI ns).map V.int))).sub fun x => ?_⟩
    simp only [cn_append, cn_cons, cn_nil]
    omega
  · cases ew
theorem v_ssetA {o : Bool} {ns : List Int} (h : ns.length ≤ 4000) : dSsetA (.lst o (ns.map D.int)) = some (.lst true ((setI ns).map D.int)) := by
  show (intsOf (ns.map D.int)).bind _ = _
  rw [intsOf_ints]
  exact if_pos h
end
end DL
set_option Elab.async false
set_option linter.all false
set_option maxRecDepth 100000
set_option maxHeartbeats 2000000
/-! zip of two lists or of two tuples -/
namespace DL
open PySem PySem.Spec PyProof.Rows L2 LB
theorem walk_zipT {K : PySem.W.Frag} {a b : Addr} {xs ys : List V} {n : Nat} (hn : n = min xs.length ys.length) : Walk (RZ.ItzT K a b) n (fun H => SqT K H a xs ∧ SqT K H b ys) (YPair (fun i => xs[i]?) (fun i => ys[i]?)) := by
  subst hn
  refine ⟨fun i _ hi q => ?_, fun _ q => ⟨xs, ys, q.1, q.2, by omega⟩, fun i H v H' _ q y => ?_⟩
  · have h1 : i < xs.length := by omega
    have h2 : i < ys.length := by omega
    exact ⟨xs, ys, xs[i], ys[i], q.1, q.2, by simp [h1], by simp [h2]⟩
  · obtain ⟨T, x, z, h1, h2, h3, h4, h5⟩ := y
    exact ⟨T, x, z, h1, h2, h3, h4 xs q.1, h5 ys q.2⟩
def ziA (as : List AR) (s : S) : Option (List D × S) := match as with
  | [.inl (.tup _ ds), .inl (.tup _ es)] => some (List.zipWith pairD (ds.map D.frz) (es.map D.frz), s)
  | [.inl (.lst _ ds), .inl (.lst _ es)] => some (List.zipWith pairD (ds.map D.frz) (es.map D.frz), s)
  | _ => none
def iZA (fas : M (List AR)) : M (List D) := fun s => (fas s).bind fun a => ziA a.1 a.2
section
variable {X : Cx} {K : PySem.W.Frag} {fas : M (List AR)} {e : Expr} {pos : Pos}
theorem v_ziL {o p : Bool} {ds es : List D} {s s1 : S} (h : fas s = some ([.inl (.lst o ds), .inl (.lst p es)], s1)) : iZA fas s = some (List.zipWith pairD (ds.map D.frz) (es.map D.frz), s1) := by
  unfold iZA
  rw [h]
  rfl
theorem v_ziT {o p : Bool} {ds es : List D} {s s1 : S} (h : fas s = some ([.inl (.tup o ds), .inl (.tup p es)], s1)) : iZA fas s = some (List.zipWith pairD (ds.map D.frz) (es.map D.frz), s1) := by
  unfold iZA
  rw [h]
  rfl
theorem k_zipA {e2 : Expr} {ta : TA} {p0 tpos : Pos} {elts : List Expr} {kk : Nat} (hK : X.K = K) (hg : Gl X "zip") (hm : X.mg "zip" = none) (ha : PA X [e, e2] ta) (hs : starEach [e, e2] X.env = (false, eval e X.env) :: starEach [e2] X.env)
    (hpl : (backTo pos (starEach [e2] X.env)).any (·.1) = false) : PI X (.Tuple elts kk tpos) (.Call (.Name "zip" p0) [e, e2] [] pos) (RZ.iZipA K ta) := by subst hK; exact RZ.pi_zipA hg hm ha hs hpl
theorem i_zipA {e2 : Expr} {p0 tpos : Pos} {elts : List Expr} {kk : Nat} (hK : X.K = K) (hg : Gl X "zip") (hm : X.mg "zip" = none) (ha : PA X [e, e2] (tFA K fas)) (hs : starEach [e, e2] X.env = (false, eval e X.env) :: starEach [e2] X.env := by rfl)
    (hpl : (backTo pos (starEach [e2] X.env)).any (·.1) = false := by rfl) : PI X (.Tuple elts kk tpos) (.Call (.Name "zip" p0) [e, e2] [] pos) (tIF K (iZA fas)) := pi_same (k_zipA hK hg hm ha hs hpl) fun σ H Q z => by
  obtain ⟨p, F, R, s, r, s', hr, e, k⟩ := z
  obtain ⟨⟨as, s1⟩, ex, e⟩ := Option.bind_eq_some_iff.mp e
  refine ⟨p, F, R, s, as, s1, hr, ex, fun vs H1 F1 C1 l1 o1 ⟨C, hs, ha⟩ => ?_⟩
  match as, o1, e with
  | [.inl (.lst ob1 ds), .inl (.lst ob2 es)], .d (C1 := Ca) o (.d (C1 := Cb) o' .nil), e =>
    cases e
    obtain ⟨F2, l2, h2, d2⟩ := fzz (U := Cb ++ (C ++ R)) o (ha.sub fun x => by simp only [cn_append, cn_nil]; omega)
    obtain ⟨F3, l3, h3, d3⟩ := fzz (U := C ++ R) (o'.mono l2) h2
    rw [lstOf_fz (ds := ds.map D.frz) rfl] at d2
    rw [lstOf_fz (ds := es.map D.frz) rfl] at d3
    replace d2 := d2.mono l3
    cases d2 with
    | lst q t =>
      cases d3 with
      | lst q' t' =>
        refine ⟨_, _, _, _, rfl, .inl ⟨sqL_mono h3.fr q.l, sqL_mono h3.fr q'.l, k _ H1 F3 (l1.trans (l2.trans l3)) ⟨C, hs.mono (l2.trans l3), h3⟩ ?_⟩⟩
        refine ⟨fun H => SqL K H _ _ ∧ SqL K H _ _, _, by rw [List.length_zipWith, ← t.length, ← t'.length]; exact walk_zip rfl, fun H l => ⟨sqL_mono l q.l, sqL_mono l q'.l⟩, fun i H x H' F1 U l ha y hi => ?_⟩
        obtain ⟨T, u, z, rfl, np, rfl, e1, e2⟩ := y
        obtain ⟨d4, h1, h5⟩ := t.get e1
        obtain ⟨d5, h6, h7⟩ := t'.get e2
        obtain ⟨h4, l4⟩ := ha.newF np (.tup [u, z])
        exact ⟨_, pairD d4 d5, l4, h4, by rw [List.getElem?_zipWith, h1, h6], .tup (.inl (.inl upd_same)) (.cons (h5.mono (l.trans l4)) (.cons (h7.mono (l.trans l4)) .nil))⟩
  | [.inl (.tup ob1 ds), .inl (.tup ob2 es)], .d (C1 := Ca) o (.d (C1 := Cb) o' .nil), e =>
    cases e
    obtain ⟨F2, l2, h2, d2⟩ := fzz (U := Cb ++ (C ++ R)) o (ha.sub fun x => by simp only [cn_append, cn_nil]; omega)
    obtain ⟨F3, l3, h3, d3⟩ := fzz (U := C ++ R) (o'.mono l2) h2
    rw [tupOf_fz (ds := ds.map D.frz) rfl] at d2
    rw [tupOf_fz (ds := es.map D.frz) rfl] at d3
    replace d2 := d2.mono l3
    cases d2 with
    | tup q t =>
      cases d3 with
      | tup q' t' =>
        refine ⟨_, _, _, _, rfl, .inr ⟨sqT_mono h3.fr q, sqT_mono h3.fr q', k _ H1 F3 (l1.trans (l2.trans l3)) ⟨C, hs.mono (l2.trans l3), h3⟩ ?_⟩⟩
        refine ⟨fun H => SqT K H _ _ ∧ SqT K H _ _, _, by rw [List.length_zipWith, ← t.length, ← t'.length]; exact walk_zipT rfl, fun H l => ⟨sqT_mono l q, sqT_mono l q'⟩, fun i H x H' F1 U l ha y hi => ?_⟩
        obtain ⟨T, u, z, rfl, np, rfl, e1, e2⟩ := y
        obtain ⟨d4, h1, h5⟩ := t.get e1
        obtain ⟨d5, h6, h7⟩ := t'.get e2
        obtain ⟨h4, l4⟩ := ha.newF np (.tup [u, z])
        exact ⟨_, pairD d4 d5, l4, h4, by rw [List.getElem?_zipWith, h1, h6], .tup (.inl (.inl upd_same)) (.cons (h5.mono (l.trans l4)) (.cons (h7.mono (l.trans l4)) .nil))⟩
end
end DL
set_option Elab.async false
set_option linter.all false
set_option maxRecDepth 100000
set_option maxHeartbeats 2000000
set_option exponentiation.threshold 600
/-! dicts whose values are owned: a new key is put, a frozen one is read -/
namespace DL
open PySem PySem.Spec PyProof.Rows L2 LB
section
variable {X : Cx} {K : PySem.W.Frag} {e a b tg o i : Expr} {fe fa fb fi : M D} {pos pos' : Pos} {p : L2.St} {F F' : Hp}
/-- the owned dict of a slot, whatever its values are -/
def Sl.dko : Option Sl → Option KD
  | some (.va (.dct true kvs)) => some kvs
  | _ => none
theorem ownK_none {k : Int} : ∀ {xs : List (Key × V)} {kvs : KD} {C : CL}, OwnK K F xs kvs C → valD kvs k = none → valV xs (Sum.inl k : Key) = none
  | _, _, _, .nil, _ => rfl
  | _, _, _, .cons (k := k1) h t, f => by
    unfold valD at f
    unfold valV
    rw [List.find?_cons] at f ⊢
    cases q : decide (k1 = Sum.inl k) with
    | true =>
      dsimp only at f
      rw [q] at f
      cases f
    | false =>
      dsimp only at f ⊢
      rw [q] at f
      exact ownK_none t f
theorem ownK_len : ∀ {xs : List (Key × V)} {kvs : KD} {C : CL}, OwnK K F xs kvs C → xs.length = kvs.length
  | _, _, _, .nil => rfl
  | _, _, _, .cons h t => by rw [List.length_cons, List.length_cons, ownK_len t]
theorem ownK_mono {C : CL} (l : Le F F') : ∀ {xs : List (Key × V)} {kvs : KD} {C : CL}, OwnK K F xs kvs C → OwnK K F' xs kvs C
  | _, _, _, .nil => .nil
  | _, _, _, .cons h t => .cons (h.mono l) (ownK_mono (C := C) l t)
theorem ownK_snoc {k : Int} {v : V} {d : D} {C1 : CL} (h1 : Own K F v d C1) : ∀ {xs : List (Key × V)} {kvs : KD} {C : CL}, OwnK K F xs kvs C → ∃ C', OwnK K F (xs ++ [((Sum.inl k : Key), v)]) (kvs ++ [((Sum.inl k : Key), d)]) C' ∧ ∀ x, cn x C' = cn x C + cn x C1
  | _, _, _, .nil => ⟨C1 ++ [], .cons h1 .nil, fun x => by simp only [cn_append, cn_nil]; omega⟩
  | _, _, _, .cons (C1 := Ca) (C2 := Cb) h t => by
    obtain ⟨C', h2, h3⟩ := ownK_snoc (k := k) h1 t
    exact ⟨Ca ++ C', .cons h h2, fun x => by rw [cn_append, cn_append, h3]; omega⟩
theorem dko_take {σ : L2.St} {s : S} {C : CL} {j : Nat} {kvs : KD} (h : Slots K F σ p s C) (e : Sl.dko s[j]? = some kvs) : ∃ a xs C1 C2, σ[j]? = some (some (.ref a)) ∧ OwnK K F xs kvs C1 ∧ (∀ x, cn x C = c1 x (a, .dK xs) + cn x C1 + cn x C2) ∧
    ∀ F' xs' kvs' C', Le F F' → OwnK K F' xs' kvs' C' → ∃ C'', Slots K F' σ p (s.set j (.va (.dct true kvs'))) C'' ∧ ∀ x, cn x C'' = c1 x (a, .dK xs') + cn x C' + cn x C2 := by
  cases q : s[j]? with
  | none => rw [q] at e; cases e
  | some sl =>
    rw [q] at e
    have hj : j < s.length := (List.getElem?_eq_some_iff.mp q).1
    match sl, e with
    | .va (.dct true kk), e =>
      cases e
      obtain ⟨v, C1, C2, h1, h2, h3, h4⟩ := h.takeV q
      cases h2 with
      | z q => cases q
      | @dct a xs _ C1 t =>
        refine ⟨a, xs, C1, C2, h1, t, fun x => by rw [h4, cn_cons], fun F' xs' kvs' C' l t' => ?_⟩
        obtain ⟨C3, h5, h6⟩ := (h3.mono l).giveV (.dct t') (i := j) (by simp [hj]) h1
        rw [List.set_set] at h5
        exact ⟨C3, h5, fun x => by rw [h6, cn_cons]⟩
def sDSetO (j : Nat) (fe fi : M D) : S → Option Out := fun s => (fe s).bind fun x => (fi x.2).bind fun y => (asI y.1).bind fun i => (Sl.dko y.2[j]?).bind fun kvs => if valD kvs i = none ∧ kvs.length ≤ mx ∧ (Sl.dko x.2[j]?).isSome = true then some (.nx (y.2.set j (.va (.dct true (kvs ++ [(Sum.inl i, x.1)]))))) else none
theorem s_dsetO {j : Nat} (hu : X.A.units + 64 < cLine) (ho : PE X o (tVar j)) (hi : PE X i (tF K fi)) (hv : PE X e (tF K fe)) (hs : swapsWith e (some (.Subscript o i pos')) pos.line X.env = pure false := by rfl) :
    PS X (.Assign [.Subscript o i pos'] e pos) (tSF K (sDSetO j fe fi)) := ps_same (ps_dput (by omega) ho hi hv hs) fun E σ H z => by
  obtain ⟨p, F, R, s, o, hr, e, k⟩ := z
  obtain ⟨x, ex, e⟩ := Option.bind_eq_some_iff.mp e
  obtain ⟨y, ey, e⟩ := Option.bind_eq_some_iff.mp e
  obtain ⟨i, ei, e⟩ := Option.bind_eq_some_iff.mp e
  obtain ⟨kvs, ed, e⟩ := Option.bind_eq_some_iff.mp e
  split at e
  rotate_left
  · cases e
  rename_i hf
  cases e
  obtain ⟨kv0, hj⟩ := Option.isSome_iff_exists.mp hf.2.2
  refine ⟨p, F, R, s, x.1, x.2, hr, ex, fun v H1 F1 C1 l1 o1 r1 => ?_⟩
  obtain ⟨C, hs, ha⟩ := id r1
  obtain ⟨a, xs0, D1, D2, h1, _, _, _⟩ := dko_take hs hj
  refine ⟨.ref a, h1, p, F1, C1 ++ R, x.2, y.1, y.2, r1, ey, fun iv H2 F2 C2 l2 o2 ⟨Cs, hs2, ha2⟩ => ?_⟩
  rw [asI_some ei] at o2
  obtain ⟨rfl, rfl⟩ := own_int o2
  obtain ⟨a', xs, C3, C4, k1, k2, k3, k4⟩ := dko_take hs2 ed
  have ea' : a' = a := by rw [h1] at k1; cases k1; rfl
  subst ea'
  have hA : HA F2 ((a', .dK xs) :: (C3 ++ (C4 ++ (C1 ++ R)))) H2 := ha2.sub fun x => by simp only [cn_append, cn_cons, cn_nil]; have := k3 x; omega
  obtain ⟨C5, k5, k6⟩ := ownK_snoc (k := i) (o1.mono l2) k2
  obtain ⟨C6, m3, m4⟩ := k4 F2 _ _ _ .refl k5
  refine ⟨a', _, rfl, .inl ⟨xs, Sum.inl i, (hA.ow _ List.mem_cons_self).1, rfl, ?_, rfl⟩, ?_⟩
  · rw [ownK_len k2]
    have h1 : mx = 1000000 := rfl
    have h2 : (1000000 : Nat) < sizeLine := by decide
    have := hf.2.1
    omega
  · rw [putK_new v (ownK_none k2 hf.1)]
    exact k σ _ F2 (l1.trans l2) ⟨C6, m3, (hA.put _).sub fun x => by simp only [cn_append, cn_cons]; have := m4 x; have := k6 x; omega⟩
theorem v_dsetO {j : Nat} {s s1 s2 : S} {x : D} {k : Int} {kvs kv0 : KD} (h1 : fe s = some (x, s1)) (h2 : fi s1 = some (.int k, s2)) (h3 : s2[j]? = some (.va (.dct true kvs))) (h3' : s1[j]? = some (.va (.dct true kv0))) (h4 : valD kvs k = none) (h5 : kvs.length ≤ mx) :
    sDSetO j fe fi s = some (.nx (s2.set j (.va (.dct true (kvs ++ [(Sum.inl k, x)]))))) := by
  unfold sDSetO
  rw [h1]
  show (fi s1).bind _ = _
  rw [h2]
  show (Sl.dko s2[j]?).bind _ = _
  rw [h3]
  show (if _ then _ else _) = _
  rw [h3', if_pos ⟨h4, h5, rfl⟩]
/-! reading of a frozen one -/
def dDGetF : D → D → Option D
  | .dct false kvs, .int k => valD kvs k
  | _, _ => none
theorem dnK_get {k : Int} : ∀ {xs : List (Key × V)} {kvs : KD} {d : D}, DnK K F xs kvs → valD kvs k = some d → ∃ v, valV xs (Sum.inl k : Key) = some v ∧ Dn K F v d
  | _, _, _, .nil, f => by cases f
  | _, _, _, .cons (k := k1) h t, f => by
    unfold valD at f
    unfold valV
    rw [List.find?_cons] at f ⊢
    cases q : decide (k1 = Sum.inl k) with
    | true =>
      dsimp only at f ⊢
      rw [q] at f
      cases f
      exact ⟨_, rfl, h⟩
    | false =>
      dsimp only at f ⊢
      rw [q] at f
      exact dnK_get t f
theorem d_dgetF : OpD K rDGet dDGetF := by
  intro F U C1 C2 H x y d e z Q hz o1 o2 ha k
  match d, e, hz, o1, o2 with
  | .dct false kvs, .int n, hz, o1, o2 =>
    obtain ⟨rfl, rfl⟩ := own_int o2
    cases o1 with
    | z od =>
      cases od with
      | @dct a xs _ ef t =>
        obtain ⟨v, h1, h2⟩ := dnK_get t hz
        exact ⟨a, v, rfl, .inl ⟨xs, Sum.inl n, .inl (ha.fr _ _ ef), rfl, h1.symm⟩, k _ _ F [] .refl (.z h2) (ha.sub fun x => by simp only [cn_append, cn_nil]; omega)⟩
theorem e_dgetF (hu : X.A.units + 64 < cLine) (ho : PE X o (tF K fa)) (hi : PE X i (tF K fb)) (hs : NoSl i) : PE X (.Subscript o i pos) (tF K (fOp dDGetF fa fb)) := pe_same (pe_dget (by omega) ho hi hs) fun σ H Q z => tF_op d_dgetF z
theorem e_din (hu : X.A.units + 64 < cLine) (ha : PE X a (tF K fa)) (hb : PE X b (tF K fb)) (hm : behindInMarks .In b = false := by rfl) : PE X (.Compare a [.In] [b] pos) (tF K (fOp (dDIn false) fa fb)) :=
  pe_same (pe_cmp (pc_din (by omega) ha hb) hm) fun σ H Q z => tF_op (d_din false) z
theorem e_dnotin (hu : X.A.units + 64 < cLine) (ha : PE X a (tF K fa)) (hb : PE X b (tF K fb)) (hm : behindInMarks .NotIn b = false := by rfl) : PE X (.Compare a [.NotIn] [b] pos) (tF K (fOp (dDIn true) fa fb)) :=
  pe_same (pe_cmp (pc_dnotin (by omega) ha hb) hm) fun σ H Q z => tF_op (d_din true) z
end
end DL
set_option Elab.async false
set_option linter.all false
set_option maxRecDepth 100000
set_option maxHeartbeats 2000000
set_option exponentiation.threshold 600
/-! a list within the owned tuple of a slot is changed: slot[c].m(x) -/
namespace DL
open PySem PySem.Spec PyProof.Rows L2 LB
section
variable {X : Cx} {K : PySem.W.Frag} {e : Expr} {fa : M D} {p : L2.St} {F F' : Hp}
/-- the owned tuple of a slot -/
def Sl.tpo : Option Sl → Option (List D)
  | some (.va (.tup true ds)) => some ds
  | _ => none
theorem tpo_take {σ : L2.St} {s : S} {C : CL} {j : Nat} {ds : List D} (h : Slots K F σ p s C) (e : Sl.tpo s[j]? = some ds) : ∃ a xs C1 C2, σ[j]? = some (some (.ref a)) ∧ OwnL K F xs ds C1 ∧ (∀ x, cn x C = c1 x (a, .tup xs) + cn x C1 + cn x C2) ∧
    ∀ F' xs' ds' C', Le F F' → OwnL K F' xs' ds' C' → ∃ C'', Slots K F' σ p (s.set j (.va (.tup true ds'))) C'' ∧ ∀ x, cn x C'' = c1 x (a, .tup xs') + cn x C' + cn x C2 := by
  cases q : s[j]? with
  | none => rw [q] at e; cases e
  | some sl =>
    rw [q] at e
    have hj : j < s.length := (List.getElem?_eq_some_iff.mp q).1
    match sl, e with
    | .va (.tup true _), e =>
      cases e
      obtain ⟨v, C1, C2, h1, h2, h3, h4⟩ := h.takeV q
      cases h2 with
      | z q => cases q
      | @tup a xs _ C1 t =>
        refine ⟨a, xs, C1, C2, h1, t, fun x => by rw [h4, cn_cons], fun F' xs' ds' C' l t' => ?_⟩
        obtain ⟨C3, h5, h6⟩ := (h3.mono l).giveV (.tup t') (i := j) (by simp [hj]) h1
        rw [List.set_set] at h5
        exact ⟨C3, h5, fun x => by rw [h6, cn_cons]⟩
def mtT (j : Nat) (c : Int) (g : List D → List D → Option (D × List D)) (as : List D) : M D := fun s => (Sl.tpo s[j]?).bind fun ds => (ixN ds.length c).bind fun n => match ds[n]? with
  | some (.lst true es) => (g es as).map fun z => (z.1, s.set j (.va (.tup true (ds.set n (.lst true z.2)))))
  | _ => none
theorem mtT_run {r : V → List V → Hp → VK → Prop} {g : List D → List D → Option (D × List D)} (hg : MtD K r g) {j : Nat} {c : Int} {as : List D} {σ : L2.St} {H : Hp} {Q : VK} {R : CL} {s s' : S} {z : D} (hr : Rel K p F R σ H s) (e : mtT j c g as s = some (z, s'))
    (k : ∀ v H' F' C, Le F F' → Own K F' v z C → Rel K p F' (C ++ R) σ H' s' → Q v H') :
    ∃ a xs b ys, σ[j]? = some (some (.ref a)) ∧ SqT K H a xs ∧ atI xs c = some (.ref b) ∧ SqL K H b ys ∧ ∀ vs, OwnL K F vs as [] → r (.ref b) vs H Q := by
  obtain ⟨C, hs, ha⟩ := hr
  obtain ⟨ds, e1, e⟩ := Option.bind_eq_some_iff.mp e
  obtain ⟨n, e2, e⟩ := Option.bind_eq_some_iff.mp e
  cases q : ds[n]? with
  | none => rw [q] at e; cases e
  | some d =>
    rw [q] at e
    match d, e, q with
    | .lst true es, e, q =>
      obtain ⟨⟨z', es'⟩, e3, e4⟩ := Option.map_eq_some_iff.mp e
      cases e4
      obtain ⟨a, xs, C1, C2, h1, h2, h3, h4⟩ := tpo_take hs e1
      obtain ⟨w, D1, D2, h5, h6, h7, h8⟩ := h2.focus q
      cases h6 with
      | z h6 => cases h6
      | @lst b ys _ D3 h6 =>
        have hA : HA F ((b, .lst ys) :: (D3 ++ (D2 ++ ((a, .tup xs) :: (C2 ++ R))))) H := ha.sub fun x => by
          simp only [cn_append, cn_cons]
          have := h3 x
          have := h7 x
          simp only [cn_cons] at this
          omega
        have m1 : H b = some (.lst ys) := (hA.ow _ List.mem_cons_self).1
        have m2 : H a = some (.tup xs) := (hA.ow (a, .tup xs) (by simp)).1
        have h9 : atI xs c = some (.ref b) := by
          unfold atI
          rw [h2.length, e2]
          exact h5
        refine ⟨a, xs, b, ys, h1, .inl (.inl m2), h9, .inl (.inl m1), fun vs hv => ?_⟩
        refine hg (C2 := []) (U := D2 ++ ((a, .tup xs) :: (C2 ++ R))) e3 h6 hv (hA.sub fun x => by simp only [cn_append, cn_cons, cn_nil]; omega) fun v H' F' ys' C' Cz l t o h => ?_
        obtain ⟨C'', k1, k2⟩ := h8 F' (.lst true es') _ l (.lst t)
        obtain ⟨C3, k3, k4⟩ := h4 F' xs _ C'' l k1
        refine k v H' F' Cz l o ⟨C3, k3, h.sub fun x => ?_⟩
        simp only [cn_append, cn_cons]
        have := k4 x
        have := k2 x
        simp only [cn_cons] at this
        omega
def fMtT (j : Nat) (c : Int) (g : List D → List D → Option (D × List D)) (fa : M D) : M D := fun s => (fa s).bind fun x => mtT j c g [x.1] s
theorem e_mtT {j : Nat} {c : Int} {r : V → List V → Hp → VK → Prop} {g : List D → List D → Option (D × List D)} (h : PE X e (tBM K "list" r (tOp (rIxT K) (tVar j) (tC (.int c))) (tCons (tSt K fa) tNil))) (hs : ∀ s r s', fa s = some (r, s') → s' = s) (hg : MtD K r g) : PE X e (tF K (fMtT j c g fa)) := pe_same h fun σ H Q z => by
  obtain ⟨p, F, R, s, z, s', hr, e, k⟩ := z
  obtain ⟨x, ex, e⟩ := Option.bind_eq_some_iff.mp e
  obtain ⟨a, xs, b, ys, h1, h2, h3, h4, h5⟩ := mtT_run hg hr e k
  refine ⟨.ref a, h1, a, xs, c, .ref b, rfl, rfl, h2, h3, tyV_ls h4, p, F, R, s, x.1, hr, ?_, fun v hv => h5 [v] (.cons (C1 := []) (.z hv) .nil)⟩
  have e2 := hs s x.1 x.2 ex
  rw [ex]
  exact congrArg some (Prod.ext rfl e2)
theorem v_mtT {j : Nat} {c : Int} {g : List D → List D → Option (D × List D)} {s s1 : S} {x z : D} {ds es es' : List D} {n : Nat} (h1 : fa s = some (x, s1)) (h2 : s[j]? = some (.va (.tup true ds))) (h3 : ixN ds.length c = some n) (h4 : ds[n]? = some (.lst true es)) (h5 : g es [x] = some (z, es')) :
    fMtT j c g fa s = some (z, s.set j (.va (.tup true (ds.set n (.lst true es'))))) := by
  unfold fMtT
  rw [h1]
  show mtT j c g [x] s = _
  unfold mtT
  rw [h2]
  show (ixN ds.length c).bind _ = _
  rw [h3]
  show (match ds[n]? with | some (.lst true es) => _ | _ => none) = _
  rw [h4]
  show (g es [x]).map _ = _
  rw [h5]
  rfl
end
end DL
set_option Elab.async false
set_option linter.all false
/-! lifts -/
namespace LB
open PySem PySem.Spec PyProof.Rows L2
/-- the order behind a lift -/
def liftO (g : Int) (sc o : List Int) (e : Int) : List Int := leftO g sc (e :: o.filter fun x => !decide (x = e))
theorem top_ord {n : Nat} {o : List Int} (h : IsOrd n o) {e : Int} (he : 0 ≤ e ∧ e < n) : IsOrd n (e :: o.filter fun x => !decide (x = e)) := by
  refine List.Perm.trans ?_ h
  have nd := h.nd
  refine (List.perm_ext_iff_of_nodup ?_ nd).mpr fun x => ?_
  · refine List.nodup_cons.mpr ⟨fun hm => ?_, nd.filter _⟩
    have := (List.mem_filter.mp hm).2
    simp at this
  · rw [List.mem_cons, List.mem_filter]
    constructor
    · rintro (rfl | h2)
      · exact h.mem.mpr he
      · exact h2.1
    · intro hx
      by_cases e1 : x = e
      · exact .inl e1
      · exact .inr ⟨hx, by simp [e1]⟩
theorem lift_ord {n : Nat} {g : Int} {sc o : List Int} (h : IsOrd n o) {e : Int} (he : 0 ≤ e ∧ e < n) : IsOrd n (liftO g sc o e) := leftO_ord (top_ord h he)
theorem lifts_ord {n : Nat} {g : Int} {sc : List Int} : ∀ {ls o : List Int}, IsOrd n o → (∀ x ∈ ls, 0 ≤ x ∧ x < n) → IsOrd n (ls.foldl (liftO g sc) o)
  | [], _, h, _ => h
  | e :: ls, o, h, hs => lifts_ord (ls := ls) (lift_ord h (hs e List.mem_cons_self)) fun x hx => hs x (List.mem_cons_of_mem _ hx)
theorem lift_settled {g : Int} (hg : 1 ≤ g) (sc o : List Int) (e : Int) : wrongs g sc (liftO g sc o e) = [] := leftO_settled hg _ _
theorem lifts_settled {g : Int} (hg : 1 ≤ g) {sc : List Int} : ∀ {ls o : List Int}, wrongs g sc o = [] → wrongs g sc (ls.foldl (liftO g sc) o) = []
  | [], _, h => h
  | e :: ls, o, _ => lifts_settled hg (ls := ls) (lift_settled hg sc o e)
end LB
set_option Elab.async false
set_option linter.all false
/-! a score raised and put back -/
namespace LB
open PySem PySem.Spec PyProof.Rows L2
theorem keeps_left {g : Int} (hg : 1 ≤ g) {sc o : List Int} {f : Int → Nat} (nd : o.Nodup) (k : Keeps g sc f o) : Keeps g sc f (leftO g sc o) := by
  have key : ∀ (n : Nat) (o2 : List Int) (m2 : Nat), inv g sc o2 = n → Way g sc o o2 m2 → Keeps g sc f o2 → Keeps g sc f (leftO g sc o) := by
    intro n
    induction n using Nat.strongRecOn with
    | _ n ih =>
      intro o2 m2 hn w1 w2
      by_cases h : wrongs g sc o2 = []
      · rw [← (w1.stop hg nd h).1]
        exact w2
      · obtain ⟨p, hp⟩ := List.exists_mem_of_ne_nil _ h
        have := (pass_step hg hp w1.kp).2.1
        exact ih _ (by omega) _ (m2 + 1) rfl (w1.step hg hp) (pass_step hg hp w2).1
  exact key _ o 0 rfl (Way.start nd) k
theorem gi_set_ne {sc : List Int} {e x v : Int} (he : 0 ≤ e) (hx : 0 ≤ x) (h : x ≠ e) : gi (sc.set e.toNat v) x = gi sc x := by
  unfold gi
  rw [List.getD_eq_getElem?_getD, List.getD_eq_getElem?_getD, List.getElem?_set_ne (by omega)]
theorem gi_set_eq {sc : List Int} {e v : Int} (he : 0 ≤ e ∧ e < sc.length) : gi (sc.set e.toNat v) e = v := by
  unfold gi
  have : e.toNat < sc.length := by omega
  simp [this]
theorem idx_top {o : List Int} {e : Int} : (e :: o).idxOf e = 0 := by simp
theorem idx_rest {o : List Int} {e x : Int} (h : x ≠ e) : (e :: o).idxOf x = o.idxOf x + 1 := by
  rw [List.idxOf_cons]
  have : (e == x) = false := by simp [Ne.symm h]
  rw [this]
  rfl
theorem idx_filter {e : Int} : ∀ {o : List Int} {x y : Int}, o.Nodup → x ∈ o → y ∈ o → x ≠ e → y ≠ e → o.idxOf x < o.idxOf y → (o.filter fun z => !decide (z = e)).idxOf x < (o.filter fun z => !decide (z = e)).idxOf y := by
  intro o x y nd hx hy nx ny h
  obtain ⟨a, m, b, rfl⟩ := idx_lt_split nd hx hy h
  have nd2 := nd.filter fun z => !decide (z = e)
  rw [List.filter_append, List.filter_cons_of_pos (by simp [nx]), List.filter_append, List.filter_cons_of_pos (by simp [ny])] at nd2 ⊢
  have e1 := idx_split (x := x) nd2 rfl
  have e2 := idx_split (x := y) (a := a.filter (fun z => !decide (z = e)) ++ x :: m.filter (fun z => !decide (z = e))) (b := b.filter fun z => !decide (z = e)) nd2 (by simp)
  rw [e1, e2]
  simp
/-- the order behind a score that is raised above all others, and put back -/
theorem raise_lift {g : Int} (hg : 1 ≤ g) {n : Nat} {sc line : List Int} {e v : Int} (hn : sc.length = n) (ho : IsOrd n line) (he : 0 ≤ e ∧ e < n) (hv : ∀ x : Int, 0 ≤ x → x < n → gi sc x + g ≤ v) :
    leftO g sc (leftO g (sc.set e.toNat v) line) = liftO g sc line e := by
  have nd := IsOrd.nd ho
  have htop := top_ord ho he
  have ndt := IsOrd.nd htop
  have pm : (leftO g (sc.set e.toNat v) line).Perm line := leftO_perm _ _ _
  have nd1 := pm.nodup_iff.mpr nd
  have hmem : ∀ x ∈ leftO g (sc.set e.toNat v) line, 0 ≤ x ∧ x < n := fun x hx => ho.mem.mp (pm.mem_iff.mp hx)
  have hee : gi (sc.set e.toNat v) e = v := gi_set_eq (by omega)
  have hmax : ∀ x : Int, 0 ≤ x → x < n → x ≠ e → gi (sc.set e.toNat v) x + g ≤ v := fun x h0 h1 h2 => by
    rw [gi_set_ne he.1 h0 h2]
    exact hv x h0 h1
  refine left_is hg (idxOf_rises ndt) ((leftO_perm _ _ _).trans (pm.trans (ho.trans htop.symm))) (leftO_calm hg _ _) (keeps_left hg nd1 ?_)
  have k1 := leftO_keeps (lead := g) (sc := sc.set e.toNat v) (idxOf_rises nd)
  have el : e ∈ line := ho.mem.mpr he
  have hab := fun x (hx : x ∈ line) => left_above (sc := sc.set e.toNat v) hg nd el hx
  generalize leftO g (sc.set e.toNat v) line = L at *
  unfold Keeps at *
  rw [List.pairwise_iff_getElem] at k1 ⊢
  intro i j hi hj hij hc
  have q := k1 i j hi hj hij
  have mi := hmem _ (List.getElem_mem hi)
  have mj := hmem _ (List.getElem_mem hj)
  have hne : L[i] ≠ L[j] := List.pairwise_iff_getElem.mp nd1 i j hi hj hij
  show List.idxOf _ _ < List.idxOf _ _
  by_cases ei : L[i] = e
  · rw [ei, idx_top, idx_rest (by rw [← ei]; exact Ne.symm hne)]
    omega
  · by_cases ej : L[j] = e
    · exfalso
      have hx : L[i] ∈ line := pm.mem_iff.mp (List.getElem_mem hi)
      have hlt : L.idxOf L[i] < L.idxOf e := by
        rw [← ej, List.Nodup.idxOf_getElem nd1, List.Nodup.idxOf_getElem nd1]
        exact hij
      have hno : ∀ c, ¬ Ch g (sc.set e.toNat v) (fun z => line.idxOf z) line c e := fun c hch => by
        obtain ⟨w, hw, _⟩ := ch_last.mp hch
        have hw0 := ho.mem.mp hw.1
        have hwe : w ≠ e := fun h => by
          have := hw.2.2.1
          rw [h] at this
          omega
        have hcl := (close_iff.mp hw.2.2.2).2
        have := hmax w hw0.1 hw0.2 hwe
        omega
      rcases (hab _ hx).mp hlt with h | ⟨_, _, h⟩
      · exact hno _ h
      · have := hmax _ mi.1 mi.2 ei
        omega
    · have hc2 : Close g (sc.set e.toNat v) L[i] L[j] := by
        have := close_iff.mp hc
        refine close_iff.mpr ?_
        rw [gi_set_ne he.1 mi.1 ei, gi_set_ne he.1 mj.1 ej]
        exact this
      have q2 := q hc2
      rw [idx_rest ei, idx_rest ej]
      have := idx_filter (e := e) nd (pm.mem_iff.mp (List.getElem_mem hi)) (pm.mem_iff.mp (List.getElem_mem hj)) ei ej q2
      omega
/-- close pairs behind a lift -/
theorem lift_pairs {g : Int} (hg : 1 ≤ g) {n : Nat} {sc line : List Int} {e : Int} (ho : IsOrd n line) (he : 0 ≤ e ∧ e < n) {i j : Nat} (hij : i < j) (hj : j < (liftO g sc line e).length) (hc : Close g sc (gi (liftO g sc line e) i) (gi (liftO g sc line e) j)) :
    gi (liftO g sc line e) j ≠ e ∧ (gi (liftO g sc line e) i ≠ e → line.idxOf (gi (liftO g sc line e) i) < line.idxOf (gi (liftO g sc line e) j)) := by
  have nd := IsOrd.nd ho
  have htop := top_ord ho he
  have ndt := IsOrd.nd htop
  have pm : (liftO g sc line e).Perm (e :: line.filter fun x => !decide (x = e)) := leftO_perm _ _ _
  have nd1 := pm.nodup_iff.mpr ndt
  have k1 : Keeps g sc _ (liftO g sc line e) := leftO_keeps (lead := g) (sc := sc) (idxOf_rises ndt)
  unfold Keeps at k1
  rw [List.pairwise_iff_getElem] at k1
  rw [gi_nat hj, gi_nat (by omega : i < (liftO g sc line e).length)] at *
  have q := k1 i j (by omega) hj hij hc
  have q : List.idxOf _ _ < List.idxOf _ _ := q
  have hne : (liftO g sc line e)[i] ≠ (liftO g sc line e)[j] := List.pairwise_iff_getElem.mp nd1 i j (by omega) hj hij
  have ej : (liftO g sc line e)[j] ≠ e := fun h => by
    rw [h, idx_top] at q
    omega
  refine ⟨ej, fun ei => ?_⟩
  rw [idx_rest ei, idx_rest ej] at q
  have hm : ∀ z ∈ liftO g sc line e, z ∈ line := fun z hz => ho.mem.mpr ((lift_ord ho he).mem.mp hz)
  have h1 := hm _ (List.getElem_mem (by omega : i < _))
  have h2 := hm _ (List.getElem_mem hj)
  refine Decidable.byContradiction fun c => ?_
  have hne2 : line.idxOf (liftO g sc line e)[i] ≠ line.idxOf (liftO g sc line e)[j] := fun h => hne (idx_inj h1 h2 h)
  have := idx_filter (e := e) nd h2 h1 ej ei (by omega)
  omega
end LB
set_option Elab.async false
set_option linter.all false
/-! short lists of lifts -/
namespace LB
open PySem PySem.Spec PyProof.Rows L2 DL
section
variable {g : Int} {sc : List Int}
/-- without close ones ahead -/
def ab (g : Int) (sc : List Int) : List Int → List Int → List Int
  | _, [] => []
  | pre, x :: r => if pre.any (fun y => decide (Close g sc x y)) then ab g sc (pre ++ [x]) r else x :: ab g sc (pre ++ [x]) r
theorem mem_ab {x : Int} : ∀ {l pre : List Int}, x ∈ ab g sc pre l ↔ ∃ a b, l = a ++ x :: b ∧ ∀ y ∈ pre ++ a, ¬ Close g sc x y
  | [], pre => by simp [ab]
  | z :: r, pre => by
    unfold ab
    have ih := mem_ab (x := x) (l := r) (pre := pre ++ [z])
    constructor
    · intro h
      have h2 : (x = z ∧ ∀ y ∈ pre, ¬ Close g sc x y) ∨ x ∈ ab g sc (pre ++ [z]) r := by
        split at h
        · exact .inr h
        · rename_i hc
          rcases List.mem_cons.mp h with rfl | h
          · refine .inl ⟨rfl, fun y hy c => hc ?_⟩
            exact List.any_eq_true.mpr ⟨y, hy, decide_eq_true c⟩
          · exact .inr h
      rcases h2 with ⟨rfl, h2⟩ | h2
      · exact ⟨[], r, rfl, by simpa using h2⟩
      · obtain ⟨a, b, rfl, h3⟩ := ih.mp h2
        exact ⟨z :: a, b, rfl, fun y hy => h3 y (by simpa using hy)⟩
    · rintro ⟨a, b, e, h⟩
      cases a with
      | nil =>
        obtain ⟨rfl, rfl⟩ := List.cons.inj e
        rw [if_neg]
        · exact List.mem_cons_self
        · intro hc
          obtain ⟨y, hy, c⟩ := List.any_eq_true.mp hc
          exact h y (by simpa using hy) (of_decide_eq_true c)
      | cons w a =>
        obtain ⟨rfl, rfl⟩ := List.cons.inj e
        have : x ∈ ab g sc (pre ++ [z]) (a ++ x :: b) := ih.mpr ⟨a, b, rfl, fun y hy => h y (by simpa using hy)⟩
        split
        · exact this
        · exact List.mem_cons_of_mem _ this
theorem ab_ne {l : List Int} (h : l ≠ []) : ab g sc [] l ≠ [] := by
  cases l with
  | nil => exact absurd rfl h
  | cons x r => unfold ab; simp
theorem ab_sub {x : Int} {l pre : List Int} (h : x ∈ ab g sc pre l) : x ∈ l := by
  obtain ⟨a, b, rfl, _⟩ := mem_ab.mp h
  simp
theorem minL_mem {l : List Int} (h : l ≠ []) : minL l ∈ l := by
  have := maxL_mem (l := l.map fun x => -x) (by simpa using h)
  obtain ⟨x, hx, e⟩ := List.mem_map.mp this
  unfold minL
  rw [← e, Int.neg_neg]
  exact hx
theorem minL_le {l : List Int} {x : Int} (h : x ∈ l) : minL l ≤ x := by
  have := maxL_le (l := l.map fun x => -x) (List.mem_map.mpr ⟨x, h, rfl⟩)
  unfold minL
  omega
theorem minL_same {l m : List Int} (h : ∀ x, x ∈ l ↔ x ∈ m) (hl : l ≠ []) : minL l = minL m := by
  have h1 := (h _).mp (minL_mem hl)
  have hm : m ≠ [] := by intro e; rw [e] at h1; cases h1
  have h2 := (h _).mpr (minL_mem hm)
  have h3 := minL_le h1
  have h4 := minL_le h2
  omega
/-- the least one that can come first -/
def fst1 (g : Int) (sc l : List Int) : Int := minL (ab g sc [] l)
theorem fst1_mem {l : List Int} (h : l ≠ []) : fst1 g sc l ∈ l := ab_sub (minL_mem (ab_ne h))
/-- the least list with the same entries in which close ones keep their sequence -/
def fs (g : Int) (sc : List Int) : Nat → List Int → List Int
  | 0, _ => []
  | n + 1, l => if l = [] then [] else fst1 g sc l :: fs g sc n (l.erase (fst1 g sc l))
theorem fs_perm : ∀ (n : Nat) {l : List Int}, l.length = n → (fs g sc n l).Perm l
  | 0, l, h => by rw [List.eq_nil_of_length_eq_zero h]; exact .refl _
  | n + 1, l, h => by
    have hne : l ≠ [] := by intro e; subst e; simp at h
    unfold fs
    rw [if_neg hne]
    have hm := fst1_mem (g := g) (sc := sc) hne
    exact ((fs_perm n (by rw [List.length_erase_of_mem hm]; omega)).cons _).trans (List.perm_cons_erase hm).symm
/-- where close ones keep f, who can come first is told by f alone -/
theorem ab_iff {f : Int → Nat} {l : List Int} (hk : Keeps g sc f l) {x : Int} (nd : l.Nodup) : x ∈ ab g sc [] l ↔ x ∈ l ∧ ∀ y ∈ l, y ≠ x → Close g sc x y → f x < f y := by
  rw [mem_ab]
  constructor
  · rintro ⟨a, b, rfl, h⟩
    refine ⟨by simp, fun y hy hne hc => ?_⟩
    rcases List.mem_append.mp hy with hy | hy
    · exact absurd hc (h y (by simpa using hy))
    · rcases List.mem_cons.mp hy with hy | hy
      · exact absurd hy hne
      · exact (List.pairwise_cons.mp (List.pairwise_append.mp hk).2.1).1 y hy hc
  · rintro ⟨hx, h⟩
    obtain ⟨a, b, rfl⟩ := List.append_of_mem hx
    refine ⟨a, b, rfl, fun y hy hc => ?_⟩
    rw [List.nil_append] at hy
    have hne : y ≠ x := by
      rintro rfl
      exact (List.nodup_append.mp nd).2.2 y hy y List.mem_cons_self rfl
    have h1 := h y (List.mem_append_left _ hy) hne hc
    have h2 := (List.pairwise_append.mp hk).2.2 y hy x List.mem_cons_self (close_symm hc)
    omega
theorem fs_keeps {f : Int → Nat} : ∀ (n : Nat) {l : List Int}, l.length = n → Keeps g sc f l → l.Nodup → Keeps g sc f (fs g sc n l)
  | 0, _, _, _, _ => List.Pairwise.nil
  | n + 1, l, h, hk, nd => by
    have hne : l ≠ [] := by intro e; subst e; simp at h
    have hm := fst1_mem (g := g) (sc := sc) hne
    have he : (l.erase (fst1 g sc l)).length = n := by rw [List.length_erase_of_mem hm]; omega
    unfold fs
    rw [if_neg hne]
    have ha := ((ab_iff hk nd).mp (minL_mem (ab_ne (g := g) (sc := sc) hne))).2
    refine List.pairwise_cons.mpr ⟨fun y hy hc => ?_, fs_keeps n he (hk.sublist List.erase_sublist) (nd.sublist List.erase_sublist)⟩
    have hy2 := (fs_perm n he).mem_iff.mp hy
    exact ha y (List.mem_of_mem_erase hy2) (fun e => by rw [e] at hy2; exact nd.not_mem_erase hy2) hc
/-- lists in which close ones stand alike have one such list -/
theorem fs_same {f : Int → Nat} : ∀ (n : Nat) {l m : List Int}, l.length = n → l.Perm m → l.Nodup → Keeps g sc f l → Keeps g sc f m → fs g sc n l = fs g sc n m
  | 0, _, _, _, _, _, _, _ => rfl
  | n + 1, l, m, h, hp, nd, k1, k2 => by
    have hne : l ≠ [] := by intro e; subst e; simp at h
    have hne2 : m ≠ [] := by intro e; subst e; rw [hp.eq_nil] at hne; exact hne rfl
    have e1 : fst1 g sc l = fst1 g sc m := minL_same (fun x => by
      rw [ab_iff k1 nd, ab_iff k2 (hp.nodup_iff.mp nd), hp.mem_iff]
      constructor
      · rintro ⟨a, b⟩; exact ⟨a, fun y hy => b y (hp.mem_iff.mpr hy)⟩
      · rintro ⟨a, b⟩; exact ⟨a, fun y hy => b y (hp.mem_iff.mp hy)⟩) (ab_ne hne)
    unfold fs
    rw [if_neg hne, if_neg hne2, ← e1]
    congr 1
    exact fs_same n (by rw [List.length_erase_of_mem (fst1_mem hne)]; omega) (hp.erase _) (nd.sublist List.erase_sublist) (k1.sublist List.erase_sublist) (k2.sublist List.erase_sublist)
/-- the last lift of each entry -/
def lastsF : List Int → List Int
  | [] => []
  | x :: r => if x ∈ r then lastsF r else x :: lastsF r
theorem mem_lasts {x : Int} : ∀ {l : List Int}, x ∈ lastsF l ↔ x ∈ l
  | [] => Iff.rfl
  | y :: r => by
    unfold lastsF
    have ih := mem_lasts (x := x) (l := r)
    split
    · rename_i h
      rw [ih, List.mem_cons]
      constructor
      · exact .inr
      · rintro (rfl | h2)
        · exact h
        · exact h2
    · rw [List.mem_cons, List.mem_cons, ih]
theorem lasts_nodup : ∀ {l : List Int}, (lastsF l).Nodup
  | [] => List.nodup_nil
  | y :: r => by
    unfold lastsF
    split
    · exact lasts_nodup
    · rename_i h
      exact List.nodup_cons.mpr ⟨fun h2 => h (mem_lasts.mp h2), lasts_nodup⟩
theorem lasts_id : ∀ {l : List Int}, l.Nodup → lastsF l = l
  | [], _ => rfl
  | y :: r, h => by
    have h := List.nodup_cons.mp h
    unfold lastsF
    rw [if_neg h.1, lasts_id h.2]
theorem lasts_snoc {e : Int} : ∀ {l : List Int}, lastsF (l ++ [e]) = (lastsF l).filter (fun x => !decide (x = e)) ++ [e]
  | [] => rfl
  | x :: r => by
    show lastsF (x :: (r ++ [e])) = _
    unfold lastsF
    rw [lasts_snoc (l := r)]
    by_cases h1 : x = e
    · subst h1
      rw [if_pos (by simp)]
      by_cases h2 : x ∈ r
      · rw [if_pos h2]
      · rw [if_neg h2, List.filter_cons_of_neg (by simp)]
    · by_cases h2 : x ∈ r
      · rw [if_pos (by simp [h2]), if_pos h2]
      · rw [if_neg (by simp [h1, h2]), if_neg h2, List.filter_cons_of_pos (by simp [h1])]; rfl
theorem lasts_len : ∀ {l : List Int}, (lastsF l).length ≤ l.length
  | [] => Nat.le_refl _
  | x :: r => by
    unfold lastsF
    have := lasts_len (l := r)
    split
    · rw [List.length_cons]; omega
    · rw [List.length_cons, List.length_cons]; omega
/-- all that are close are among some others -/
def hid (g : Int) (sc : List Int) (e : Int) (bh : List Int) : Bool := (upN sc.length).all fun z => decide (z = e) || (decide (z ∈ bh) || !decide (Close g sc e z))
theorem hid_iff {e : Int} {bh : List Int} : hid g sc e bh = true ↔ ∀ z : Int, 0 ≤ z → z < sc.length → z ≠ e → Close g sc e z → z ∈ bh := by
  unfold hid
  rw [List.all_eq_true]
  constructor
  · intro h z h0 h1 h2 h3
    have := h z (mem_upN.mpr ⟨h0, h1⟩)
    simp [h2, h3] at this
    exact this
  · intro h z hz
    have hz := mem_upN.mp hz
    by_cases h2 : z = e
    · simp [h2]
    · by_cases h3 : Close g sc e z
      · simp [h z hz.1 hz.2 h2 h3]
      · simp [h3]
/-- those that are not hidden -/
def seenF (g : Int) (sc : List Int) : List Int → List Int
  | [] => []
  | x :: r => if hid g sc x r = true then seenF g sc r else x :: seenF g sc r
theorem seen_sub : ∀ {l : List Int}, (seenF g sc l).Sublist l
  | [] => .slnil
  | x :: r => by
    unfold seenF
    split
    · exact seen_sub.cons _
    · exact seen_sub.cons₂ _
theorem mem_seen {x : Int} : ∀ {l : List Int}, l.Nodup → (x ∈ seenF g sc l ↔ ∃ a b, l = a ++ x :: b ∧ hid g sc x b = false)
  | [], _ => by simp [seenF]
  | y :: r, nd => by
    have nd' := List.nodup_cons.mp nd
    have ih := mem_seen (x := x) (l := r) nd'.2
    unfold seenF
    constructor
    · intro h
      have h2 : (x = y ∧ hid g sc y r = false) ∨ x ∈ seenF g sc r := by
        split at h
        · exact .inr h
        · rename_i hc
          rcases List.mem_cons.mp h with rfl | h
          · exact .inl ⟨rfl, by simpa using hc⟩
          · exact .inr h
      rcases h2 with ⟨rfl, h2⟩ | h2
      · exact ⟨[], r, rfl, h2⟩
      · obtain ⟨a, b, rfl, h3⟩ := ih.mp h2
        exact ⟨y :: a, b, rfl, h3⟩
    · rintro ⟨a, b, e, h⟩
      cases a with
      | nil =>
        obtain ⟨rfl, rfl⟩ := List.cons.inj e
        rw [if_neg (by simp [h])]
        exact List.mem_cons_self
      | cons w a =>
        obtain ⟨rfl, rfl⟩ := List.cons.inj e
        have := ih.mpr ⟨a, b, rfl, h⟩
        split
        · exact this
        · exact List.mem_cons_of_mem _ this
/-- the short list -/
def shortL (g : Int) (sc ls : List Int) : List Int := fs g sc (seenF g sc (lastsF ls)).length (seenF g sc (lastsF ls))
theorem short_perm {ls : List Int} : (shortL g sc ls).Perm (seenF g sc (lastsF ls)) := fs_perm _ rfl
theorem seen_nodup {ls : List Int} : (seenF g sc (lastsF ls)).Nodup := lasts_nodup.sublist seen_sub
theorem short_nodup {ls : List Int} : (shortL g sc ls).Nodup := short_perm.nodup_iff.mpr seen_nodup
theorem short_mem {ls : List Int} {x : Int} (h : x ∈ shortL g sc ls) : x ∈ ls := mem_lasts.mp (seen_sub.subset (short_perm.mem_iff.mp h))
theorem short_len {ls : List Int} : (shortL g sc ls).length ≤ ls.length := by
  rw [short_perm.length_eq]
  exact Nat.le_trans seen_sub.length_le lasts_len
/-- close ones stand in the short list as in the last lifts -/
theorem short_keeps {ls : List Int} : Keeps g sc (fun x => (lastsF ls).idxOf x) (shortL g sc ls) :=
  fs_keeps _ rfl ((idxOf_rises lasts_nodup).keeps.sublist seen_sub) seen_nodup
theorem idx_after {l a b : List Int} {x y : Int} (nd : l.Nodup) (e : l = a ++ x :: b) (hy : y ∈ l) : y ∈ b ↔ l.idxOf x < l.idxOf y := by
  subst e
  have h1 := idx_split nd rfl
  have na := List.nodup_append.mp nd
  rw [h1]
  constructor
  · intro h
    have hy2 : y ∉ a := fun h2 => na.2.2 y h2 y (List.mem_cons_of_mem _ h) rfl
    have hyx : y ≠ x := by rintro rfl; exact (List.nodup_cons.mp na.2.1).1 h
    rw [List.idxOf_append, if_neg hy2, idx_rest hyx]
    omega
  · intro h
    rcases List.mem_append.mp hy with h2 | h2
    · exfalso
      have : (a ++ x :: b).idxOf y < a.length := by rw [List.idxOf_append, if_pos h2]; exact List.idxOf_lt_length_iff.mpr h2
      omega
    · rcases List.mem_cons.mp h2 with rfl | h2
      · exfalso; omega
      · exact h2
theorem short_short {ls : List Int} (hb : ∀ x ∈ ls, 0 ≤ x ∧ x < sc.length) : shortL g sc (shortL g sc ls) = shortL g sc ls := by
  have nd := short_nodup (g := g) (sc := sc) (ls := ls)
  have e2 : seenF g sc (shortL g sc ls) = shortL g sc ls := by
    have key : ∀ a b : List Int, shortL g sc ls = a ++ b → seenF g sc b = b := by
      intro a b
      induction b generalizing a with
      | nil => intro _; rfl
      | cons x b ih =>
        intro e
        unfold seenF
        rw [ih (a ++ [x]) (by rw [e]; simp), if_neg]
        intro hh
        have hx : x ∈ seenF g sc (lastsF ls) := short_perm.mem_iff.mp (by rw [e]; simp)
        obtain ⟨p, q, el, hq⟩ := (mem_seen lasts_nodup).mp hx
        have hq2 : ¬ hid g sc x q = true := by simp [hq]
        refine hq2 (hid_iff.mpr fun z h0 h1 h2 h3 => ?_)
        have hz := hid_iff.mp hh z h0 h1 h2 h3
        have hzs : z ∈ shortL g sc ls := by rw [e]; simp [hz]
        have hzl : z ∈ lastsF ls := seen_sub.subset (short_perm.mem_iff.mp hzs)
        refine (idx_after lasts_nodup el hzl).mpr ?_
        have k := short_keeps (g := g) (sc := sc) (ls := ls)
        rw [e] at k
        exact (List.pairwise_cons.mp (List.pairwise_append.mp k).2.1).1 z hz h3
    exact key [] _ rfl
  unfold shortL
  rw [show fs g sc (seenF g sc (lastsF ls)).length (seenF g sc (lastsF ls)) = shortL g sc ls from rfl, lasts_id nd, e2]
  have hl : (shortL g sc ls).length = (seenF g sc (lastsF ls)).length := short_perm.length_eq
  rw [hl]
  exact fs_same _ hl short_perm nd short_keeps ((idxOf_rises lasts_nodup).keeps.sublist seen_sub)
/-- the order ahead of settling: the last lifts turned around, then the others as they stood -/
def topO (o ls : List Int) : List Int := (lastsF ls).reverse ++ o.filter fun x => !decide (x ∈ ls)
theorem topO_snoc {o ls : List Int} {e : Int} : topO o (ls ++ [e]) = e :: (topO o ls).filter fun x => !decide (x = e) := by
  unfold topO
  rw [lasts_snoc, List.reverse_append, List.filter_append, List.filter_filter, List.filter_reverse, List.reverse_singleton]
  show e :: (_ ++ _) = e :: (_ ++ _)
  congr 2
  refine List.filter_congr fun x _ => ?_
  by_cases h1 : x ∈ ls <;> by_cases h2 : x = e <;> simp [h1, h2]
theorem topO_nodup {o ls : List Int} (nd : o.Nodup) : (topO o ls).Nodup := by
  unfold topO
  refine List.nodup_append.mpr ⟨(List.reverse_perm _).nodup_iff.mpr lasts_nodup, nd.filter _, fun a ha b hb e => ?_⟩
  subst e
  have h1 := mem_lasts.mp (List.mem_reverse.mp ha)
  have h2 := (List.mem_filter.mp hb).2
  simp [h1] at h2
theorem topO_perm {o ls : List Int} (nd : o.Nodup) (h : ∀ x ∈ ls, x ∈ o) : (topO o ls).Perm o := by
  refine (List.perm_ext_iff_of_nodup (topO_nodup nd) nd).mpr fun x => ?_
  unfold topO
  rw [List.mem_append, List.mem_reverse, mem_lasts, List.mem_filter]
  by_cases c : x ∈ ls
  · simp [c, h x c]
  · simp [c]
theorem lift_left {hg : 1 ≤ g} {T : List Int} {e : Int} (nd : T.Nodup) : leftO g sc (e :: (leftO g sc T).filter fun x => !decide (x = e)) = leftO g sc (e :: T.filter fun x => !decide (x = e)) := by
  have pm : (leftO g sc T).Perm T := leftO_perm _ _ _
  have nd1 : (e :: T.filter fun x => !decide (x = e)).Nodup := List.nodup_cons.mpr ⟨fun h => by simpa using (List.mem_filter.mp h).2, nd.filter _⟩
  have p2 : (e :: (leftO g sc T).filter fun x => !decide (x = e)).Perm (e :: T.filter fun x => !decide (x = e)) := (pm.filter _).cons _
  refine left_is hg (f := fun x => (e :: T.filter fun x => !decide (x = e)).idxOf x) (idxOf_rises nd1) ((leftO_perm _ _ _).trans p2) (leftO_calm hg _ _) (keeps_left hg (p2.nodup_iff.mpr nd1) ?_)
  refine List.pairwise_cons.mpr ⟨fun y hy hc => ?_, ?_⟩
  · have hne : y ≠ e := by simpa using (List.mem_filter.mp hy).2
    show List.idxOf _ _ < List.idxOf _ _
    rw [idx_top, idx_rest hne]
    omega
  · have k : Keeps g sc (fun x => T.idxOf x) (leftO g sc T) := leftO_keeps (idxOf_rises nd)
    have k2 := k.sublist (List.filter_sublist (p := fun x => !decide (x = e)) (l := leftO g sc T))
    refine List.Pairwise.imp_of_mem (fun {x y} hx hy q hc => ?_) k2
    have hx2 := List.mem_filter.mp hx
    have hy2 := List.mem_filter.mp hy
    have nx : x ≠ e := by simpa using hx2.2
    have ny : y ≠ e := by simpa using hy2.2
    show List.idxOf _ _ < List.idxOf _ _
    rw [idx_rest nx, idx_rest ny]
    have := idx_filter (e := e) nd (pm.mem_iff.mp hx2.1) (pm.mem_iff.mp hy2.1) nx ny (q hc)
    omega
theorem lifts_top {hg : 1 ≤ g} {o : List Int} (nd : o.Nodup) (hw : wrongs g sc o = []) : ∀ r : List Int, (r.reverse).foldl (liftO g sc) o = leftO g sc (topO o r.reverse)
  | [] => by
    have e : topO o [] = o := by unfold topO; simp [lastsF]
    show o = leftO g sc (topO o [])
    rw [e, leftO_id hg nd hw]
  | e :: r => by
    rw [List.reverse_cons, List.foldl_append, lifts_top (hg := hg) nd hw r, topO_snoc]
    exact lift_left (hg := hg) (topO_nodup nd)
theorem hidden_of {ls : List Int} {y : Int} (hy : y ∈ ls) (h : y ∉ seenF g sc (lastsF ls)) : ∃ a b, lastsF ls = a ++ y :: b ∧ hid g sc y b = true := by
  obtain ⟨a, b, e⟩ := List.append_of_mem (mem_lasts.mpr hy)
  refine ⟨a, b, e, ?_⟩
  cases c : hid g sc y b with
  | true => rfl
  | false => exact absurd ((mem_seen lasts_nodup).mpr ⟨a, b, e, c⟩) h
/-- the short list does the same -/
theorem short_does {hg : 1 ≤ g} {o ls : List Int} (ho : IsOrd sc.length o) (hw : wrongs g sc o = []) (hb : ∀ x ∈ ls, 0 ≤ x ∧ x < sc.length) : (shortL g sc ls).foldl (liftO g sc) o = ls.foldl (liftO g sc) o := by
  have nd := ho.nd
  have h1 := lifts_top (hg := hg) nd hw ls.reverse
  have h2 := lifts_top (hg := hg) nd hw (shortL g sc ls).reverse
  rw [List.reverse_reverse] at h1 h2
  rw [h1, h2]
  have hin : ∀ x ∈ ls, x ∈ o := fun x hx => ho.mem.mpr (hb x hx)
  have hin2 : ∀ x ∈ shortL g sc ls, x ∈ o := fun x hx => hin x (short_mem hx)
  have hL := lasts_nodup (l := ls)
  -- the rank of an entry
  have fL : ∀ x, x ∈ ls → (if x ∈ ls then (lastsF ls).length - 1 - (lastsF ls).idxOf x else (lastsF ls).length + o.idxOf x) = (lastsF ls).length - 1 - (lastsF ls).idxOf x := fun x hx => if_pos hx
  have fR : ∀ x, x ∉ ls → (if x ∈ ls then (lastsF ls).length - 1 - (lastsF ls).idxOf x else (lastsF ls).length + o.idxOf x) = (lastsF ls).length + o.idxOf x := fun x hx => if_neg hx
  have lt : ∀ x, x ∈ ls → (lastsF ls).idxOf x < (lastsF ls).length := fun x hx => List.idxOf_lt_length_iff.mpr (mem_lasts.mpr hx)
  have hidx : ∀ x y, y ∈ ls → y ∉ shortL g sc ls → x ∈ o → x ≠ y → Close g sc x y → x ∈ ls ∧ (lastsF ls).idxOf y < (lastsF ls).idxOf x := fun x y hy hn hx hne hc => by
    obtain ⟨a, b, e, hh⟩ := hidden_of hy (fun h => hn (short_perm.mem_iff.mpr h))
    have hxo := ho.mem.mp hx
    have hxb := hid_iff.mp hh x hxo.1 hxo.2 hne (close_symm hc)
    have hxl : x ∈ lastsF ls := by rw [e]; simp [hxb]
    exact ⟨mem_lasts.mp hxl, (idx_after hL e hxl).mp hxb⟩
  refine left_is hg (f := fun x => if x ∈ ls then (lastsF ls).length - 1 - (lastsF ls).idxOf x else (lastsF ls).length + o.idxOf x) ?_ ((leftO_perm _ _ _).trans ((topO_perm nd hin2).trans (topO_perm nd hin).symm)) (leftO_calm hg _ _) (keeps_left hg (topO_nodup nd) ?_)
  · unfold topO
    refine List.pairwise_append.mpr ⟨?_, ?_, fun x hx y hy => ?_⟩
    · rw [List.pairwise_reverse]
      refine List.Pairwise.imp_of_mem (fun {a b} ha hb2 q => ?_) (idxOf_rises hL)
      have ha := mem_lasts.mp ha
      have hb2 := mem_lasts.mp hb2
      have := lt b hb2
      show (if _ then _ else _) < (if _ then _ else _)
      rw [fL _ ha, fL _ hb2]
      have q : (lastsF ls).idxOf a < (lastsF ls).idxOf b := q
      omega
    · refine List.Pairwise.imp_of_mem (fun {a b} ha hb2 q => ?_) ((idxOf_rises nd).sublist (List.filter_sublist (p := fun x => !decide (x ∈ ls)) (l := o)))
      have ha : a ∉ ls := by simpa using (List.mem_filter.mp ha).2
      have hb2 : b ∉ ls := by simpa using (List.mem_filter.mp hb2).2
      show (if _ then _ else _) < (if _ then _ else _)
      rw [fR _ ha, fR _ hb2]
      have q : o.idxOf a < o.idxOf b := q
      omega
    · have hx := mem_lasts.mp (List.mem_reverse.mp hx)
      have hy : y ∉ ls := by simpa using (List.mem_filter.mp hy).2
      have := lt x hx
      show (if _ then _ else _) < (if _ then _ else _)
      rw [fL _ hx, fR _ hy]
      omega
  · unfold topO
    rw [lasts_id short_nodup]
    refine List.pairwise_append.mpr ⟨?_, ?_, fun x hx y hy hc => ?_⟩
    · rw [List.pairwise_reverse]
      refine List.Pairwise.imp_of_mem (fun {a b} ha hb2 q hc => ?_) (short_keeps (g := g) (sc := sc) (ls := ls))
      have ha := short_mem ha
      have hb2 := short_mem hb2
      have := lt b hb2
      show (if _ then _ else _) < (if _ then _ else _)
      rw [fL _ ha, fL _ hb2]
      have q : (lastsF ls).idxOf a < (lastsF ls).idxOf b := q (close_symm hc)
      omega
    · refine List.Pairwise.imp_of_mem (fun {a b} ha hb2 q hc => ?_) ((idxOf_rises nd).sublist (List.filter_sublist (p := fun x => !decide (x ∈ shortL g sc ls)) (l := o)))
      have ha := List.mem_filter.mp ha
      have hb2 := List.mem_filter.mp hb2
      have na : a ∉ shortL g sc ls := by simpa using ha.2
      have nb : b ∉ shortL g sc ls := by simpa using hb2.2
      have q : o.idxOf a < o.idxOf b := q
      have hne : a ≠ b := by rintro rfl; omega
      have lb : b ∉ ls := fun h => by
        have z := hidx a b h nb ha.1 hne hc
        have z2 := hidx b a z.1 na hb2.1 (Ne.symm hne) (close_symm hc)
        omega
      have la : a ∉ ls := fun h => lb (hidx b a h na hb2.1 (Ne.symm hne) (close_symm hc)).1
      show (if _ then _ else _) < (if _ then _ else _)
      rw [fR _ la, fR _ lb]
      omega
    · have hx2 := List.mem_reverse.mp hx
      have hy2 := List.mem_filter.mp hy
      have ny : y ∉ shortL g sc ls := by simpa using hy2.2
      have lx := short_mem hx2
      have := lt x lx
      show (if _ then _ else _) < (if _ then _ else _)
      by_cases c : y ∈ ls
      · have z := hidx x y c ny (hin x lx) (by rintro rfl; exact ny hx2) hc
        rw [fL _ lx, fL _ c]
        omega
      · rw [fL _ lx, fR _ c]
        omega
end
end LB
set_option Elab.async false
set_option linter.all false
/-! lists of lifts that do not do the same are parted by an order -/
namespace LB
open PySem PySem.Spec PyProof.Rows L2 DL
section
variable {g : Int} {sc : List Int}
/-- where an entry comes to stand among close ones -/
def rank (o ls : List Int) (x : Int) : Nat := if x ∈ ls then (lastsF ls).length - 1 - (lastsF ls).idxOf x else (lastsF ls).length + o.idxOf x
theorem rank_rises {o ls : List Int} (nd : o.Nodup) : Rises (rank o ls) (topO o ls) := by
  have hL := lasts_nodup (l := ls)
  have lt : ∀ x, x ∈ ls → (lastsF ls).idxOf x < (lastsF ls).length := fun x hx => List.idxOf_lt_length_iff.mpr (mem_lasts.mpr hx)
  unfold topO
  refine List.pairwise_append.mpr ⟨?_, ?_, fun x hx y hy => ?_⟩
  · rw [List.pairwise_reverse]
    refine List.Pairwise.imp_of_mem (fun {a b} ha hb2 q => ?_) (idxOf_rises hL)
    have ha := mem_lasts.mp ha
    have hb2 := mem_lasts.mp hb2
    have := lt b hb2
    unfold rank
    rw [if_pos ha, if_pos hb2]
    have q : (lastsF ls).idxOf a < (lastsF ls).idxOf b := q
    omega
  · refine List.Pairwise.imp_of_mem (fun {a b} ha hb2 q => ?_) ((idxOf_rises nd).sublist (List.filter_sublist (p := fun x => !decide (x ∈ ls)) (l := o)))
    have ha : a ∉ ls := by simpa using (List.mem_filter.mp ha).2
    have hb2 : b ∉ ls := by simpa using (List.mem_filter.mp hb2).2
    unfold rank
    rw [if_neg ha, if_neg hb2]
    have q : o.idxOf a < o.idxOf b := q
    omega
  · have hx := mem_lasts.mp (List.mem_reverse.mp hx)
    have hy : y ∉ ls := by simpa using (List.mem_filter.mp hy).2
    have := lt x hx
    unfold rank
    rw [if_pos hx, if_neg hy]
    omega
theorem lifts_keep {hg : 1 ≤ g} {o ls : List Int} (nd : o.Nodup) (hw : wrongs g sc o = []) : Keeps g sc (rank o ls) (ls.foldl (liftO g sc) o) := by
  have h1 := lifts_top (hg := hg) nd hw ls.reverse
  rw [List.reverse_reverse] at h1
  rw [h1]
  exact leftO_keeps (rank_rises nd)
/-- of two close ones one has the lesser rank, whatever the lists are, where the orders behind them are one -/
theorem same_rank {hg : 1 ≤ g} {o l1 l2 : List Int} (ho : IsOrd sc.length o) (hw : wrongs g sc o = []) (h1 : ∀ x ∈ l1, 0 ≤ x ∧ x < sc.length) (e : l1.foldl (liftO g sc) o = l2.foldl (liftO g sc) o) {x y : Int} (hx : 0 ≤ x ∧ x < sc.length) (hy : 0 ≤ y ∧ y < sc.length) (hne : x ≠ y) (hc : Close g sc x y) (hr : rank o l1 x < rank o l1 y) : rank o l2 x < rank o l2 y := by
  have k1 := lifts_keep (hg := hg) (ls := l1) ho.nd hw
  have k2 := lifts_keep (hg := hg) (ls := l2) ho.nd hw
  rw [← e] at k2
  have hoo : IsOrd sc.length (l1.foldl (liftO g sc) o) := lifts_ord ho h1
  have nd := hoo.nd
  have mx := hoo.mem.mpr hx
  have my := hoo.mem.mpr hy
  generalize l1.foldl (liftO g sc) o = R at k1 k2 nd mx my
  obtain ⟨a, b, rfl⟩ := List.append_of_mem mx
  rcases List.mem_append.mp my with h | h
  · have := (List.pairwise_append.mp k1).2.2 y h x List.mem_cons_self (close_symm hc)
    omega
  · rcases List.mem_cons.mp h with h | h
    · exact absurd h.symm hne
    · exact (List.pairwise_cons.mp (List.pairwise_append.mp k2).2.1).1 y h hc
/-- an order with an entry above all that are close to it -/
def topped (g : Int) (sc : List Int) (z : Int) : List Int := liftO g sc (upN sc.length) z
theorem topped_ord {z : Int} (hz : 0 ≤ z ∧ z < sc.length) : IsOrd sc.length (topped g sc z) := lift_ord (.refl _) hz
theorem topped_settled (hg : 1 ≤ g) {z : Int} : wrongs g sc (topped g sc z) = [] := lift_settled hg _ _ _
theorem topped_above {hg : 1 ≤ g} {z x : Int} (hz : 0 ≤ z ∧ z < sc.length) (hx : 0 ≤ x ∧ x < sc.length) (hne : x ≠ z) (hc : Close g sc x z) : (topped g sc z).idxOf z < (topped g sc z).idxOf x := by
  have ho := topped_ord (g := g) (sc := sc) hz
  have nd := ho.nd
  have ndu : (upN sc.length).Nodup := IsOrd.nd (List.Perm.refl _)
  have nd0 : (z :: (upN sc.length).filter fun x => !decide (x = z)).Nodup := List.nodup_cons.mpr ⟨fun h => by simpa using (List.mem_filter.mp h).2, ndu.filter _⟩
  have k : Keeps g sc (fun w => (z :: (upN sc.length).filter fun x => !decide (x = z)).idxOf w) (topped g sc z) := leftO_keeps (idxOf_rises nd0)
  have mz := ho.mem.mpr hz
  have mx := ho.mem.mpr hx
  generalize hT : topped g sc z = T at k mz mx nd
  obtain ⟨a, b, e⟩ := List.append_of_mem mz
  subst e
  refine (idx_after nd rfl mx).mp ?_
  rcases List.mem_append.mp mx with h | h
  · exfalso
    have := (List.pairwise_append.mp k).2.2 x h z List.mem_cons_self hc
    rw [show (fun w => (z :: (upN sc.length).filter fun x => !decide (x = z)).idxOf w) z = 0 from idx_top] at this
    omega
  · rcases List.mem_cons.mp h with h | h
    · exact absurd h hne
    · exact h
theorem rank_short {o : List Int} {S : List Int} (nd : S.Nodup) (x : Int) : rank o S x = if x ∈ S then S.length - 1 - S.idxOf x else S.length + o.idxOf x := by
  unfold rank
  rw [lasts_id nd]
theorem seen_short {ls : List Int} (hb : ∀ x ∈ ls, 0 ≤ x ∧ x < sc.length) : seenF g sc (shortL g sc ls) = shortL g sc ls := by
  have h := short_short (g := g) (sc := sc) hb
  have nd := short_nodup (g := g) (sc := sc) (ls := ls)
  have h2 := short_perm (g := g) (sc := sc) (ls := shortL g sc ls)
  rw [h, lasts_id nd] at h2
  exact (seen_sub.eq_of_length h2.symm.length_eq)
/-- an entry of the one short list alone: the order parts them -/
theorem part_one {hg : 1 ≤ g} {l1 S2 : List Int} (hb : ∀ x ∈ l1, 0 ≤ x ∧ x < sc.length) (nd2 : S2.Nodup) {x z : Int} (hx : x ∈ shortL g sc l1) (hx2 : x ∉ S2) (hz : 0 ≤ z ∧ z < sc.length) (hne : z ≠ x) (hc : Close g sc x z)
    (hz1 : z ∉ shortL g sc l1 ∨ (shortL g sc l1).idxOf z < (shortL g sc l1).idxOf x) : (shortL g sc l1).foldl (liftO g sc) (topped g sc z) ≠ S2.foldl (liftO g sc) (topped g sc z) := by
  intro e
  have nd1 := short_nodup (g := g) (sc := sc) (ls := l1)
  have hbS : ∀ x ∈ shortL g sc l1, 0 ≤ x ∧ x < sc.length := fun x hx => hb x (short_mem hx)
  have hxr := hbS x hx
  have lx := List.idxOf_lt_length_iff.mpr hx
  have r1 : rank (topped g sc z) (shortL g sc l1) x < rank (topped g sc z) (shortL g sc l1) z := by
    rw [rank_short nd1, rank_short nd1, if_pos hx]
    by_cases c : z ∈ shortL g sc l1
    · rw [if_pos c]
      rcases hz1 with h | h
      · exact absurd c h
      · omega
    · rw [if_neg c]; omega
  have r2 := same_rank (hg := hg) (topped_ord hz) (topped_settled hg) hbS e hxr hz (Ne.symm hne) hc r1
  have ta := topped_above (hg := hg) hz hxr (Ne.symm hne) hc
  rw [rank_short nd2, rank_short nd2, if_neg hx2] at r2
  by_cases c : z ∈ S2
  · rw [if_pos c] at r2; omega
  · rw [if_neg c] at r2; omega
/-- not hidden: a close one that is not lifted behind it -/
theorem rival_of {ls : List Int} (hb : ∀ x ∈ ls, 0 ≤ x ∧ x < sc.length) {x : Int} (hx : x ∈ shortL g sc ls) : ∃ z : Int, (0 ≤ z ∧ z < sc.length) ∧ z ≠ x ∧ Close g sc x z ∧ (z ∉ shortL g sc ls ∨ (shortL g sc ls).idxOf z < (shortL g sc ls).idxOf x) := by
  have nd := short_nodup (g := g) (sc := sc) (ls := ls)
  have hs : x ∈ seenF g sc (shortL g sc ls) := by rw [seen_short hb]; exact hx
  obtain ⟨a, b, e, hh⟩ := (mem_seen nd).mp hs
  have : ¬ hid g sc x b = true := by simp [hh]
  rw [hid_iff] at this
  apply Classical.byContradiction
  intro hno
  refine this fun z h0 h1 h2 h3 => ?_
  apply Classical.byContradiction
  intro hzb
  refine hno ⟨z, ⟨h0, h1⟩, h2, h3, ?_⟩
  by_cases c : z ∈ shortL g sc ls
  · right
    have h4 := idx_after nd e c
    have h5 : ¬ (shortL g sc ls).idxOf x < (shortL g sc ls).idxOf z := fun h => hzb (h4.mpr h)
    have h6 : (shortL g sc ls).idxOf x ≠ (shortL g sc ls).idxOf z := fun h => h2 (by
      have hx' := List.idxOf_lt_length_iff.mpr hx
      have hz' := List.idxOf_lt_length_iff.mpr c
      have e1 := List.getElem_idxOf hx'
      have e2 := List.getElem_idxOf hz'
      rw [← e1, ← e2]
      congr 1
      exact h.symm)
    omega
  · exact .inl c
/-- the same entries, but not one list: any settled order parts them -/
theorem part_two {hg : 1 ≤ g} {l1 l2 : List Int} (hb : ∀ x ∈ l1, 0 ≤ x ∧ x < sc.length) (hp : (shortL g sc l1).Perm (shortL g sc l2)) (hb2 : ∀ x ∈ l2, 0 ≤ x ∧ x < sc.length) {o : List Int} (ho : IsOrd sc.length o) (hw : wrongs g sc o = [])
    (e : (shortL g sc l1).foldl (liftO g sc) o = (shortL g sc l2).foldl (liftO g sc) o) : shortL g sc l1 = shortL g sc l2 := by
  have nd1 := short_nodup (g := g) (sc := sc) (ls := l1)
  have nd2 := short_nodup (g := g) (sc := sc) (ls := l2)
  have hbS : ∀ x ∈ shortL g sc l1, 0 ≤ x ∧ x < sc.length := fun x hx => hb x (short_mem hx)
  have s1 : fs g sc (shortL g sc l1).length (shortL g sc l1) = shortL g sc l1 := by
    have := short_short (g := g) (sc := sc) hb
    unfold shortL at this
    rw [show fs g sc (seenF g sc (lastsF l1)).length (seenF g sc (lastsF l1)) = shortL g sc l1 from rfl, lasts_id nd1, seen_short hb] at this
    exact this
  have s2 : fs g sc (shortL g sc l2).length (shortL g sc l2) = shortL g sc l2 := by
    have := short_short (g := g) (sc := sc) hb2
    unfold shortL at this
    rw [show fs g sc (seenF g sc (lastsF l2)).length (seenF g sc (lastsF l2)) = shortL g sc l2 from rfl, lasts_id nd2, seen_short hb2] at this
    exact this
  have k1 : Keeps g sc (fun x => (shortL g sc l2).idxOf x) (shortL g sc l1) := by
    refine List.Pairwise.imp_of_mem (fun {a b} ha hb' q hc => ?_) (idxOf_rises nd1)
    have q : (shortL g sc l1).idxOf a < (shortL g sc l1).idxOf b := q
    have hne : a ≠ b := by rintro rfl; omega
    have la := List.idxOf_lt_length_iff.mpr ha
    have lb := List.idxOf_lt_length_iff.mpr hb'
    have r1 : rank o (shortL g sc l1) b < rank o (shortL g sc l1) a := by
      rw [rank_short nd1, rank_short nd1, if_pos ha, if_pos hb']
      omega
    have r2 := same_rank (hg := hg) ho hw hbS e (hbS b hb') (hbS a ha) (Ne.symm hne) (close_symm hc) r1
    rw [rank_short nd2, rank_short nd2, if_pos (hp.mem_iff.mp ha), if_pos (hp.mem_iff.mp hb')] at r2
    show (shortL g sc l2).idxOf a < (shortL g sc l2).idxOf b
    omega
  rw [← s1, ← s2, ← hp.length_eq]
  exact fs_same _ rfl hp nd1 k1 (idxOf_rises nd2).keeps
/-- lists that do the same at all settled orders have one short list -/
theorem same_short {hg : 1 ≤ g} {l1 l2 : List Int} (hn : 1 ≤ sc.length) (hb : ∀ x ∈ l1, 0 ≤ x ∧ x < sc.length) (hb2 : ∀ x ∈ l2, 0 ≤ x ∧ x < sc.length) (h : ∀ o, IsOrd sc.length o → wrongs g sc o = [] → l1.foldl (liftO g sc) o = l2.foldl (liftO g sc) o) : shortL g sc l1 = shortL g sc l2 := by
  have h' : ∀ o, IsOrd sc.length o → wrongs g sc o = [] → (shortL g sc l1).foldl (liftO g sc) o = (shortL g sc l2).foldl (liftO g sc) o := fun o ho hw => by
    rw [short_does (hg := hg) ho hw hb, short_does (hg := hg) ho hw hb2, h o ho hw]
  have nd1 := short_nodup (g := g) (sc := sc) (ls := l1)
  have nd2 := short_nodup (g := g) (sc := sc) (ls := l2)
  have m1 : ∀ x ∈ shortL g sc l1, x ∈ shortL g sc l2 := fun x hx => Classical.byContradiction fun hx2 => by
    obtain ⟨z, hz, hne, hc, hz1⟩ := rival_of hb hx
    exact part_one (hg := hg) hb nd2 hx hx2 hz hne hc hz1 (h' _ (topped_ord hz) (topped_settled hg))
  have m2 : ∀ x ∈ shortL g sc l2, x ∈ shortL g sc l1 := fun x hx => Classical.byContradiction fun hx2 => by
    obtain ⟨z, hz, hne, hc, hz1⟩ := rival_of hb2 hx
    exact part_one (hg := hg) hb2 nd1 hx hx2 hz hne hc hz1 (h' _ (topped_ord hz) (topped_settled hg)).symm
  have hp : (shortL g sc l1).Perm (shortL g sc l2) := (List.perm_ext_iff_of_nodup nd1 nd2).mpr fun x => ⟨m1 x, m2 x⟩
  have h0 : (0 : Int) ≤ 0 ∧ (0 : Int) < sc.length := by omega
  exact part_two (hg := hg) hb hp hb2 (topped_ord h0) (topped_settled hg) (h' _ (topped_ord h0) (topped_settled hg))
end
end LB
set_option Elab.async false
set_option linter.all false
/-! settled orders counted -/
namespace LB
open PySem PySem.Spec PyProof.Rows L2 DL
/-- the product over ascending scores: those ahead that are close, and b -/
def pw (g : Int) (b : Int → Int) : List Int → List Int → Int
  | _, [] => 1
  | pre, x :: r => (((pre.filter fun y => decide (x - y < g)).length : Int) + b x) * pw g b (pre ++ [x]) r
/-- below e at once -/
def nr (g e : Int) : Int → Int := fun x => if x - e < g then 1 else 0
theorem pw_perm {g : Int} {b : Int → Int} : ∀ {r p q : List Int}, p.Perm q → pw g b p r = pw g b q r
  | [], _, _, _ => rfl
  | x :: r, p, q, h => by
    unfold pw
    rw [(h.filter _).length_eq, pw_perm (h.append_right [x])]
theorem pw_near {g e : Int} : ∀ {r p : List Int}, pw g (nr g e) p r = pw g (fun _ => 0) (e :: p) r
  | [], _ => rfl
  | x :: r, p => by
    unfold pw
    rw [pw_near, List.cons_append]
    congr 1
    unfold nr
    by_cases h : x - e < g
    · rw [if_pos h, List.filter_cons_of_pos (by simp [h]), List.length_cons]; omega
    · rw [if_neg h, List.filter_cons_of_neg (by simp [h])]
theorem sum_map_mul (f : Int → Int) (c : Int) (l : List Int) : (l.map fun y => c * f y).sum = c * (l.map f).sum := by
  induction l with
  | nil => simp
  | cons x l ih => rw [List.map_cons, List.map_cons, List.sum_cons, List.sum_cons, ih, Int.mul_add]
theorem sum_zero {f : Int → Int} {l : List Int} (h : ∀ x ∈ l, f x = 0) : (l.map f).sum = 0 := by
  induction l with
  | nil => rfl
  | cons x l ih => rw [List.map_cons, List.sum_cons, h x List.mem_cons_self, ih fun y hy => h y (List.mem_cons_of_mem _ hy)]; rfl
theorem sum_perm : ∀ {l m : List Int}, l.Perm m → l.sum = m.sum := by
  intro l m h
  induction h with
  | nil => rfl
  | cons x _ ih => rw [List.sum_cons, List.sum_cons, ih]
  | swap x y l => simp only [List.sum_cons]; omega
  | trans _ _ h1 h2 => rw [h1, h2]
theorem erase_least {x : Int} : ∀ {r : List Int}, r.Pairwise (· ≤ ·) → (∀ y ∈ r, x ≤ y) → x ∈ r → r = x :: r.erase x
  | y :: r, hr, hl, hm => by
    have hp := List.pairwise_cons.mp hr
    have h1 := hl y List.mem_cons_self
    have e : y = x := by
      rcases List.mem_cons.mp hm with h | h
      · exact h.symm
      · have := hp.1 x h; omega
    subst e
    rw [List.erase_cons_head]
theorem pw_sum {g : Int} (hg : 1 ≤ g) {b : Int → Int} (hb : ∀ x, b x = 0 ∨ b x = 1) (ha : ∀ x y, x ≤ y → b y = 1 → b x = 1) : ∀ {r pre : List Int}, r.Pairwise (· ≤ ·) →
    pw g b pre r = pw g (fun _ => 0) pre r + (r.map fun y => b y * pw g (nr g y) pre (r.erase y)).sum
  | [], _, _ => by simp [pw]
  | x :: r, pre, h => by
    have hp := List.pairwise_cons.mp h
    have ih := pw_sum hg hb ha (r := r) (pre := pre ++ [x]) hp.2
    have e1 : ((x :: r).map fun y => b y * pw g (nr g y) pre ((x :: r).erase y)).sum = b x * pw g (fun _ => 0) (pre ++ [x]) r + (((pre.filter fun y => decide (x - y < g)).length : Int) + 1) * (r.map fun y => b y * pw g (nr g y) (pre ++ [x]) (r.erase y)).sum := by
      rw [List.map_cons, List.sum_cons, List.erase_cons_head, pw_near, pw_perm (g := g) (b := fun _ => 0) (show (x :: pre).Perm (pre ++ [x]) from (List.perm_append_comm (l₁ := [x]) (l₂ := pre))), ← sum_map_mul]
      congr 2
      refine List.map_congr_left fun y hy => ?_
      have hxy := hp.1 y hy
      have e2 : (x :: r).erase y = x :: r.erase y := by
        by_cases c : x = y
        · subst c
          rw [List.erase_cons_head]
          exact erase_least hp.2 hp.1 hy
        · rw [List.erase_cons_tail (by simp [c])]
      rw [e2]
      show b y * ((((pre.filter fun y => decide (x - y < g)).length : Int) + nr g y x) * pw g (nr g y) (pre ++ [x]) (r.erase y)) = _
      rw [show nr g y x = 1 from if_pos (by omega)]
      rw [Int.mul_left_comm]
    rw [e1]
    show (((pre.filter fun y => decide (x - y < g)).length : Int) + b x) * pw g b (pre ++ [x]) r = (((pre.filter fun y => decide (x - y < g)).length : Int) + 0) * pw g (fun _ => 0) (pre ++ [x]) r + _
    rw [ih]
    generalize ((pre.filter fun y => decide (x - y < g)).length : Int) = c
    generalize pw g (fun _ => 0) (pre ++ [x]) r = Z
    rcases hb x with h0 | h0
    · have hz : (r.map fun y => b y * pw g (nr g y) (pre ++ [x]) (r.erase y)).sum = 0 := by
        refine sum_zero fun y hy => ?_
        rcases hb y with h1 | h1
        · rw [h1, Int.zero_mul]
        · have := ha x y (hp.1 y hy) h1; omega
      rw [hz, h0]
      simp
    · rw [h0]
      generalize (r.map fun y => b y * pw g (nr g y) (pre ++ [x]) (r.erase y)).sum = T
      rw [Int.add_mul, Int.mul_add, Int.add_mul, Int.add_mul]
      omega
theorem nr_01 {g e x : Int} : nr g e x = 0 ∨ nr g e x = 1 := by unfold nr; split <;> simp
theorem nr_anti {g e x y : Int} (h : x ≤ y) (h1 : nr g e y = 1) : nr g e x = 1 := by
  unfold nr at *
  split at h1
  · exact if_pos (by omega)
  · exact absurd h1 (by decide)
/-- how many settled orders of some entries stand behind b -/
def wE (g : Int) (b : Int → Int) (sc rest : List Int) : Int := pw g b [] (sortI (rest.map (gi sc)))
theorem wE_sum {g : Int} (hg : 1 ≤ g) {b : Int → Int} (hb : ∀ x, b x = 0 ∨ b x = 1) (ha : ∀ x y, x ≤ y → b y = 1 → b x = 1) {sc rest : List Int} (hn : rest.Nodup) (h : rest ≠ []) :
    wE g b sc rest = (rest.map fun e => b (gi sc e) * wE g (nr g (gi sc e)) sc (rest.filter fun x => !decide (x = e))).sum := by
  have hp := sortI_perm (rest.map (gi sc))
  have hu := sortI_up (rest.map (gi sc))
  unfold wE
  rw [pw_sum hg hb ha hu]
  have e0 : pw g (fun _ => 0) [] (sortI (rest.map (gi sc))) = 0 := by
    cases e : sortI (rest.map (gi sc)) with
    | nil => rw [e] at hp; have := hp.length_eq; simp at this; exact absurd (List.eq_nil_of_length_eq_zero this.symm) h
    | cons x r => show (((([] : List Int).filter _).length : Int) + 0) * _ = 0; simp
  rw [e0, Int.zero_add, sum_perm (hp.map _), List.map_map]
  congr 1
  refine List.map_congr_left fun e he => ?_
  show b (gi sc e) * pw g (nr g (gi sc e)) [] ((sortI (rest.map (gi sc))).erase (gi sc e)) = _
  congr 2
  refine up_uniq ?_ (hu.sublist List.erase_sublist) (sortI_up _)
  refine (hp.erase _).trans (List.Perm.trans ?_ (sortI_perm _).symm)
  rw [show (rest.filter fun x => !decide (x = e)) = rest.erase e from by rw [hn.erase_eq_filter]; rfl]
  have h2 := ((List.perm_cons_erase he).map (gi sc)).erase (gi sc e)
  rwa [List.map_cons, List.erase_cons_head] at h2
theorem pw_snoc {g : Int} {b : Int → Int} {x : Int} : ∀ {r p : List Int}, pw g b p (r ++ [x]) = pw g b p r * ((((p ++ r).filter fun y => decide (x - y < g)).length : Int) + b x)
  | [], p => by
    show ((((p.filter fun y => decide (x - y < g)).length : Int) + b x) * 1 : Int) = 1 * _
    rw [List.append_nil, Int.mul_one, Int.one_mul]
  | z :: r, p => by
    show _ * pw g b (p ++ [z]) (r ++ [x]) = _ * pw g b (p ++ [z]) r * _
    rw [pw_snoc, Int.mul_assoc, List.append_assoc]
    rfl
theorem pw_nat {g : Int} {b : Int → Int} (hb : ∀ x, b x = 0 ∨ b x = 1) : ∀ {r p : List Int}, p.length + r.length ≤ 28 → ∃ n : Nat, pw g b p r = n ∧ n ≤ 29 ^ r.length
  | [], _, _ => ⟨1, rfl, by simp⟩
  | x :: r, p, h => by
    rw [List.length_cons] at h
    obtain ⟨n, hn, hl⟩ := pw_nat hb (r := r) (p := p ++ [x]) (by simp; omega)
    have hf := List.length_filter_le (fun y => decide (x - y < g)) p
    unfold pw
    rw [hn]
    have : ∃ m : Nat, (((p.filter fun y => decide (x - y < g)).length : Int) + b x) = m ∧ m ≤ 29 := by
      rcases hb x with h0 | h0
      · exact ⟨_, by rw [h0, Int.add_zero], by omega⟩
      · exact ⟨(p.filter fun y => decide (x - y < g)).length + 1, by rw [h0]; omega, by omega⟩
    obtain ⟨m, hm, hm2⟩ := this
    rw [hm]
    refine ⟨m * n, by push_cast; rfl, ?_⟩
    rw [List.length_cons, Nat.pow_succ, Nat.mul_comm _ 29]
    exact Nat.mul_le_mul hm2 hl
theorem pw_le {g : Int} {b : Int → Int} (hb : ∀ x, b x = 0 ∨ b x = 1) {r : List Int} (h : r.length ≤ 28) : 0 ≤ pw g b [] r ∧ pw g b [] r ≤ 88540901833145211536614766025207452637361 := by
  obtain ⟨n, hn, hl⟩ := pw_nat hb (g := g) (p := []) (r := r) (by simpa using h)
  have h2 : 29 ^ r.length ≤ 29 ^ 28 := Nat.pow_le_pow_right (by decide) h
  rw [hn]
  have h3 : (29 ^ 28 : Nat) = 88540901833145211536614766025207452637361 := by decide
  omega
/-- the window of those ahead that are close -/
theorem win_len {g : Int} {R : List Int} (hu : R.Pairwise (· ≤ ·)) {i f : Nat} (hi : i < R.length) (hf : f ≤ i) (h1 : ∀ j : Nat, j < f → g ≤ gi R i - gi R j) (h2 : gi R i - gi R f < g) :
    ((((R.take i).filter fun y => decide (gi R i - y < g)).length : Nat) : Int) = i - f := by
  have e : R.take i = (R.take i).take f ++ (R.take i).drop f := (List.take_append_drop f _).symm
  have e1 : ((R.take i).take f).filter (fun y => decide (gi R i - y < g)) = [] := by
    refine List.filter_eq_nil_iff.mpr fun y hy => ?_
    obtain ⟨j, hj, rfl⟩ := List.mem_iff_getElem.mp hy
    rw [List.length_take, List.length_take] at hj
    have := h1 j (by omega)
    rw [gi_nat (o := R) (p := j) (by omega)] at this
    simp only [List.getElem_take]
    simp; omega
  have e2 : ((R.take i).drop f).filter (fun y => decide (gi R i - y < g)) = (R.take i).drop f := by
    refine List.filter_eq_self.mpr fun y hy => ?_
    obtain ⟨j, hj, rfl⟩ := List.mem_iff_getElem.mp hy
    rw [List.length_drop, List.length_take] at hj
    simp only [List.getElem_drop, List.getElem_take]
    rw [gi_nat (o := R) (p := f) (by omega)] at h2
    have : R[f] ≤ R[f + j] := by
      by_cases c : j = 0
      · subst c; exact Int.le_refl _
      · exact List.pairwise_iff_getElem.mp hu f (f + j) (by omega) (by omega) (by omega)
    simp; omega
  rw [e, List.filter_append, e1, e2, List.nil_append, List.length_drop, List.length_take]
  omega
theorem gi_up {R : List Int} (hu : R.Pairwise (· ≤ ·)) {i j : Nat} (h : i ≤ j) (hj : j < R.length) : gi R i ≤ gi R j := by
  rw [gi_nat (by omega), gi_nat hj]
  by_cases c : i = j
  · subst c; exact Int.le_refl _
  · exact List.pairwise_iff_getElem.mp hu i j (by omega) hj (by omega)
theorem wE_le {g : Int} {b : Int → Int} (hb : ∀ x, b x = 0 ∨ b x = 1) {sc rest : List Int} (h : rest.length ≤ 28) : 0 ≤ wE g b sc rest ∧ wE g b sc rest ≤ 88540901833145211536614766025207452637361 := by
  refine pw_le hb ?_
  rw [(sortI_perm _).length_eq, List.length_map]
  exact h
/-! the list of all settled orders -/
/-- an entry that can come behind a row -/
def okR (g : Int) (sc row : List Int) (e : Int) : Bool := decide (row = []) || decide (gi sc e - gi sc (gi row (row.length - 1 : Nat)) < g)
def able (n : Nat) (row : List Int) : List Int := (upN n).filter fun e => !decide (e ∈ row)
def exts (g : Int) (sc row : List Int) : List (List Int) := ((able sc.length row).filter (okR g sc row)).map fun e => row ++ [e]
def rowsK (g : Int) (sc : List Int) : Nat → List (List Int)
  | 0 => [[]]
  | k + 1 => (rowsK g sc k).flatMap (exts g sc)
def itR (g : Int) (sc : List Int) : Nat → List (List Int) → List (List Int)
  | 0, R => R
  | m + 1, R => itR g sc m (R.flatMap (exts g sc))
theorem itR_rows {g : Int} {sc : List Int} : ∀ m k, itR g sc m (rowsK g sc k) = rowsK g sc (k + m)
  | 0, _ => rfl
  | m + 1, k => by
    show itR g sc m (rowsK g sc (k + 1)) = _
    rw [itR_rows m, Nat.add_right_comm]; rfl
theorem upN_nodup (n : Nat) : (upN n).Nodup := by
  unfold upN
  rw [List.nodup_iff_pairwise_ne, List.pairwise_map]
  exact List.nodup_range.imp fun h => by omega
theorem able_nodup {n : Nat} {row : List Int} : (able n row).Nodup := (upN_nodup n).filter _
theorem mem_able {n : Nat} {row : List Int} {e : Int} : e ∈ able n row ↔ (0 ≤ e ∧ e < n) ∧ e ∉ row := by
  unfold able
  rw [List.mem_filter, mem_upN]
  simp
theorem exts_len {g : Int} {sc row : List Int} : (exts g sc row).length ≤ sc.length := by
  unfold exts able
  rw [List.length_map]
  exact Nat.le_trans (List.length_filter_le _ _) (Nat.le_trans (List.length_filter_le _ _) (by rw [upN_len]; exact Nat.le_refl _))
theorem flat_len {g : Int} {sc : List Int} : ∀ R : List (List Int), (R.flatMap (exts g sc)).length ≤ sc.length * R.length
  | [] => by simp
  | r :: R => by
    rw [List.flatMap_cons, List.length_append, List.length_cons, Nat.mul_add, Nat.mul_one]
    have h1 := exts_len (g := g) (sc := sc) (row := r)
    have h2 := flat_len (g := g) (sc := sc) R
    omega
theorem rows_len {g : Int} {sc : List Int} (h : sc.length ≤ 6) : ∀ k, (rowsK g sc k).length ≤ 6 ^ k
  | 0 => by simp [rowsK]
  | k + 1 => by
    have h1 := flat_len (g := g) (sc := sc) (rowsK g sc k)
    have h2 := rows_len (g := g) h k
    rw [Nat.pow_succ, Nat.mul_comm]
    exact Nat.le_trans h1 (Nat.mul_le_mul h h2)
theorem rows_len7 {g : Int} {sc : List Int} (h : sc.length ≤ 6) {k : Nat} (hk : k ≤ 6) : (rowsK g sc k).length ≤ 46656 :=
  Nat.le_trans (rows_len h k) (Nat.le_trans (Nat.pow_le_pow_right (by decide) hk) (by decide))
/-- a row on the way -/
def RowOk (n k : Nat) (row : List Int) : Prop := row.length = k ∧ row.Nodup ∧ ∀ x ∈ row, 0 ≤ x ∧ x < n
theorem rows_ok {g : Int} {sc : List Int} : ∀ k, ∀ row ∈ rowsK g sc k, RowOk sc.length k row
  | 0, row, h => by rw [show rowsK g sc 0 = [[]] from rfl, List.mem_singleton] at h; subst h; exact ⟨rfl, .nil, by simp⟩
  | k + 1, row, h => by
    obtain ⟨q, hq, hr⟩ := List.mem_flatMap.mp (show row ∈ (rowsK g sc k).flatMap (exts g sc) from h)
    obtain ⟨e, he, rfl⟩ := List.mem_map.mp hr
    have hm := mem_able.mp (List.mem_filter.mp he).1
    obtain ⟨h1, h2, h3⟩ := rows_ok k q hq
    refine ⟨by simp [h1], ?_, fun x hx => ?_⟩
    · refine List.nodup_append.mpr ⟨h2, by simp, fun a ha c hc => ?_⟩
      rw [List.mem_singleton.mp hc]
      exact fun hh => hm.2 (hh ▸ ha)
    · rcases List.mem_append.mp hx with hx | hx
      · exact h3 x hx
      · rw [List.mem_singleton.mp hx]; exact hm.1
theorem able_more {n : Nat} {row : List Int} {e : Int} : able n (row ++ [e]) = (able n row).filter fun x => !decide (x = e) := by
  unfold able
  rw [List.filter_filter]
  refine List.filter_congr fun x _ => ?_
  by_cases h1 : x ∈ row <;> by_cases h2 : x = e <;> simp [h1, h2]
theorem able_len {n k : Nat} {row : List Int} (h : RowOk n k row) : (able n row).length + k = n := by
  obtain ⟨h1, h2, h3⟩ := h
  have hp : (able n row ++ row).Perm (upN n) := by
    refine (List.perm_ext_iff_of_nodup ?_ (upN_nodup n)).mpr fun x => ?_
    · refine List.nodup_append.mpr ⟨able_nodup, h2, fun a ha c hc hh => (mem_able.mp ha).2 (hh ▸ hc)⟩
    · rw [List.mem_append, mem_able, mem_upN]
      constructor
      · rintro (h | h)
        · exact h.1
        · exact h3 x h
      · intro h
        by_cases c : x ∈ row
        · exact .inr c
        · exact .inl ⟨h, c⟩
  have := hp.length_eq
  rw [List.length_append, upN_len, h1] at this
  exact this
/-- the sum of a weight over rows -/
def sumR (f : List Int → Int) (R : List (List Int)) : Int := (R.map f).sum
theorem sumR_flat {f : List Int → Int} {h : List Int → List (List Int)} : ∀ {R : List (List Int)}, sumR f (R.flatMap h) = sumR (fun r => sumR f (h r)) R
  | [] => rfl
  | r :: R => by
    unfold sumR
    rw [List.flatMap_cons, List.map_append, List.sum_append, List.map_cons, List.sum_cons]
    congr 1
    exact sumR_flat
theorem sumR_congr {f f' : List Int → Int} {R : List (List Int)} (h : ∀ r ∈ R, f r = f' r) : sumR f R = sumR f' R := by
  unfold sumR; rw [List.map_congr_left h]
theorem sum_filter {f : Int → Int} {p : Int → Bool} {l : List Int} : ((l.filter p).map f).sum = (l.map fun x => (if p x then 1 else 0) * f x).sum := by
  induction l with
  | nil => rfl
  | cons x l ih =>
    rw [List.map_cons, List.sum_cons, ← ih]
    by_cases h : p x = true
    · rw [List.filter_cons_of_pos h, List.map_cons, List.sum_cons, if_pos h, Int.one_mul]
    · rw [List.filter_cons_of_neg h, if_neg h, Int.zero_mul, Int.zero_add]
def lastS (sc row : List Int) : Int := gi sc (gi row (row.length - 1 : Nat))
theorem last_more {row : List Int} {e : Int} {sc : List Int} : lastS sc (row ++ [e]) = gi sc e := by
  unfold lastS
  rw [List.length_append, show row.length + [e].length - 1 = row.length from rfl, gi_nat (by simp)]
  simp
theorem count_rows {g : Int} (hg : 1 ≤ g) {sc : List Int} {P : List Int → Bool} (hP : ∀ row e, row ≠ [] → P (row ++ [e]) = P row) : ∀ m k (R : List (List Int)), k + m = sc.length → 1 ≤ k → (∀ row ∈ R, RowOk sc.length k row) →
    (((itR g sc m R).filter P).length : Int) = sumR (fun row => if P row then wE g (nr g (lastS sc row)) sc (able sc.length row) else 0) R
  | 0, k, R, hk, _, hR => by
    show ((R.filter P).length : Int) = _
    induction R with
    | nil => rfl
    | cons r R ih =>
      have ih := ih fun row hr => hR row (List.mem_cons_of_mem _ hr)
      have hl := able_len (hR r List.mem_cons_self)
      have e0 : able sc.length r = [] := List.eq_nil_of_length_eq_zero (by omega)
      have e1 : sumR (fun row => if P row then wE g (nr g (lastS sc row)) sc (able sc.length row) else 0) (r :: R) = (if P r then 1 else 0) + sumR (fun row => if P row then wE g (nr g (lastS sc row)) sc (able sc.length row) else 0) R := by
        unfold sumR
        rw [List.map_cons, List.sum_cons, e0]
        congr 1
      rw [e1, ← ih]
      by_cases h : P r = true
      · rw [List.filter_cons_of_pos h, if_pos h, List.length_cons]; omega
      · rw [List.filter_cons_of_neg h, if_neg h]; omega
  | m + 1, k, R, hk, h1, hR => by
    show (((itR g sc m (R.flatMap (exts g sc))).filter P).length : Int) = _
    rw [count_rows hg hP m (k + 1) _ (by omega) (by omega) ?_, sumR_flat]
    · refine sumR_congr fun row hr => ?_
      have ho := hR row hr
      have hne : row ≠ [] := by intro h; subst h; have := ho.1; simp at this; omega
      have hl := able_len ho
      have hae : able sc.length row ≠ [] := by intro h; rw [h] at hl; simp at hl; omega
      rw [wE_sum hg (fun x => nr_01) (fun x y => nr_anti) able_nodup hae]
      unfold exts sumR
      rw [List.map_map, sum_filter]
      by_cases hp : P row = true
      · rw [if_pos hp]
        congr 1
        refine List.map_congr_left fun e he => ?_
        show _ * (if P (row ++ [e]) then wE g (nr g (lastS sc (row ++ [e]))) sc (able sc.length (row ++ [e])) else 0) = _
        rw [hP row e hne, if_pos hp, last_more, able_more]
        congr 1
        unfold okR nr
        rw [show decide (row = []) = false from decide_eq_false hne]
        show (if (false || decide (gi sc e - lastS sc row < g)) = true then (1 : Int) else 0) = _
        by_cases c : gi sc e - lastS sc row < g <;> simp [c]
      · rw [if_neg hp]
        refine sum_zero fun e he => ?_
        show _ * (if P (row ++ [e]) then _ else 0) = 0
        rw [hP row e hne, if_neg hp, Int.mul_zero]
    · intro row hr
      obtain ⟨q, hq, hr⟩ := List.mem_flatMap.mp hr
      obtain ⟨e, he, rfl⟩ := List.mem_map.mp hr
      have hm := mem_able.mp (List.mem_filter.mp he).1
      obtain ⟨h1, h2, h3⟩ := hR q hq
      refine ⟨by simp [h1], ?_, fun x hx => ?_⟩
      · refine List.nodup_append.mpr ⟨h2, by simp, fun a ha c hc => ?_⟩
        rw [List.mem_singleton.mp hc]
        exact fun hh => hm.2 (hh ▸ ha)
      · rcases List.mem_append.mp hx with hx | hx
        · exact h3 x hx
        · rw [List.mem_singleton.mp hx]; exact hm.1
theorem rows_one {g : Int} {sc : List Int} : rowsK g sc 1 = (upN sc.length).map fun e => [e] := by
  show [[]].flatMap (exts g sc) = _
  rw [List.flatMap_singleton]
  unfold exts
  have e1 : able sc.length [] = upN sc.length := List.filter_eq_self.mpr fun x _ => by simp
  have e2 : (upN sc.length).filter (okR g sc []) = upN sc.length := List.filter_eq_self.mpr fun x _ => by simp [okR]
  rw [e1, e2]
  rfl
theorem able_one {n : Nat} {e : Int} : able n [e] = (upN n).filter fun x => !decide (x = e) := by
  unfold able
  exact List.filter_congr fun x _ => by simp
theorem lastS_one {sc : List Int} {e : Int} : lastS sc [e] = gi sc e := rfl
theorem count_all {g : Int} (hg : 1 ≤ g) {sc : List Int} (hn : 1 ≤ sc.length) : ((rowsK g sc sc.length).length : Int) = wE g (fun _ => 1) sc (upN sc.length) := by
  have h := count_rows hg (sc := sc) (P := fun _ => true) (fun _ _ _ => rfl) (sc.length - 1) 1 (rowsK g sc 1) (by omega) (by omega) (rows_ok 1)
  rw [itR_rows, show 1 + (sc.length - 1) = sc.length from by omega, List.filter_eq_self.mpr (by simp), rows_one] at h
  rw [h, wE_sum hg (fun _ => .inr rfl) (fun _ _ _ _ => rfl) (upN_nodup _) (by intro h0; have := upN_len sc.length; rw [h0] at this; simp at this; omega)]
  unfold sumR
  rw [List.map_map]
  congr 1
  refine List.map_congr_left fun e he => ?_
  show (if true = true then wE g (nr g (lastS sc [e])) sc (able sc.length [e]) else 0) = _
  rw [if_pos rfl, able_one, lastS_one, Int.one_mul]
theorem sum_pick {f : Int → Int} {e : Int} : ∀ {l : List Int}, l.Nodup → e ∈ l → (l.map fun x => if decide (x = e) = true then f x else 0).sum = f e
  | x :: l, hn, he => by
    have hn := List.nodup_cons.mp hn
    rw [List.map_cons, List.sum_cons]
    by_cases c : x = e
    · subst c
      rw [if_pos (by simp), sum_zero (l := l), Int.add_zero]
      intro y hy
      exact if_neg (by simp; rintro rfl; exact hn.1 hy)
    · rw [if_neg (by simp [c]), Int.zero_add]
      rcases List.mem_cons.mp he with h | h
      · exact absurd h.symm c
      · exact sum_pick hn.2 h
theorem count_top {g : Int} (hg : 1 ≤ g) {sc : List Int} {e : Int} (he : 0 ≤ e ∧ e < sc.length) : (((rowsK g sc sc.length).filter fun row => decide (gi row 0 = e)).length : Int) = wE g (nr g (gi sc e)) sc ((upN sc.length).filter fun x => !decide (x = e)) := by
  have h := count_rows hg (sc := sc) (P := fun row => decide (gi row 0 = e)) (fun row x hne => by
    cases row with
    | nil => exact absurd rfl hne
    | cons y r => rfl) (sc.length - 1) 1 (rowsK g sc 1) (by omega) (by omega) (rows_ok 1)
  rw [itR_rows, show 1 + (sc.length - 1) = sc.length from by omega, rows_one] at h
  rw [h]
  unfold sumR
  rw [List.map_map, ← sum_pick (f := fun e => wE g (nr g (gi sc e)) sc ((upN sc.length).filter fun x => !decide (x = e))) (upN_nodup _) (mem_upN.mpr he)]
  congr 1
  refine List.map_congr_left fun x hx => ?_
  show (if decide (gi [x] 0 = e) = true then wE g (nr g (lastS sc [x])) sc (able sc.length [x]) else 0) = _
  rw [able_one, lastS_one]
  rfl
end LB
set_option Elab.async false
set_option linter.all false
/-! the first list that does the same -/
namespace LB
open PySem PySem.Spec PyProof.Rows L2 DL
section
variable {g : Int} {sc : List Int}
theorem rowOk_ord {n : Nat} {row : List Int} (h : RowOk n n row) : IsOrd n row := by
  have hl := able_len h
  have e0 : able n row = [] := List.eq_nil_of_length_eq_zero (by omega)
  refine (List.perm_ext_iff_of_nodup h.2.1 (upN_nodup n)).mpr fun x => ⟨fun hx => mem_upN.mpr (h.2.2 x hx), fun hx => ?_⟩
  apply Classical.byContradiction
  intro hn
  have : x ∈ able n row := mem_able.mpr ⟨mem_upN.mp hx, hn⟩
  rw [e0] at this
  cases this
theorem calm_snoc {q : List Int} {e : Int} : Calm g sc (q ++ [e]) ↔ Calm g sc q ∧ okR g sc q e = true := by
  unfold Calm okR
  have gl : ∀ p : Nat, p < q.length → gi (q ++ [e]) p = gi q p := fun p hp => by
    rw [gi_nat (by simp; omega), gi_nat hp]
    simp [List.getElem_append_left hp]
  have ge : gi (q ++ [e]) q.length = e := by rw [gi_nat (by simp)]; simp
  constructor
  · intro h
    refine ⟨fun p hp => ?_, ?_⟩
    · have h1 := h p (by simp; omega)
      have e1 := gl p (by omega)
      have e2 := gl (p + 1) hp
      rw [show (((p + 1 : Nat) : Int)) = (p : Int) + 1 by omega] at e2
      rwa [e1, e2] at h1
    · by_cases c : q = []
      · simp [c]
      · have hl : 0 < q.length := List.length_pos_iff.mpr c
        have h1 := h (q.length - 1) (by simp; omega)
        have e1 := gl (q.length - 1) (by omega)
        rw [e1, show (((q.length - 1 : Nat) : Int)) + 1 = (q.length : Nat) by omega, ge] at h1
        unfold beats at h1
        have := of_decide_eq_false h1
        simp only [c, decide_false, Bool.false_or]
        exact decide_eq_true (by omega)
  · rintro ⟨h1, h2⟩ p hp
    simp only [List.length_append, List.length_cons, List.length_nil] at hp
    by_cases c : p + 1 < q.length
    · have e1 := gl p (by omega)
      have e2 := gl (p + 1) c
      rw [show (((p + 1 : Nat) : Int)) = (p : Int) + 1 by omega] at e2
      rw [e1, e2]
      exact h1 p c
    · have hq : q ≠ [] := by intro z; subst z; simp at hp c
      have hpe : p = q.length - 1 := by omega
      have e1 := gl p (by omega)
      rw [e1, show ((p : Nat) : Int) + 1 = (q.length : Nat) by omega, ge]
      simp only [hq, decide_false, Bool.false_or] at h2
      have := of_decide_eq_true h2
      rw [hpe]
      unfold beats
      exact decide_eq_false (by omega)
theorem rows_calm : ∀ k, ∀ row ∈ rowsK g sc k, Calm g sc row
  | 0, row, h => by rw [show rowsK g sc 0 = [[]] from rfl, List.mem_singleton] at h; subst h; exact fun p hp => absurd hp (Nat.not_lt_zero _)
  | k + 1, row, h => by
    obtain ⟨q, hq, hr⟩ := List.mem_flatMap.mp (show row ∈ (rowsK g sc k).flatMap (exts g sc) from h)
    obtain ⟨e, he, rfl⟩ := List.mem_map.mp hr
    exact calm_snoc.mpr ⟨rows_calm k q hq, (List.mem_filter.mp he).2⟩
theorem rows_all {row : List Int} (nd : row.Nodup) (hm : ∀ x ∈ row, 0 ≤ x ∧ x < sc.length) (hc : Calm g sc row) : ∀ k, k ≤ row.length → row.take k ∈ rowsK g sc k
  | 0, _ => by simp [rowsK]
  | k + 1, hk => by
    have ih := rows_all nd hm hc k (by omega)
    have e : row.take (k + 1) = row.take k ++ [row[k]] := by rw [List.take_succ_eq_append_getElem hk]
    refine List.mem_flatMap.mpr ⟨row.take k, ih, ?_⟩
    rw [e]
    refine List.mem_map.mpr ⟨row[k], List.mem_filter.mpr ⟨mem_able.mpr ⟨hm _ (List.getElem_mem _), ?_⟩, ?_⟩, rfl⟩
    · intro h
      have nd2 : (row.take k ++ [row[k]]).Nodup := by rw [← e]; exact nd.sublist (List.take_sublist _ _)
      exact (List.nodup_append.mp nd2).2.2 _ h _ List.mem_cons_self rfl
    · have hct : Calm g sc (row.take (k + 1)) := fun p hp => by
        rw [List.length_take] at hp
        have g1 : gi (row.take (k + 1)) p = gi row p := by rw [gi_nat (by rw [List.length_take]; omega), gi_nat (by omega)]; simp
        have g2 : gi (row.take (k + 1)) ((p : Nat) + 1) = gi row ((p : Nat) + 1) := by
          rw [show ((p : Nat) : Int) + 1 = ((p + 1 : Nat) : Int) by omega, gi_nat (by rw [List.length_take]; omega), gi_nat (by omega)]; simp
        rw [g1, g2]
        exact hc p (by omega)
      rw [e] at hct
      exact (calm_snoc.mp hct).2
theorem mem_rows {row : List Int} : row ∈ rowsK g sc sc.length ↔ IsOrd sc.length row ∧ wrongs g sc row = [] := by
  constructor
  · intro h
    exact ⟨rowOk_ord (rows_ok _ row h), wrongs_nil.mpr (rows_calm _ row h)⟩
  · rintro ⟨ho, hw⟩
    have := rows_all ho.nd (fun x hx => ho.mem.mp hx) (wrongs_nil.mp hw) sc.length (by rw [ho.len]; exact Nat.le_refl _)
    rwa [List.take_of_length_le (by rw [ho.len]; exact Nat.le_refl _)] at this
/-- in list order, lists of one length -/
def lx : List Int → List Int → Prop
  | x :: r, y :: s => x < y ∨ (x = y ∧ lx r s)
  | _, _ => False
theorem lx_app : ∀ {a b : List Int} (c d : List Int), lx a b → lx (a ++ c) (b ++ d)
  | x :: r, y :: s, c, d, h => by
    rcases h with h | ⟨h1, h2⟩
    · exact .inl h
    · exact .inr ⟨h1, lx_app c d h2⟩
  | [], _, _, _, h => h.elim
  | _ :: _, [], _, _, h => h.elim
theorem lx_snoc {e e' : Int} (h : e < e') : ∀ a : List Int, lx (a ++ [e]) (a ++ [e'])
  | [] => .inl h
  | x :: r => .inr ⟨rfl, lx_snoc h r⟩
/-- all lists of so many different entries -/
def lv (n : Nat) : Nat → List (List Int)
  | 0 => [[]]
  | k + 1 => (lv n k).flatMap fun row => (able n row).map fun e => row ++ [e]
def lvs (n : Nat) : Nat → List (List Int)
  | 0 => [[]]
  | k + 1 => lvs n k ++ lv n (k + 1)
theorem lv_ok {n : Nat} : ∀ k, ∀ row ∈ lv n k, RowOk n k row
  | 0, row, h => by rw [show lv n 0 = [[]] from rfl, List.mem_singleton] at h; subst h; exact ⟨rfl, .nil, by simp⟩
  | k + 1, row, h => by
    obtain ⟨q, hq, hr⟩ := List.mem_flatMap.mp (show row ∈ (lv n k).flatMap _ from h)
    obtain ⟨e, he, rfl⟩ := List.mem_map.mp hr
    have hm := mem_able.mp he
    obtain ⟨h1, h2, h3⟩ := lv_ok k q hq
    refine ⟨by simp [h1], ?_, fun x hx => ?_⟩
    · refine List.nodup_append.mpr ⟨h2, by simp, fun a ha c hc => ?_⟩
      rw [List.mem_singleton.mp hc]
      exact fun hh => hm.2 (hh ▸ ha)
    · rcases List.mem_append.mp hx with hx | hx
      · exact h3 x hx
      · rw [List.mem_singleton.mp hx]; exact hm.1
theorem lv_step {n : Nat} : ∀ R : List (List Int), (R.flatMap fun row => (able n row).map fun e => row ++ [e]).length ≤ n * R.length
  | [] => by simp
  | r :: R => by
    rw [List.flatMap_cons, List.length_append, List.length_map, List.length_cons, Nat.mul_add, Nat.mul_one]
    have h1 : (able n r).length ≤ n := by unfold able; exact Nat.le_trans (List.length_filter_le _ _) (by rw [upN_len]; exact Nat.le_refl _)
    have h2 := lv_step (n := n) R
    omega
theorem lv_len {n : Nat} (h : n ≤ 4) : ∀ k, (lv n k).length ≤ 4 ^ k
  | 0 => by simp [lv]
  | k + 1 => by
    have h1 := lv_step (n := n) (lv n k)
    have h2 := lv_len h k
    rw [Nat.pow_succ, Nat.mul_comm]
    exact Nat.le_trans h1 (Nat.mul_le_mul h h2)
theorem lv_len4 {n : Nat} (h : n ≤ 4) {k : Nat} (hk : k ≤ 4) : (lv n k).length ≤ 256 :=
  Nat.le_trans (lv_len h k) (Nat.le_trans (Nat.pow_le_pow_right (by decide) hk) (by decide))
theorem lvs_len {n : Nat} (h : n ≤ 4) : ∀ k, k ≤ 4 → (lvs n k).length ≤ 256 * (k + 1)
  | 0, _ => by simp [lvs]
  | k + 1, hk => by
    have h1 := lvs_len h k (by omega)
    have h2 := lv_len4 h hk
    show (lvs n k ++ lv n (k + 1)).length ≤ _
    rw [List.length_append]
    omega
theorem lv_all {n : Nat} {row : List Int} (nd : row.Nodup) (hm : ∀ x ∈ row, 0 ≤ x ∧ x < n) : ∀ k, k ≤ row.length → row.take k ∈ lv n k
  | 0, _ => by simp [lv]
  | k + 1, hk => by
    have ih := lv_all nd hm k (by omega)
    have e : row.take (k + 1) = row.take k ++ [row[k]] := by rw [List.take_succ_eq_append_getElem hk]
    refine List.mem_flatMap.mpr ⟨row.take k, ih, ?_⟩
    rw [e]
    refine List.mem_map.mpr ⟨row[k], mem_able.mpr ⟨hm _ (List.getElem_mem _), ?_⟩, rfl⟩
    intro h
    have nd2 : (row.take k ++ [row[k]]).Nodup := by rw [← e]; exact nd.sublist (List.take_sublist _ _)
    exact (List.nodup_append.mp nd2).2.2 _ h _ List.mem_cons_self rfl
theorem able_up {n : Nat} {row : List Int} : (able n row).Pairwise (· < ·) := by
  unfold able
  refine List.Pairwise.filter _ ?_
  unfold upN
  rw [List.pairwise_map]
  exact List.pairwise_lt_range.imp fun h => by omega
theorem lv_up {n : Nat} : ∀ k, (lv n k).Pairwise lx
  | 0 => by simp [lv]
  | k + 1 => by
    have ih := lv_up (n := n) k
    show ((lv n k).flatMap _).Pairwise lx
    rw [List.pairwise_flatMap]
    refine ⟨fun row _ => ?_, ih.imp fun {a b} h x hx y hy => ?_⟩
    · rw [List.pairwise_map]
      exact able_up.imp fun h => lx_snoc h row
    · obtain ⟨e, _, rfl⟩ := List.mem_map.mp hx
      obtain ⟨e', _, rfl⟩ := List.mem_map.mp hy
      exact lx_app _ _ h
/-- shorter, or ahead in list order -/
def ahd (a b : List Int) : Prop := a.length < b.length ∨ (a.length = b.length ∧ lx a b)
theorem lvs_mem {n : Nat} {row : List Int} : ∀ k, row ∈ lvs n k ↔ ∃ j, j ≤ k ∧ row ∈ lv n j
  | 0 => by
    constructor
    · intro h; exact ⟨0, Nat.le_refl _, h⟩
    · rintro ⟨j, hj, h⟩
      obtain rfl : j = 0 := by omega
      exact h
  | k + 1 => by
    show row ∈ lvs n k ++ lv n (k + 1) ↔ _
    rw [List.mem_append, lvs_mem k]
    constructor
    · rintro (⟨j, hj, h⟩ | h)
      · exact ⟨j, by omega, h⟩
      · exact ⟨k + 1, Nat.le_refl _, h⟩
    · rintro ⟨j, hj, h⟩
      by_cases c : j = k + 1
      · subst c; exact .inr h
      · exact .inl ⟨j, by omega, h⟩
theorem lvs_up {n : Nat} : ∀ k, (lvs n k).Pairwise ahd
  | 0 => by simp [lvs]
  | k + 1 => by
    show (lvs n k ++ lv n (k + 1)).Pairwise ahd
    refine List.pairwise_append.mpr ⟨lvs_up k, ?_, fun a ha b hb => ?_⟩
    · refine List.Pairwise.imp_of_mem (fun {a b} ha hb h => ?_) (lv_up (n := n) (k + 1))
      exact .inr ⟨by rw [(lv_ok _ a ha).1, (lv_ok _ b hb).1], h⟩
    · obtain ⟨j, hj, h⟩ := (lvs_mem k).mp ha
      exact .inl (by rw [(lv_ok _ a h).1, (lv_ok _ b hb).1]; omega)
theorem fs_least : ∀ (n : Nat) {l : List Int}, l.length = n → ¬ lx l (fs g sc n l)
  | 0, l, h => by rw [List.eq_nil_of_length_eq_zero h]; exact fun z => z.elim
  | n + 1, l, h => by
    cases l with
    | nil => simp at h
    | cons x r =>
      have e : fs g sc (n + 1) (x :: r) = fst1 g sc (x :: r) :: fs g sc n ((x :: r).erase (fst1 g sc (x :: r))) := by
        show (if x :: r = [] then [] else _) = _
        rw [if_neg (by simp)]
      rw [e]
      have hx : x ∈ ab g sc [] (x :: r) := mem_ab.mpr ⟨[], r, rfl, by simp⟩
      have hle : fst1 g sc (x :: r) ≤ x := minL_le hx
      rintro (h1 | ⟨h1, h2⟩)
      · omega
      · rw [← h1, List.erase_cons_head] at h2
        exact fs_least n (by simpa using h) h2
theorem short_whole {l : List Int} (nd : l.Nodup) (h : (shortL g sc l).length = l.length) : shortL g sc l = fs g sc l.length l := by
  have e1 := lasts_id nd
  have e2 : seenF g sc l = l := by
    have hp := short_perm (g := g) (sc := sc) (ls := l)
    rw [e1] at hp
    exact seen_sub.eq_of_length (by rw [← hp.length_eq, h])
  unfold shortL
  rw [e1, e2]
/-- the short list is the first one, by lengths and then in list order, that does the same -/
theorem short_first {hg : 1 ≤ g} (hn : 1 ≤ sc.length) {ls : List Int} (hb : ∀ x ∈ ls, 0 ≤ x ∧ x < sc.length) {p : List Int → Bool} (hp : ∀ a ∈ lvs sc.length sc.length, p a = true ↔ ∀ row ∈ rowsK g sc sc.length, a.foldl (liftO g sc) row = ls.foldl (liftO g sc) row) : (lvs sc.length sc.length).find? p = some (shortL g sc ls) := by
  have nd := short_nodup (g := g) (sc := sc) (ls := ls)
  have hS : ∀ x ∈ shortL g sc ls, 0 ≤ x ∧ x < sc.length := fun x hx => hb x (short_mem hx)
  have hlen : (shortL g sc ls).length ≤ sc.length := by
    have := able_len (n := sc.length) (k := (shortL g sc ls).length) (row := shortL g sc ls) ⟨rfl, nd, hS⟩
    omega
  have hmem : shortL g sc ls ∈ lvs sc.length sc.length := by
    refine (lvs_mem _).mpr ⟨(shortL g sc ls).length, hlen, ?_⟩
    have := lv_all nd hS (shortL g sc ls).length (Nat.le_refl _)
    rwa [List.take_of_length_le (Nat.le_refl _)] at this
  have hup := lvs_up (n := sc.length) sc.length
  obtain ⟨a, b, e⟩ := List.append_of_mem hmem
  refine List.find?_eq_some_iff_append.mpr ⟨?_, a, b, e, fun x hx => ?_⟩
  · refine (hp _ hmem).mpr fun row hr => ?_
    have := mem_rows.mp hr
    exact short_does (hg := hg) this.1 this.2 hb
  · have hxm : x ∈ lvs sc.length sc.length := by rw [e]; exact List.mem_append_left _ hx
    rw [e] at hup
    have ha : ahd x (shortL g sc ls) := (List.pairwise_append.mp hup).2.2 x hx _ List.mem_cons_self
    obtain ⟨j, _, hj⟩ := (lvs_mem _).mp hxm
    have ok := lv_ok j x hj
    cases c : p x with
    | false => rfl
    | true =>
      exfalso
      have hq := (hp x hxm).mp c
      have hs : shortL g sc x = shortL g sc ls := same_short (hg := hg) hn ok.2.2 hb fun o ho hw => hq o (mem_rows.mpr ⟨ho, hw⟩)
      have hle := short_len (g := g) (sc := sc) (ls := x)
      rw [hs] at hle
      rcases ha with h | ⟨h1, h2⟩
      · omega
      · rw [← hs] at h1 h2
        rw [short_whole ok.2.1 h1.symm] at h2
        exact fs_least _ rfl h2
end
end LB
set_option Elab.async false
set_option linter.all false
/-! plans of lifts -/
namespace LB
open PySem PySem.Spec PyProof.Rows L2 DL
section
variable {g : Int} {sc : List Int}
/-- of two that stand so the first is meant less -/
theorem keeps_at {f : Int → Nat} {l : List Int} (k : Keeps g sc f l) (nd : l.Nodup) {x y : Int} (hx : x ∈ l) (hy : y ∈ l) (h : l.idxOf x < l.idxOf y) (hc : Close g sc x y) : f x < f y := by
  obtain ⟨a, m, b, rfl⟩ := idx_lt_split nd hx hy h
  exact (List.pairwise_cons.mp (List.pairwise_append.mp k).2.1).1 y (List.mem_append_right _ List.mem_cons_self) hc
/-- it passes a close one -/
def Turn (g : Int) (sc o w : List Int) (t : Int) : Prop := t ∈ w ∧ ∃ y ∈ w, w.idxOf t < w.idxOf y ∧ Close g sc t y ∧ o.idxOf y < o.idxOf t
/-- it must be lifted -/
def Mu (g : Int) (sc o w : List Int) (x : Int) : Prop := ∃ t, Turn g sc o w t ∧ (x = t ∨ Ch g sc (fun z => w.idxOf z) w x t)
theorem Mu.mem {o w : List Int} {x : Int} (h : Mu g sc o w x) : x ∈ w := by
  obtain ⟨t, h, rfl | h2⟩ := h
  · exact h.1
  · exact h2.mem.1
theorem Mu.up {o w : List Int} {x z : Int} (h : Mu g sc o w x) (hz : z ∈ w) (hi : w.idxOf z < w.idxOf x) (hc : Close g sc z x) : Mu g sc o w z := by
  have hn : Near g sc (fun z => w.idxOf z) w z x := ⟨hz, h.mem, hi, hc⟩
  obtain ⟨t, h, rfl | h2⟩ := h
  · exact ⟨_, h, .inr (.one hn)⟩
  · exact ⟨t, h, .inr (.pre hn h2)⟩
theorem plan_does (hg : 1 ≤ g) {o w ls : List Int} (ho : IsOrd sc.length o) (hw : wrongs g sc o = []) (hwo : IsOrd sc.length w) (hww : wrongs g sc w = []) (nd : ls.Nodup) (hm : ∀ x, x ∈ ls ↔ Mu g sc o w x) (hk : Keeps g sc (fun x => sc.length - w.idxOf x) ls) :
    ls.foldl (liftO g sc) o = w := by
  have hb : ∀ x ∈ ls, 0 ≤ x ∧ x < sc.length := fun x hx => hwo.mem.mp ((hm x).mp hx).mem
  have hR : IsOrd sc.length (ls.foldl (liftO g sc) o) := lifts_ord ho hb
  have hRs : wrongs g sc (ls.foldl (liftO g sc) o) = [] := lifts_settled hg hw
  have k1 := lifts_keep (hg := hg) (ls := ls) ho.nd hw
  have wl := hwo.len
  refine left_unique hg (f := fun z => w.idxOf z) (hR.trans hwo.symm) (wrongs_nil.mp hRs) (wrongs_nil.mp hww) ?_ (idxOf_rises hwo.nd).keeps
  have hnd : (ls.foldl (liftO g sc) o).Pairwise (· ≠ ·) := hR.nd
  refine List.Pairwise.imp_of_mem (fun {x y} hx hy q hc => ?_) (k1.and hnd)
  obtain ⟨q, hne⟩ := q
  have q := q hc
  have hxw := hwo.mem.mpr (hR.mem.mp hx)
  have hyw := hwo.mem.mpr (hR.mem.mp hy)
  have lx := List.idxOf_lt_length_iff.mpr hxw
  have ly := List.idxOf_lt_length_iff.mpr hyw
  have hne2 : w.idxOf x ≠ w.idxOf y := fun e => hne (idx_inj hxw hyw e)
  rw [rank_short nd, rank_short nd] at q
  show w.idxOf x < w.idxOf y
  by_cases hlt : w.idxOf x < w.idxOf y
  · exact hlt
  exfalso
  have hgt : w.idxOf y < w.idxOf x := by omega
  by_cases mx : x ∈ ls
  · have my : y ∈ ls := (hm y).mpr (((hm x).mp mx).up hyw hgt (close_symm hc))
    rw [if_pos mx, if_pos my] at q
    have l1 := List.idxOf_lt_length_iff.mpr mx
    have l2 := List.idxOf_lt_length_iff.mpr my
    have := keeps_at hk nd my mx (by omega) (close_symm hc)
    have this : sc.length - w.idxOf y < sc.length - w.idxOf x := this
    omega
  · rw [if_neg mx] at q
    by_cases my : y ∈ ls
    · rw [if_pos my] at q
      have l2 := List.idxOf_lt_length_iff.mpr my
      omega
    · rw [if_neg my] at q
      exact my ((hm y).mpr ⟨y, ⟨hyw, x, hxw, hgt, close_symm hc, by omega⟩, .inl rfl⟩)
/-- whatever leads there lifts what must be lifted, those above later -/
theorem plan_need (hg : 1 ≤ g) {o w ls : List Int} (ho : IsOrd sc.length o) (hw : wrongs g sc o = []) (hwo : IsOrd sc.length w) (h : ls.foldl (liftO g sc) o = w) :
    (∀ x, Mu g sc o w x → x ∈ ls) ∧ ∀ x z, x ∈ ls → z ∈ w → x ∈ w → w.idxOf z < w.idxOf x → Close g sc z x → z ∈ ls ∧ (lastsF ls).idxOf x < (lastsF ls).idxOf z := by
  have k1 := lifts_keep (hg := hg) (ls := ls) ho.nd hw
  rw [h] at k1
  have nd := hwo.nd
  have lt : ∀ x, x ∈ ls → (lastsF ls).idxOf x < (lastsF ls).length := fun x hx => List.idxOf_lt_length_iff.mpr (mem_lasts.mpr hx)
  have up : ∀ x z, x ∈ ls → z ∈ w → x ∈ w → w.idxOf z < w.idxOf x → Close g sc z x → z ∈ ls ∧ (lastsF ls).idxOf x < (lastsF ls).idxOf z := by
    intro x z hx hz hxw hi hc
    have q := keeps_at k1 nd hz hxw hi hc
    have l1 := lt x hx
    unfold rank at q
    rw [if_pos hx] at q
    by_cases mz : z ∈ ls
    · rw [if_pos mz] at q
      have l2 := lt z mz
      exact ⟨mz, by omega⟩
    · rw [if_neg mz] at q
      omega
  have chn : ∀ a b, Ch g sc (fun z => w.idxOf z) w a b → b ∈ ls → a ∈ ls := by
    intro a b hc
    induction hc with
    | one q => exact fun hb => (up _ _ hb q.1 q.2.1 q.2.2.1 q.2.2.2).1
    | more _ q ih => exact fun hb => ih (up _ _ hb q.1 q.2.1 q.2.2.1 q.2.2.2).1
  refine ⟨?_, up⟩
  rintro x ⟨t, ⟨htw, y, hyw, hi, hc, hlt⟩, hx⟩
  have ht : t ∈ ls := by
    have q := keeps_at k1 nd htw hyw hi hc
    by_cases mt : t ∈ ls
    · exact mt
    · exfalso
      unfold rank at q
      rw [if_neg mt] at q
      by_cases my : y ∈ ls
      · rw [if_pos my] at q
        have := lt y my
        omega
      · rw [if_neg my] at q
        omega
  rcases hx with rfl | hx
  · exact ht
  · exact chn _ _ hx ht
open Classical in
/-- what must be lifted, ascending -/
noncomputable def muL (g : Int) (sc o w : List Int) : List Int := (upN sc.length).filter fun x => decide (Mu g sc o w x)
theorem mem_muL {o w : List Int} (hwo : IsOrd sc.length w) {x : Int} : x ∈ muL g sc o w ↔ Mu g sc o w x := by
  unfold muL
  rw [List.mem_filter, mem_upN]
  constructor
  · rintro ⟨_, h⟩
    simpa using h
  · intro h
    exact ⟨hwo.mem.mp h.mem, by simpa using h⟩
theorem muL_up {o w : List Int} : (muL g sc o w).Pairwise (· < ·) := by
  unfold muL
  refine List.Pairwise.filter _ ?_
  unfold upN
  rw [List.pairwise_map]
  exact List.pairwise_lt_range.imp fun h => by omega
theorem muL_len {o w : List Int} : (muL g sc o w).length ≤ sc.length := Nat.le_trans (List.length_filter_le _ _) (by rw [upN_len]; exact Nat.le_refl _)
/-- from the bottom of the goal up -/
noncomputable def botL (g : Int) (sc o w : List Int) : List Int := w.reverse.filter fun x => decide (x ∈ muL g sc o w)
theorem mem_botL {o w : List Int} (hwo : IsOrd sc.length w) {x : Int} : x ∈ botL g sc o w ↔ Mu g sc o w x := by
  unfold botL
  rw [List.mem_filter, List.mem_reverse, decide_eq_true_iff, mem_muL hwo]
  exact ⟨fun h => h.2, fun h => ⟨h.mem, h⟩⟩
theorem botL_nd {o w : List Int} (hwo : IsOrd sc.length w) : (botL g sc o w).Nodup := ((List.reverse_perm w).nodup_iff.mpr hwo.nd).filter _
theorem down_keeps {w : List Int} (hwo : IsOrd sc.length w) : Keeps g sc (fun x => sc.length - w.idxOf x) w.reverse := by
  have wl := hwo.len
  unfold Keeps
  rw [List.pairwise_reverse]
  refine List.Pairwise.imp_of_mem (fun {x y} hx hy q _ => ?_) (idxOf_rises hwo.nd)
  have q : w.idxOf x < w.idxOf y := q
  have l1 := List.idxOf_lt_length_iff.mpr hx
  have l2 := List.idxOf_lt_length_iff.mpr hy
  show sc.length - w.idxOf y < sc.length - w.idxOf x
  omega
theorem botL_keeps {o w : List Int} (hwo : IsOrd sc.length w) : Keeps g sc (fun x => sc.length - w.idxOf x) (botL g sc o w) := (down_keeps hwo).sublist List.filter_sublist
/-- the plan -/
noncomputable def planL (g : Int) (sc o w : List Int) : List Int := fs g sc (botL g sc o w).length (botL g sc o w)
theorem planL_perm {o w : List Int} : (planL g sc o w).Perm (botL g sc o w) := fs_perm _ rfl
theorem planL_nd {o w : List Int} (hwo : IsOrd sc.length w) : (planL g sc o w).Nodup := planL_perm.nodup_iff.mpr (botL_nd hwo)
theorem mem_planL {o w : List Int} (hwo : IsOrd sc.length w) {x : Int} : x ∈ planL g sc o w ↔ Mu g sc o w x := planL_perm.mem_iff.trans (mem_botL hwo)
theorem planL_keeps {o w : List Int} (hwo : IsOrd sc.length w) : Keeps g sc (fun x => sc.length - w.idxOf x) (planL g sc o w) := fs_keeps _ rfl (botL_keeps hwo) (botL_nd hwo)
theorem planL_len {o w : List Int} (hwo : IsOrd sc.length w) : (planL g sc o w).length = (muL g sc o w).length := by
  refine ((List.perm_ext_iff_of_nodup (planL_nd hwo) (muL_up.imp fun h => by omega)).mpr fun x => ?_).length_eq
  rw [mem_planL hwo, mem_muL hwo]
theorem planL_does (hg : 1 ≤ g) {o w : List Int} (ho : IsOrd sc.length o) (hw : wrongs g sc o = []) (hwo : IsOrd sc.length w) (hww : wrongs g sc w = []) : (planL g sc o w).foldl (liftO g sc) o = w :=
  plan_does hg ho hw hwo hww (planL_nd hwo) (fun _ => mem_planL hwo) (planL_keeps hwo)
theorem nodup_le : ∀ {a b : List Int}, a.Nodup → (∀ x ∈ a, x ∈ b) → a.length ≤ b.length
  | [], _, _, _ => Nat.zero_le _
  | x :: a, b, nd, h => by
    have nd := List.nodup_cons.mp nd
    have hx := h x List.mem_cons_self
    have ih := nodup_le (b := b.erase x) nd.2 fun y hy => (List.mem_erase_of_ne (fun (e : y = x) => nd.1 (by rw [← e]; exact hy))).mpr (h y (List.mem_cons_of_mem _ hy))
    rw [List.length_erase_of_mem hx] at ih
    have := List.length_pos_of_mem hx
    simp only [List.length_cons]
    omega
/-- no list with fewer lifts leads there -/
theorem plan_fewest (hg : 1 ≤ g) {o w ls : List Int} (ho : IsOrd sc.length o) (hw : wrongs g sc o = []) (hwo : IsOrd sc.length w) (h : ls.foldl (liftO g sc) o = w) : (muL g sc o w).length ≤ ls.length := by
  have h1 := (plan_need hg ho hw hwo h).1
  have nd : (muL g sc o w).Nodup := muL_up.imp fun h => by omega
  exact nodup_le nd fun x hx => h1 x ((mem_muL hwo).mp hx)
theorem short_plan (hg : 1 ≤ g) {o w : List Int} (ho : IsOrd sc.length o) (hw : wrongs g sc o = []) (hwo : IsOrd sc.length w) (hww : wrongs g sc w = []) : shortL g sc (planL g sc o w) = planL g sc o w := by
  have hb : ∀ x ∈ planL g sc o w, 0 ≤ x ∧ x < sc.length := fun x hx => hwo.mem.mp ((mem_planL hwo).mp hx).mem
  have h1 := short_does (hg := hg) ho hw hb
  rw [planL_does hg ho hw hwo hww] at h1
  have h2 := plan_fewest hg ho hw hwo h1
  have h3 := short_len (g := g) (sc := sc) (ls := planL g sc o w)
  have h4 := planL_len (g := g) (o := o) hwo
  rw [short_whole (planL_nd hwo) (by omega)]
  have h5 := fs_same (g := g) (sc := sc) (planL g sc o w).length rfl planL_perm (planL_nd hwo) (planL_keeps hwo) (botL_keeps hwo)
  rw [h5, planL_perm.length_eq]
  rfl
theorem planL_nil (hg : 1 ≤ g) {o w : List Int} (ho : IsOrd sc.length o) (hw : wrongs g sc o = []) (hwo : IsOrd sc.length w) (hww : wrongs g sc w = []) : planL g sc o w = [] ↔ o = w := by
  constructor
  · intro h
    have := planL_does hg ho hw hwo hww
    rw [h] at this
    exact this
  · intro h
    have h2 := plan_fewest hg (ls := []) ho hw hwo h
    have h4 := planL_len (g := g) (o := o) hwo
    rw [List.length_nil] at h2
    exact List.eq_nil_of_length_eq_zero (by omega)
/-- all lifted from the bottom up -/
theorem lifts_all (hg : 1 ≤ g) {o w : List Int} (ho : IsOrd sc.length o) (hw : wrongs g sc o = []) (hwo : IsOrd sc.length w) (hww : wrongs g sc w = []) : w.reverse.foldl (liftO g sc) o = w := by
  have h1 := lifts_top (hg := hg) ho.nd hw w
  have e : topO o w.reverse = w := by
    unfold topO
    rw [lasts_id ((List.reverse_perm w).nodup_iff.mpr hwo.nd), List.reverse_reverse, List.filter_eq_nil_iff.mpr, List.append_nil]
    intro x hx
    have := hwo.mem.mpr (ho.mem.mp hx)
    simp [this]
  rw [h1, e, leftO_id hg hwo.nd hww]
/-- lifted again it stays -/
theorem lift_twice (hg : 1 ≤ g) {o : List Int} (ho : IsOrd sc.length o) (hw : wrongs g sc o = []) {e : Int} : liftO g sc (liftO g sc o e) e = liftO g sc o e := by
  have h1 := lifts_top (hg := hg) ho.nd hw [e, e]
  have h2 := lifts_top (hg := hg) ho.nd hw [e]
  have e1 : topO o [e, e] = topO o [e] := by
    unfold topO
    have : lastsF [e, e] = lastsF [e] := by
      show (if e ∈ [e] then _ else _) = _
      rw [if_pos (by simp)]
    rw [this]
    congr 1
    exact List.filter_congr fun x _ => by simp
  show [e, e].foldl (liftO g sc) o = [e].foldl (liftO g sc) o
  rw [show [e, e].reverse = [e, e] from rfl] at h1
  rw [show [e].reverse = [e] from rfl] at h2
  rw [h1, h2, e1]
/-- no close one stands above it -/
theorem lift_above {o : List Int} (ho : IsOrd sc.length o) {e x : Int} (he : 0 ≤ e ∧ e < sc.length) (hx : 0 ≤ x ∧ x < sc.length) (hne : x ≠ e) (hc : Close g sc e x) : (liftO g sc o e).idxOf e < (liftO g sc o e).idxOf x := by
  have htop := top_ord ho he
  have ndt := htop.nd
  refine near_left ndt ⟨List.mem_cons_self, htop.mem.mpr hx, ?_, hc⟩
  show (e :: o.filter fun x => !decide (x = e)).idxOf e < (e :: o.filter fun x => !decide (x = e)).idxOf x
  rw [idx_top, idx_rest hne]
  omega
end
end LB
set_option Elab.async false
set_option linter.all false
/-! orders changed alike; groups -/
namespace LB
open PySem PySem.Spec PyProof.Rows L2
theorem gi_map {f : Int → Int} {o : List Int} {n : Nat} (h : n < o.length) : gi (o.map f) n = f (gi o n) := by
  rw [gi_nat h, gi_nat (by rw [List.length_map]; exact h), List.getElem_map]
theorem riseFrom_map {g g' : Int} {sc sc' above : List Int} {f : Int → Int} {e : Int} (h : ∀ x ∈ above, beats g' sc' (f e) (f x) = beats g sc e x) : ∀ n, n ≤ above.length → riseFrom g' sc' (above.map f) (f e) n = riseFrom g sc above e n
  | 0, _ => rfl
  | n + 1, hn => by
    have hm : gi above n ∈ above := gi_mem (by omega) (by omega)
    rw [riseFrom, riseFrom, gi_map (by omega), h _ hm, riseFrom_map h n (by omega)]
theorem fold_map {g g' : Int} {sc sc' : List Int} {f : Int → Int} : ∀ (o acc : List Int), (∀ x ∈ acc ++ o, ∀ y ∈ acc ++ o, beats g' sc' (f x) (f y) = beats g sc x y) → (o.map f).foldl (ins g' sc') (acc.map f) = (o.foldl (ins g sc) acc).map f
  | [], _, _ => rfl
  | e :: o, acc, h => by
    have e1 : ins g' sc' (acc.map f) (f e) = (ins g sc acc e).map f := by
      unfold ins rise
      rw [List.length_map, riseFrom_map (fun x hx => h e (by simp) x (by simp [hx])) _ (Nat.le_refl _)]
      simp [List.map_take, List.map_drop]
    rw [List.map_cons, List.foldl_cons, List.foldl_cons, e1]
    refine fold_map o (ins g sc acc e) fun x hx y hy => ?_
    have hp := ins_perm g sc acc e
    have m : ∀ z, z ∈ ins g sc acc e ++ o → z ∈ acc ++ e :: o := fun z hz => by
      rcases List.mem_append.mp hz with q | q
      · rcases List.mem_cons.mp (hp.mem_iff.mp q) with q | q
        · simp [q]
        · simp [q]
      · simp [q]
    exact h x (m x hx) y (m y hy)
/-- entries renumbered -/
theorem leftO_map {g g' : Int} {sc sc' o : List Int} {f : Int → Int} (h : ∀ x ∈ o, ∀ y ∈ o, beats g' sc' (f x) (f y) = beats g sc x y) : leftO g' sc' (o.map f) = (leftO g sc o).map f := fold_map o [] (by simpa using h)
theorem leftO_congr {g g' : Int} {sc sc' o : List Int} (h : ∀ x ∈ o, ∀ y ∈ o, beats g' sc' x y = beats g sc x y) : leftO g' sc' o = leftO g sc o := by
  have := leftO_map (f := fun x => x) h
  simpa using this
theorem idx_rev {o : List Int} {a b : Int} (nd : o.Nodup) (ha : a ∈ o) (hb : b ∈ o) (h : o.idxOf a < o.idxOf b) : o.reverse.idxOf b < o.reverse.idxOf a := by
  obtain ⟨u, m, v, rfl⟩ := idx_lt_split nd ha hb h
  have nd2 := (List.reverse_perm (u ++ a :: (m ++ b :: v))).nodup_iff.mpr nd
  have e1 := idx_split (x := b) (a := v.reverse) (b := m.reverse ++ a :: u.reverse) nd2 (by simp)
  have e2 := idx_split (x := a) (a := v.reverse ++ b :: m.reverse) (b := u.reverse) nd2 (by simp)
  rw [e1, e2]
  simp
theorem gi_rev {o : List Int} {p : Nat} (h : p < o.length) : gi o.reverse p = gi o (o.length - 1 - p : Nat) := by
  rw [gi_nat (by rw [List.length_reverse]; exact h), gi_nat (by omega), List.getElem_reverse]
/-- turned upside down -/
theorem leftO_rev {g : Int} (hg : 1 ≤ g) {sc sc' o : List Int} (nd : o.Nodup) (h : ∀ x ∈ o, ∀ y ∈ o, beats g sc' x y = beats g sc y x) : (leftO g sc o).reverse = leftO g sc' o.reverse := by
  have pm := leftO_perm g sc o
  have nd2 := (List.reverse_perm o).nodup_iff.mpr nd
  have hm : ∀ x ∈ leftO g sc o, x ∈ o := fun x hx => pm.mem_iff.mp hx
  refine left_is hg (idxOf_rises nd2) ((List.reverse_perm _).trans (pm.trans (List.reverse_perm o).symm)) ?_ ?_
  · intro p hp
    rw [List.length_reverse] at hp
    have c := leftO_calm hg sc o ((leftO g sc o).length - 1 - (p + 1)) (by omega)
    rw [show ((p : Int) + 1) = ((p + 1 : Nat) : Int) from rfl, gi_rev hp, gi_rev (by omega)]
    rw [show (((leftO g sc o).length - 1 - (p + 1) : Nat) : Int) + 1 = (((leftO g sc o).length - 1 - p : Nat) : Int) by omega] at c
    rw [h _ (hm _ (gi_mem (by omega) (by omega))) _ (hm _ (gi_mem (by omega) (by omega)))]
    exact c
  · unfold Keeps
    rw [List.pairwise_reverse]
    have k := leftO_keeps (lead := g) (sc := sc) (idxOf_rises nd)
    unfold Keeps at k
    rw [List.pairwise_iff_getElem] at k ⊢
    intro i j hi hj hij hc
    have mi := hm _ (List.getElem_mem hi)
    have mj := hm _ (List.getElem_mem hj)
    have q := k i j hi hj hij
    have hc2 : Close g sc (leftO g sc o)[i] (leftO g sc o)[j] := by
      unfold Close at hc ⊢
      rw [h _ mj _ mi, h _ mi _ mj] at hc
      exact ⟨hc.1, hc.2⟩
    exact idx_rev nd mi mj (q hc2)
theorem calm_append {g : Int} {sc : List Int} : ∀ {a b : List Int}, Calm g sc a → Calm g sc b → (∀ x ∈ a, ∀ y ∈ b, beats g sc y x = false) → Calm g sc (a ++ b)
  | [], _, _, h, _ => h
  | [x], [], h, _, _ => h
  | [x], y :: b, _, h, k => calm_cons.mpr ⟨k x (by simp) y (by simp), h⟩
  | x :: y :: a, b, h1, h2, k => by
    have q := calm_cons.mp h1
    exact calm_cons.mpr ⟨q.1, calm_append (a := y :: a) q.2 h2 fun z hz => k z (List.mem_cons_of_mem _ hz)⟩
/-- each entry of the one leads all of the other by g -/
def Over (g : Int) (sc : List Int) (A B : List Int) : Prop := ∀ x ∈ A, ∀ y ∈ B, gi sc y + g ≤ gi sc x
/-- groups, one below the other -/
theorem groups_left {g : Int} (hg : 1 ≤ g) {sc line : List Int} {GG : List (List Int)} (nd : line.Nodup) (hp : GG.flatten.Perm line) (sep : GG.Pairwise (Over g sc)) :
    (GG.map fun G => leftO g sc (line.filter fun x => decide (x ∈ G))).flatten = leftO g sc line := by
  have ndf := hp.nodup_iff.mpr nd
  have hmem : ∀ G ∈ GG, ∀ x ∈ leftO g sc (line.filter fun x => decide (x ∈ G)), x ∈ G ∧ x ∈ line := fun G hG x hx => by
    have := (leftO_perm g sc _).mem_iff.mp hx
    rw [List.mem_filter, decide_eq_true_iff] at this
    exact ⟨this.2, this.1⟩
  have hcov : ∀ G ∈ GG, ∀ x ∈ G, x ∈ line := fun G hG x hx => hp.mem_iff.mp (List.mem_flatten.mpr ⟨G, hG, hx⟩)
  have sep2 : GG.Pairwise fun A B => ∀ x ∈ leftO g sc (line.filter fun x => decide (x ∈ A)), ∀ y ∈ leftO g sc (line.filter fun x => decide (x ∈ B)), gi sc y + g ≤ gi sc x := by
    refine List.Pairwise.imp_of_mem (fun {A B} hA hB h x hx y hy => h x (hmem A hA x hx).1 y (hmem B hB y hy).1) sep
  refine left_is hg (idxOf_rises nd) ?_ ?_ ?_
  · refine (List.perm_ext_iff_of_nodup ?_ nd).mpr fun x => ?_
    · rw [List.nodup_iff_pairwise_ne, List.pairwise_flatten]
      refine ⟨fun l hl => ?_, ?_⟩
      · obtain ⟨G, hG, rfl⟩ := List.mem_map.mp hl
        exact (leftO_perm g sc _).nodup_iff.mpr (nd.filter _)
      · rw [List.pairwise_map]
        refine List.Pairwise.imp (fun {A B} h x hx y hy e => ?_) sep2
        have := h x hx y hy
        subst e
        omega
    · rw [List.mem_flatten]
      constructor
      · rintro ⟨l, hl, hx⟩
        obtain ⟨G, hG, rfl⟩ := List.mem_map.mp hl
        exact (hmem G hG x hx).2
      · intro hx
        obtain ⟨G, hG, hxG⟩ := List.mem_flatten.mp (hp.mem_iff.mpr hx)
        exact ⟨_, List.mem_map.mpr ⟨G, hG, rfl⟩, (leftO_perm g sc _).mem_iff.mpr (List.mem_filter.mpr ⟨hx, by simp [hxG]⟩)⟩
  · clear hp ndf hcov sep
    induction GG with
    | nil => exact fun p hp => absurd hp (Nat.not_lt_zero _)
    | cons G GG ih =>
      have s := List.pairwise_cons.mp sep2
      rw [List.map_cons, List.flatten_cons]
      refine calm_append (leftO_calm hg _ _) (ih (fun A hA => hmem A (List.mem_cons_of_mem _ hA)) s.2) fun x hx y hy => ?_
      obtain ⟨l, hl, hy⟩ := List.mem_flatten.mp hy
      obtain ⟨B, hB, rfl⟩ := List.mem_map.mp hl
      have := s.1 B hB x hx y hy
      unfold beats
      exact decide_eq_false (by omega)
  · unfold Keeps
    rw [List.pairwise_flatten]
    refine ⟨fun l hl => ?_, ?_⟩
    · obtain ⟨G, hG, rfl⟩ := List.mem_map.mp hl
      exact leftO_keeps ((idxOf_rises nd).sublist List.filter_sublist)
    · rw [List.pairwise_map]
      refine List.Pairwise.imp (fun {A B} h x hx y hy hc => ?_) sep2
      have := h x hx y hy
      have := (close_iff.mp hc).1
      omega
end LB
set_option Elab.async false
set_option linter.all false
set_option maxRecDepth 100000
set_option maxHeartbeats 4000000
set_option exponentiation.threshold 600
namespace My
open PySem PySem.Spec PyProof.Rows L2 LB DL
noncomputable def F__law_open_source : List D → Option (D × List D) := DL.wax (defD [false, false] 1
  (bSeq (sAsg (fC (.int 0)) (gS 2))
  (bSeq (sIf (fT (fOp dLt (fV 1) (fCB dLenA (fAC (fV 0) fAN)))) (sAsg (fOp dIxA (fV 0) (fV 1)) (gS 2)) bNil)
  (sRet (fLst (fAC (fSc [0, 0, 1] (fCB dMax2 (fAC (fC (.int 0)) (fAC (fOp dSub (fV 2) (fC (.int 1000000000000000000))) fAN)))) (fAC (fSc [0, 1, 1] (fOp dAddA (fOp dMulA (fOp dMod (fV 2) (fC (.int 1000000000000000000000000000000000000000000000000000000000007))) (fC (.int 64))) (fOp dMod (fV 1) (fC (.int 64))))) (fAC (fC (.int 0)) fAN))))))))
noncomputable def F__law_draw : List D → Option (D × List D) := DL.wax (defD [true, false] 2
  (bSeq (sIf (fScT [1, 0, 0, 0] (fT (fOp dGt (fOp dIxA (fV 0) (fC (.int 0))) (fC (.int 0))))) (bSeq (sAsg (fSc [1, 1, 0, 0] (fOp dMod (fOp dIxA (fV 0) (fC (.int 0))) (fV 1))) (gS 2))
  (bSeq (sStore 0 (fSc [1, 1, 0, 0] (fOp dFdiv (fOp dIxA (fV 0) (fC (.int 0))) (fV 1))) (fC (.int 0)))
  (sRet (fV 2)))) bNil)
  (bSeq (sStore 0 (fSc [1, 0, 0, 0] (fOp dAddA (fOp dIxA (fV 0) (fC (.int 2))) (fC (.int 1)))) (fC (.int 2)))
  (bSeq (sAsg (fSc [1, 0, 0, 0] (fOp dMod (fOp dPow (fOp dAddA (fOp dAddA (fOp dIxA (fV 0) (fC (.int 1))) (fOp dMulA (fOp dMulA (fC (.int 40503)) (fOp dIxA (fV 0) (fC (.int 2)))) (fOp dIxA (fV 0) (fC (.int 2))))) (fC (.int 11))) (fC (.int 3))) (fC (.int 2305843009213693951)))) (gS 3))
  (bSeq (sAsg (fSc [1, 0, 0, 1] (fOp dMod (fOp dPow (fOp dAddA (fV 3) (fOp dMulA (fC (.int 69621)) (fOp dIxA (fV 0) (fC (.int 2))))) (fC (.int 3))) (fC (.int 2305843009213693921)))) (gS 3))
  (sRet (fOp dMod (fOp dFdiv (fV 3) (fC (.int 65537))) (fV 1))))))))
noncomputable def F__law_many : List D → Option (D × List D) := DL.wax (defD [true, false, false] 0
  (bSeq (sIf (fT (fOp dEqA (fV 1) (fLst fAN))) (sRet (fCB dMin2 (fAC (fC (.int 4)) (fAC (fV 2) fAN)))) bNil)
  (sRet (fOp dIxA (fLst (fAC (fOp dAddA (fC (.int 1)) (fCall [true, false] F__law_draw (fAI 0 (fAC (fV 2) fAN)))) (fAC (fV 2) (fAC (fOp dAddA (fC (.int 1)) (fCall [true, false] F__law_draw (fAI 0 (fAC (fCB dMin2 (fAC (fC (.int 5)) (fAC (fV 2) fAN))) fAN)))) fAN)))) (fCall [true, false] F__law_draw (fAI 0 (fAC (fC (.int 3)) fAN)))))))
noncomputable def F_is_integer : List D → Option (D × List D) := DL.wax (defD [false, false, false] 0
  (bSeq (sIf (fOr (fNot (fT (fCB dIsiA (fAC (fV 0) (fAC (fC (.ty "int")) fAN))))) (fT (fCB dIsiA (fAC (fV 0) (fAC (fC (.ty "bool")) fAN))))) (sRet (fC (.bl false))) bNil)
  (sRet (fAndV (fOrV (fOp dIsN (fV 1) (fC .non)) (fOp dLe (fV 1) (fV 0))) (fOrV (fOp dIsN (fV 2) (fC .non)) (fOp dLe (fV 0) (fV 2)))))))
noncomputable def F_is_scores : List D → Option (D × List D) := DL.wax (defD [false] 1
  (bSeq (sIf (fOr (fNot (fT (fCB dIsiA (fAC (fV 0) (fAC (fC (.ty "list")) fAN))))) (fNot (fT (fChain dLe dLe (fC (.int 1)) (fCB dLenA (fAC (fV 0) fAN)) (fC (.int 28)))))) (sRet (fC (.bl false))) bNil)
  (sRet (fCB dAll (fAC (zLc (iA (fV 0)) (gS 1) fYes (fCall [false, false, false] F_is_integer (fAC (fV 1) (fAC (fC .non) (fAC (fC .non) fAN)))) [1]) fAN)))))
noncomputable def F_check_scores : List D → Option (D × List D) := DL.wax (defD [false] 0
  (sIf (fNot (fT (fCall [false] F_is_scores (fAC (fV 0) fAN)))) sNo bNil))
noncomputable def F_holds_all : List D → Option (D × List D) := DL.wax (defD [false, false] 1
  (bSeq (sIf (fOr (fNot (fT (fCB dIsiA (fAC (fV 1) (fAC (fC (.ty "list")) fAN))))) (fT (fOp dNeA (fCB dLenA (fAC (fV 1) fAN)) (fCB dLenA (fAC (fV 0) fAN))))) (sRet (fC (.bl false))) bNil)
  (sRet (fAndV (fCB dAll (fAC (zLc (iA (fV 1)) (gS 2) fYes (fCall [false, false, false] F_is_integer (fAC (fV 2) (fAC (fC (.int 0)) (fAC (fOp dSub (fCB dLenA (fAC (fV 0) fAN)) (fC (.int 1))) fAN)))) [2]) fAN)) (fOp dEqA (fCB dSortedA (fAC (fV 1) fAN)) (fRg1 (fCB dLenA (fAC (fV 0) fAN))))))))
noncomputable def F_check_order : List D → Option (D × List D) := DL.wax (defD [false, false] 0
  (sIf (fNot (fT (fCall [false, false] F_holds_all (fAC (fV 0) (fAC (fV 1) fAN))))) sNo bNil))
noncomputable def F_outleads : List D → Option (D × List D) := DL.wax (defD [false, false, false, false] 0
  (sRet (fOp dGe (fOp dSub (fOp dIxA (fV 1) (fV 2)) (fOp dIxA (fV 1) (fV 3))) (fV 0))))
noncomputable def F_rise_of : List D → Option (D × List D) := DL.wax (defD [false, false, false, false] 1
  (bSeq (sAsg (fCB dLenA (fAC (fV 2) fAN)) (gS 4))
  (bSeq (sWh (fAnd (fT (fOp dGt (fV 4) (fC (.int 0)))) (fT (fCall [false, false, false, false] F_outleads (fAC (fV 0) (fAC (fV 1) (fAC (fV 3) (fAC (fOp dIxA (fV 2) (fOp dSub (fV 4) (fC (.int 1)))) fAN))))))) (sAug 4 dSub (fC (.int 1))))
  (sRet (fV 4)))))
noncomputable def F_left_order : List D → Option (D × List D) := DL.wax (defD [false, false, false] 3
  (bSeq (sAsg (fLst fAN) (gS 3))
  (bSeq (zFor (iA (fV 2)) (gS 4) (bSeq (sAsg (fSc [1, 1, 0, 1, 1, 0] (fCall [false, false, false, false] F_rise_of (fAC (fV 0) (fAC (fV 1) (fAC (fV 3) (fAC (fV 4) fAN)))))) (gS 5))
  (sAsg (fSc [0, 0, 0, 1, 1, 1] (fLst (fAS (fSl dSlA (fV 3) fPN (fPS (fV 5))) (fAC (fV 4) (fAS (fSl dSlA (fV 3) (fPS (fV 5)) fPN) fAN))))) (gS 3))))
  (sRet (fMv 3)))))
noncomputable def F_left_by_lead : List D → Option (D × List D) := DL.wax (defD [false, false] 7
  (bSeq (sAsg (fSc [1, 0, 0, 0, 0, 0, 1, 1, 0] (zLc2 (iA (fV 0)) (gS 6) fYes (iA (fV 0)) (gS 7) (fT (fOp dGt (fV 6) (fV 7))) (fOp dSub (fV 6) (fV 7)) [6, 7] [7])) (gS 2))
  (bSeq (sAsg (fLst fAN) (gS 3))
  (bSeq (zFor (iA (fSc [0, 0, 1, 0, 0, 0, 0, 0, 1] (fUn dSsetA (fOp dAddA (fLst (fAC (fC (.int 1)) fAN)) (zLc (iA (fV 2)) (gS 8) fYes (fOp dAddA (fV 8) (fC (.int 1))) [8]))))) (gS 4) (bSeq (sAsg (fCall [false, false, false] F_left_order (fAC (fV 4) (fAC (fV 0) (fAC (fV 1) fAN)))) (gS 5))
  (sIf (fOr (fScT [0, 0, 0, 1, 0, 0, 0, 0, 0] (fT (fOp dEqA (fV 3) (fLst fAN)))) (fScT [0, 0, 0, 1, 0, 1, 0, 0, 0] (fT (fOp dNeA (fV 5) (fOp dIxA (fOp dIxA (fV 3) (fC (.int (-1)))) (fC (.int 1))))))) (sEx (fMt 3 mAppend (fAC (fTup (fAC (fV 4) (fAC (fMv 5) fAN))) fAN))) bNil)))
  (sRet (fMv 3))))))
noncomputable def F_orders_by_lead : List D → Option (D × List D) := DL.wax (defD [false, false] 0
  (bSeq (sEx (fCall [false] F_check_scores (fAC (fV 0) fAN)))
  (bSeq (sEx (fCall [false, false] F_check_order (fAC (fV 0) (fAC (fV 1) fAN))))
  (sRet (fCall [false, false] F_left_by_lead (fAC (fV 0) (fAC (fV 1) fAN)))))))
noncomputable def F__law_any : List D → Option (D × List D) := DL.wax (defD [true, false] 0
  (bSeq (sIf (fT (fOp dLt (fV 1) (fC (.int 1000000000000000)))) (sRet (fCall [true, false] F__law_draw (fAI 0 (fAC (fV 1) fAN)))) bNil)
  (sRet (fOp dMod (fOp dAddA (fOp dMulA (fCall [true, false] F__law_draw (fAI 0 (fAC (fC (.int 1000000000000000)) fAN))) (fC (.int 10000000000000000))) (fCall [true, false] F__law_draw (fAI 0 (fAC (fC (.int 10000000000000000)) fAN)))) (fV 1)))))
noncomputable def F__law_wrong : List D → Option (D × List D) := DL.wax (defD [false, false, false] 3
  (bSeq (sAsg (fListZip (fAC (fV 2) (fAC (fSl dSlA (fV 2) (fPS (fC (.int 1))) fPN) fAN))) (gS 3))
  (sRet (fSc [1, 1, 0, 1, 1, 1] (zLc (iE (fAC (fV 3) fAN)) (gA 2 (gC (gS 4) (gC (gS 5) gN))) (fT (fOp dGe (fOp dIxA (fV 1) (fOp dIxA (fV 5) (fC (.int 1)))) (fOp dAddA (fOp dIxA (fV 1) (fOp dIxA (fV 5) (fC (.int 0)))) (fV 0)))) (fV 4) [4, 5])))))
noncomputable def F__law_left : List D → Option (D × List D) := DL.wax (defD [false, false, false] 3
  (bSeq (sPar 3 4 (fAC (fCB dList (fAC (fV 2) fAN)) (fAC (fCall [false, false, false] F__law_wrong (fAC (fV 0) (fAC (fV 1) (fAC (fV 2) fAN)))) fAN)))
  (bSeq (sWh (fScT [0, 0, 0, 0, 1, 0] (fT (fOp dNeA (fV 4) (fLst fAN)))) (bSeq (sAsg (fSc [0, 0, 0, 0, 1, 0] (fOp dIxA (fV 4) (fC (.int (-1))))) (gS 5))
  (bSeq (sAsg (fSc [0, 0, 0, 1, 0, 1] (fOp dAddA (fOp dAddA (fSl dSlA (fV 3) fPN (fPS (fV 5))) (fLst (fAC (fOp dIxA (fV 3) (fOp dAddA (fV 5) (fC (.int 1)))) (fAC (fOp dIxA (fV 3) (fV 5)) fAN)))) (fSl dSlA (fV 3) (fPS (fOp dAddA (fV 5) (fC (.int 2)))) fPN))) (gS 3))
  (sAsg (fSc [1, 1, 0, 1, 0, 0] (fCall [false, false, false] F__law_wrong (fAC (fV 0) (fAC (fV 1) (fAC (fV 3) fAN))))) (gS 4)))))
  (sRet (fMv 3)))))
noncomputable def F__law_large_right : List D → Option (D × List D) := DL.wax (defD [true, false, false] 11
  (bSeq (sAsg (fCall [false, false] F_orders_by_lead (fAC (fV 1) (fAC (fV 2) fAN))) (gS 3))
  (bSeq (sIf (fOr (fScT [0, 0, 0, 1, 0, 0, 0, 0, 0, 0, 0, 0, 0, 0] (fT (fOp dNeA (fOp dIxA (fOp dIxA (fV 3) (fC (.int 0))) (fC (.int 0))) (fC (.int 1))))) (fScT [0, 0, 1, 1, 0, 0, 0, 0, 0, 0, 0, 0, 0, 0] (fT (fOp dNeA (fOp dIxA (fOp dIxA (fV 3) (fC (.int (-1)))) (fC (.int 1))) (fV 2))))) (sRet (fC (.bl false))) bNil)
  (bSeq (zFor (iZ (fAC (fSc [0, 0, 0, 1, 0, 0, 0, 0, 0, 0, 0, 0, 0, 0] (fV 3)) (fAC (fSc [0, 0, 0, 1, 0, 0, 0, 0, 0, 0, 0, 0, 0, 0] (fSl dSlA (fV 3) (fPS (fC (.int 1))) fPN)) fAN))) (gA 2 (gC (gS 4) (gC (gS 5) gN))) (sIf (fOr (fNot (fT (fOp dLt (fOp dIxA (fV 4) (fC (.int 0))) (fOp dIxA (fV 5) (fC (.int 0)))))) (fT (fOp dEqA (fOp dIxA (fV 4) (fC (.int 1))) (fOp dIxA (fV 5) (fC (.int 1)))))) (sRet (fC (.bl false))) bNil))
  (bSeq (sAsg (fSc [2, 0, 0, 1, 0, 0, 0, 0, 0, 0, 0, 0, 0, 0] (fOp dAddA (fOp dAddA (fOp dIxA (fOp dIxA (fV 3) (fC (.int (-1)))) (fC (.int 0))) (fC (.int 1))) (fCall [true, false] F__law_any (fAI 0 (fAC (fC (.int 100000000000000000000)) fAN))))) (gS 6))
  (bSeq (sAsg (fSc [0, 0, 0, 1, 0, 0, 1, 0, 0, 0, 0, 0, 0, 1] (fOp dAddA (zLc (iA (fSl dSlA (fV 3) (fPS (fC (.int 1))) fPN)) (gS 13) fYes (fOp dIxA (fV 13) (fC (.int 0))) [13]) (fLst (fAC (fV 6) fAN)))) (gS 7))
  (bSeq (sAsg (fSc [2, 0, 0, 1, 0, 0, 0, 0, 0, 0, 0, 0, 0, 0] (fCall [true, false] F__law_draw (fAI 0 (fAC (fCB dLenA (fAC (fV 3) fAN)) fAN)))) (gS 8))
  (bSeq (zFor (iA (fSc [0, 0, 0, 1, 0, 0, 0, 0, 1, 0, 0, 0, 0, 0] (fUn dSsetA (fLst (fAC (fC (.int 0)) (fAC (fV 8) (fAC (fOp dSub (fCB dLenA (fAC (fV 3) fAN)) (fC (.int 1))) fAN))))))) (gS 9) (bSeq (sPar 10 11 (fAC (fSc [0, 0, 0, 1, 0, 0, 0, 0, 0, 1, 0, 0, 0, 0] (fOp dIxA (fOp dIxA (fV 3) (fV 9)) (fC (.int 0)))) (fAC (fSc [0, 0, 0, 0, 0, 0, 0, 1, 0, 1, 0, 0, 0, 0] (fOp dIxA (fV 7) (fV 9))) fAN)))
  (zFor (iA (fSc [2, 0, 0, 0, 0, 0, 0, 0, 0, 0, 1, 1, 0, 0] (fLst (fAC (fV 10) (fAC (fOp dSub (fV 11) (fC (.int 1))) (fAC (fOp dAddA (fV 10) (fCall [true, false] F__law_any (fAI 0 (fAC (fOp dSub (fV 11) (fV 10)) fAN)))) fAN)))))) (gS 12) (sIf (fScT [0, 1, 1, 1, 0, 0, 0, 0, 0, 1, 0, 0, 1, 0] (fT (fOp dNeA (fCall [false, false, false] F__law_left (fAC (fV 12) (fAC (fV 1) (fAC (fV 2) fAN)))) (fOp dIxA (fOp dIxA (fV 3) (fV 9)) (fC (.int 1)))))) (sRet (fC (.bl false))) bNil))))
  (sRet (fC (.bl true)))))))))))
noncomputable def F__law_line : List D → Option (D × List D) := DL.wax (defD [true, false] 3
  (bSeq (sAsg (fTup (fAC (fRg1 (fV 1)) (fAC (fCall [true, false] F__law_draw (fAI 0 (fAC (fC (.int 4)) fAN))) fAN))) (gA 2 (gC (gS 2) (gC (gS 3) gN))))
  (bSeq (sIf (fScT [0, 0, 0, 1, 0] (fT (fOp dLt (fV 3) (fC (.int 2))))) (sRet (fSc [0, 0, 1, 1, 0] (fStep (fV 2) (fOp dSub (fC (.int 1)) (fOp dMulA (fC (.int 2)) (fV 3)))))) bNil)
  (sRet (zLc (iR1 (fAC (fV 1) fAN)) (gS 4) fYes (fMt 2 mPopAt (fAC (fSc [2, 0, 1, 0, 0] (fCall [true, false] F__law_draw (fAI 0 (fAC (fCB dLenA (fAC (fV 2) fAN)) fAN)))) fAN)) [4])))))
noncomputable def F__law_same : Nat → List D → Option (D × List D)
  | 0 => fun _ => none
  | n_ + 1 => DL.wax (defD [false, false] 2
  (bSeq (sIf (fT (fCB dIsiA (fAC (fV 1) (fAC (fTup (fAC (fC (.ty "list")) (fAC (fC (.ty "tuple")) fAN))) fAN)))) (bSeq (sIf (fOr (fT (fOp dNeA (fCB dIsiA (fAC (fV 0) (fAC (fC (.ty "list")) fAN))) (fCB dIsiA (fAC (fV 1) (fAC (fC (.ty "list")) fAN))))) (fNot (fT (fCB dIsiA (fAC (fV 0) (fAC (fTup (fAC (fC (.ty "list")) (fAC (fC (.ty "tuple")) fAN))) fAN)))))) (sRet (fC (.bl false))) bNil)
  (sRet (fAndV (fOp dEqA (fCB dLenA (fAC (fV 0) fAN)) (fCB dLenA (fAC (fV 1) fAN))) (fCB dAll (fAC (zLc (iZA (fAC (fV 0) (fAC (fV 1) fAN))) (gA 2 (gC (gS 2) (gC (gS 3) gN))) fYes (fCall [false, false] (F__law_same n_) (fAC (fV 2) (fAC (fV 3) fAN))) [2, 3]) fAN))))) bNil)
  (bSeq (sIf (fOr (fT (fOp dIsN (fV 1) (fC .non))) (fT (fOp dIsN (fV 0) (fC .non)))) (sRet (fAndV (fOp dIsN (fV 1) (fC .non)) (fOp dIsN (fV 0) (fC .non)))) bNil)
  (bSeq (sIf (fOr (fT (fCB dIsiA (fAC (fV 1) (fAC (fC (.ty "bool")) fAN)))) (fT (fCB dIsiA (fAC (fV 0) (fAC (fC (.ty "bool")) fAN))))) (sRet (fAndV (fCB dIsiA (fAC (fV 1) (fAC (fC (.ty "bool")) fAN))) (fAndV (fCB dIsiA (fAC (fV 0) (fAC (fC (.ty "bool")) fAN))) (fOp dEqA (fV 0) (fV 1))))) bNil)
  (sRet (fAndV (fOp dEqA (fCB dIsiA (fAC (fV 0) (fAC (fC (.ty "str")) fAN))) (fCB dIsiA (fAC (fV 1) (fAC (fC (.ty "str")) fAN)))) (fOp dEqA (fV 0) (fV 1))))))))
noncomputable def F__law_small_right : List D → Option (D × List D) := DL.wax (defD [false, false] 6
  (bSeq (sPar 2 3 (fAC (fLst (fAC (fCB dList (fAC (fV 0) fAN)) (fAC (fCB dList (fAC (fV 1) fAN)) fAN))) (fAC (fLst fAN) fAN)))
  (bSeq (zFor (iR2 (fAC (fC (.int 1)) (fAC (fOp dAddA (fOp dSub (fCB dMaxL (fAC (fV 0) fAN)) (fCB dMinL (fAC (fV 0) fAN))) (fC (.int 4))) fAN))) (gS 4) (bSeq (sAsg (fCall [false, false, false] F__law_left (fAC (fV 4) (fAC (fV 0) (fAC (fV 1) fAN)))) (gS 5))
  (sIf (fOr (fScT [0, 0, 0, 1, 0, 0, 0, 0] (fT (fOp dEqA (fV 3) (fLst fAN)))) (fScT [0, 0, 0, 1, 0, 1, 0, 0] (fT (fOp dNeA (fOp dIxA (fOp dIxA (fV 3) (fC (.int (-1)))) (fC (.int 1))) (fV 5))))) (sEx (fSc [0, 0, 0, 2, 1, 1, 0, 0] (fMt 3 mAppend (fAC (fTup (fAC (fV 4) (fAC (fV 5) fAN))) fAN)))) bNil)))
  (bSeq (sAsg (fCall [false, false] F_orders_by_lead (fAC (fV 0) (fAC (fV 1) fAN))) (gS 6))
  (bSeq (sIf (fOr (fNot (fT (fSc [0, 0, 0, 1, 0, 0, 1, 0] (fCall [false, false] (F__law_same 4) (fAC (fV 6) (fAC (fV 3) fAN)))))) (fScT [1, 1, 1, 0, 0, 0, 0, 0] (fT (fOp dNeA (fLst (fAC (fV 0) (fAC (fV 1) fAN))) (fV 2))))) (sRet (fC (.bl false))) bNil)
  (bSeq (sAsg (fMt0 6 mPop0) (gS 7))
  (bSeq (sEx (fMtT 7 1 mAppend (fC .non)))
  (sRet (fSc [1, 1, 0, 1, 0, 0, 0, 0] (fOp dEqA (fCall [false, false] F_orders_by_lead (fAC (fV 0) (fAC (fV 1) fAN))) (fV 3)))))))))))
noncomputable def F__law_tallies : List D → Option (D × List D) := DL.wax (defD [true, false, false] 6
  (bSeq (sAsg (fTup (fAC (fCall [true, false] F__law_draw (fAI 0 (fAC (fC (.int 5)) fAN))) (fAC (fLst fAN) (fAC (fC (.int 0)) (fAC (fCB dMin2 (fAC (fV 2) (fAC (fC (.int 100000000000000000000000000000)) fAN))) fAN))))) (gA 4 (gC (gS 3) (gC (gS 4) (gC (gS 5) (gC (gS 6) gN))))))
  (bSeq (zFor (iR1 (fAC (fV 1) fAN)) (gS 7) (bSeq (sAsg (fSc [2, 0, 0, 0, 0, 1, 1, 0, 0] (fOp dAddA (fV 5) (fCall [true, false] F__law_any (fAI 0 (fAC (fV 6) fAN))))) (gS 5))
  (bSeq (sAsg (fSc [2, 0, 0, 0, 0, 1, 1, 0, 0] (fLst (fAC (fCall [true, false] F__law_any (fAI 0 (fAC (fOp dAddA (fOp dMulA (fC (.int 3)) (fV 6)) (fC (.int 1))) fAN))) (fAC (fCall [true, false] F__law_draw (fAI 0 (fAC (fC (.int 3)) fAN))) (fAC (fV 5) (fAC (fOp dMulA (fOp dMulA (fC (.int 10)) (fV 6)) (fCall [true, false] F__law_draw (fAI 0 (fAC (fC (.int 3)) fAN)))) fAN)))))) (gS 8))
  (bSeq (sEx (fSc [2, 0, 0, 0, 0, 0, 1, 0, 2] (fMt 8 mAppend (fAC (fOp dSub (fC (.int 0)) (fCall [true, false] F__law_any (fAI 0 (fAC (fOp dAddA (fOp dMulA (fC (.int 2)) (fV 6)) (fC (.int 5))) fAN)))) fAN))))
  (sEx (fSc [2, 0, 0, 1, 2, 0, 0, 0, 1] (fMt 4 mAppend (fAC (fOp dAddA (fOp dIxA (fV 8) (fV 3)) (fCall [true, false] F__law_draw (fAI 0 (fAC (fC (.int 2)) fAN)))) fAN))))))))
  (sRet (fMv 4)))))
noncomputable def F__law_margin : List D → Option (D × List D) := DL.wax (defD [true] 1
  (bSeq (sAsg (fLst (fAC (fC (.int 1)) (fAC (fOp dAddA (fC (.int 1)) (fCall [true, false] F__law_draw (fAI 0 (fAC (fC (.int 9)) fAN)))) (fAC (fOp dAddA (fC (.int 1)) (fCall [true, false] F__law_any (fAI 0 (fAC (fC (.int 100000000000000000000000000000)) fAN)))) (fAC (fOp dAddA (fC (.int 1)) (fCall [true, false] F__law_any (fAI 0 (fAC (fC (.int 9999999999999999999999999999998)) fAN)))) fAN))))) (gS 1))
  (sRet (fSc [2, 1] (fOp dIxA (fV 1) (fCall [true, false] F__law_draw (fAI 0 (fAC (fC (.int 4)) fAN))))))))
noncomputable def F_law : List D → Option (D × List D) := DL.wax (defD [false] 9
  (bSeq (zFor (iR1 (fAC (fCB dMax2 (fAC (fC (.int 1)) (fAC (fCB dMin2 (fAC (fC (.int 4)) (fAC (fCB dLenA (fAC (fV 0) fAN)) fAN))) fAN))) fAN)) (gS 1) (bSeq (sAsg (fCall [false, false] F__law_open_source (fAC (fV 0) (fAC (fV 1) fAN))) (gS 2))
  (bSeq (zFor (iR1 (fAC (fC (.int 2)) fAN)) (gS 3) (bSeq (sAsg (fTup (fAC (fCall [true, false, false] F__law_many (fAI 2 (fAC (fV 0) (fAC (fC (.int 8)) fAN)))) (fAC (fOp dIxA (fLst (fAC (fC (.int 4)) (fAC (fC (.int 12)) (fAC (fC (.int 30)) fAN)))) (fCall [true, false] F__law_draw (fAI 2 (fAC (fC (.int 3)) fAN)))) fAN))) (gA 2 (gC (gS 4) (gC (gS 5) gN))))
  (bSeq (sPar 6 7 (fAC (fSc [0, 0, 2, 0, 1, 1, 0, 0, 0, 0] (zLc (iR1 (fAC (fV 4) fAN)) (gS 9) fYes (fOp dSub (fCall [true, false] F__law_draw (fAI 2 (fAC (fV 5) fAN))) (fC (.int 3))) [9])) (fAC (fSc [0, 0, 2, 0, 1, 0, 0, 0, 0, 0] (fCall [true, false] F__law_line (fAI 2 (fAC (fV 4) fAN)))) fAN)))
  (bSeq (sIf (fNot (fT (fSc [0, 0, 0, 0, 0, 0, 1, 1, 0, 0] (fCall [false, false] F__law_small_right (fAC (fV 6) (fAC (fV 7) fAN)))))) (sRet (fC (.bl false))) bNil)
  (bSeq (sEx (fMt0 6 mReverse))
  (sIf (fNot (fT (fSc [0, 0, 0, 0, 0, 0, 1, 1, 0, 0] (fCall [false, false] F__law_small_right (fAC (fV 6) (fAC (fV 7) fAN)))))) (sRet (fC (.bl false))) bNil))))))
  (bSeq (sAsg (fCall [true, false, false] F__law_many (fAI 2 (fAC (fV 0) (fAC (fOp dIxA (fLst (fAC (fC (.int 28)) (fAC (fC (.int 14)) fAN))) (fCB dMin2 (fAC (fV 1) (fAC (fC (.int 1)) fAN)))) fAN)))) (gS 4))
  (sIf (fNot (fT (fSc [0, 0, 2, 0, 1, 0, 0, 0, 0, 0] (fCall [true, false, false] F__law_large_right (fAI 2 (fAC (fCall [true, false, false] F__law_tallies (fAI 2 (fAC (fV 4) (fAC (fCall [true] F__law_margin (fAI 2 fAN)) fAN)))) (fAC (fCall [true, false] F__law_line (fAI 2 (fAC (fV 4) fAN))) fAN))))))) (sRet (fC (.bl false))) bNil)))))
  (bSeq (sAsg (fLst (fAC (fTup (fAC (fC (.int 1)) (fAC (fLst (fAC (fC (.int 3)) (fAC (fC (.int 1)) (fAC (fC (.int 2)) (fAC (fC (.int 0)) fAN))))) fAN))) (fAC (fTup (fAC (fC (.int 2)) (fAC (fLst (fAC (fC (.int 1)) (fAC (fC (.int 3)) (fAC (fC (.int 2)) (fAC (fC (.int 0)) fAN))))) fAN))) (fAC (fTup (fAC (fC (.int 3)) (fAC (fLst (fAC (fC (.int 1)) (fAC (fC (.int 2)) (fAC (fC (.int 3)) (fAC (fC (.int 0)) fAN))))) fAN))) (fAC (fTup (fAC (fC (.int 5)) (fAC (fLst (fAC (fC (.int 1)) (fAC (fC (.int 0)) (fAC (fC (.int 2)) (fAC (fC (.int 3)) fAN))))) fAN))) (fAC (fTup (fAC (fC (.int 6)) (fAC (fLst (fAC (fC (.int 0)) (fAC (fC (.int 1)) (fAC (fC (.int 2)) (fAC (fC (.int 3)) fAN))))) fAN))) fAN)))))) (gS 8))
  (sRet (fSc [0, 0, 0, 0, 0, 0, 0, 0, 1, 0] (fAndV (fOp dEqA (fCall [false, false] F_orders_by_lead (fAC (fLst (fAC (fC (.int 4)) (fAC (fC (.int 9)) (fAC (fC (.int 8)) (fAC (fC (.int 10)) fAN))))) (fAC (fLst (fAC (fC (.int 0)) (fAC (fC (.int 1)) (fAC (fC (.int 2)) (fAC (fC (.int 3)) fAN))))) fAN))) (fV 8)) (fOp dEqA (fCall [false, false] F_orders_by_lead (fAC (fLst (fAC (fC (.int 7)) fAN)) (fAC (fLst (fAC (fC (.int 0)) fAN)) fAN))) (fLst (fAC (fTup (fAC (fC (.int 1)) (fAC (fLst (fAC (fC (.int 0)) fAN)) fAN))) fAN)))))))))
set_option hygiene false in
local macro_rules | `(tactic| kspl_open ev) => `(tactic| simp (disch := first | omega | assumption) only [DL.q_fC, DL.q_fV, DL.q_fMv, DL.q_fOp, DL.q_fUn, DL.q_fT, DL.q_fAnd, DL.q_fOr, DL.q_fNot, DL.q_fAndV, DL.q_fOrV, DL.q_fNotV, DL.q_fIfE, DL.q_fChain, DL.q_fAN, DL.q_fAC, DL.q_fAI, DL.q_fAS, DL.q_fLst, DL.q_fTup, DL.q_fCB, DL.q_fPN, DL.q_fPS, DL.q_fSl, DL.q_fSc, DL.q_fScT, DL.q_fPick, DL.q_bNil, DL.q_bSeq, DL.q_sPass, DL.q_sBrk, DL.q_sCt, DL.q_sNo, DL.q_sRet, DL.q_sRetN, DL.q_sEx, DL.q_sIf, DL.q_gN, DL.q_gC, DL.q_gA, DL.q_gA2, DL.q_sAsg, DL.q_sPar, DL.q_sPar3, DL.q_sAug, DL.q_iA, DL.q_fYes, DL.q_lcStep, DL.q_fCall, DL.q_fCallK, DL.q_fMt, DL.q_fMt0, DL.q_mtP, DL.q_fMtP0, DL.q_fMtP, DL.q_sStore, DL.q_gSb, DL.q_fDNew, DL.q_sDSet, DL.q_fBM, DL.q_fRev, DL.q_fStep, DL.q_fRg1, DL.q_fRg2, DL.q_sSc, DL.vi_non_int, DL.vi_non_bool, DL.vi_non_str, DL.vi_non_list, DL.vi_non_tuple, DL.vi_non_dict, DL.vi_non_lt, DL.vi_bl_int, DL.vi_bl_bool, DL.vi_bl_str, DL.vi_bl_list, DL.vi_bl_tuple, DL.vi_bl_dict, DL.vi_bl_lt, DL.vi_int_int, DL.vi_int_bool, DL.vi_int_str, DL.vi_int_list, DL.vi_int_tuple, DL.vi_int_dict, DL.vi_int_lt, DL.vi_str_int, DL.vi_str_bool, DL.vi_str_str, DL.vi_str_list, DL.vi_str_tuple, DL.vi_str_dict, DL.vi_str_lt, DL.vi_lst_int, DL.vi_lst_bool, DL.vi_lst_str, DL.vi_lst_list, DL.vi_lst_tuple, DL.vi_lst_dict, DL.vi_lst_lt, DL.vi_tup_int, DL.vi_tup_bool, DL.vi_tup_str, DL.vi_tup_list, DL.vi_tup_tuple, DL.vi_tup_dict, DL.vi_tup_lt, DL.vi_dct_int, DL.vi_dct_bool, DL.vi_dct_str, DL.vi_dct_list, DL.vi_dct_tuple, DL.vi_dct_dict, DL.vi_dct_lt, DL.pm_tv, DL.pm_tp, DL.pm_tn, DL.pm_f, DL.pm_n, DL.pg_t, DL.pg_f, DL.pg_n, DL.pf_t, DL.pf_f, DL.pf_n, DL.bk_p, DL.bk_n, DL.bk_v, DL.po_nx, DL.po_rt, DL.po_bk, DL.po_ct, DL.q_gS, DL.gP_no, DL.gP_va, DL.gP_fr, DL.mask_n, DL.mask_0, DL.mask_1, DL.mask_2, DL.merge_n, DL.merge_0, DL.merge_1t, DL.merge_1f, DL.merge_1h, DL.merge_2, DL.fullK_n, DL.fullK_0, DL.fullK_1, DL.fullK_2, DL.fzS_va, DL.fzS_pn, DL.fzS_no, DL.slf_va, DL.slf_pn, DL.slf_no, DL.get_va, DL.get_pn, DL.ls_va, DL.ls_pn, DL.is_va, DL.is_pn, DL.isFz_int, DL.isFz_bl, DL.isFz_str, DL.isFz_non, DL.isFz_lst, DL.isFz_tup, DL.frz_int, DL.frz_bl, DL.frz_str, DL.frz_ty, DL.frz_non, DL.frz_lst, DL.frz_tup, DL.frz_frz, DL.frz_mapL, DL.full_mapL, DL.at_L, DL.frz_mapT, DL.full_mapT, DL.at_T, DL.v_extI, DL.map_frz_int, DL.map_frz_bl, DL.map_frz_frz, DL.full_int, DL.full_bl, DL.full_str, DL.full_non, DL.full_lst, DL.full_tup, DL.all_full_int, DL.all_full_bl, DL.all_flat_int, DL.asB_bl, DL.asI_int, DL.seq_lst, DL.seq_tup, DL.v_add, DL.v_cat, DL.v_sub, DL.v_mul, DL.v_fdiv, DL.v_mod, DL.v_lt, DL.v_le, DL.v_gt, DL.v_ge, DL.v_neg, DL.pv_add, DL.pv_mul, DL.v_isN, DL.v_notN, DL.isN_int, DL.isN_bl, DL.isN_str, DL.isN_lst, DL.isN_tup, DL.isN_non, DL.v_isB, DL.v_notB, DL.v_ix, DL.v_ixT, DL.at_ints, DL.ixN_lit, DL.at_0, DL.at_s, DL.v_len, DL.v_lenT, DL.v_abs, DL.v_max2, DL.v_min2, DL.v_list, DL.v_listT, DL.v_sorted, DL.v_all, DL.v_any, DL.v_sum, DL.v_maxL, DL.v_minL, DL.v_in, DL.v_notIn, DL.v_sl, DL.cutD_to, DL.cutD_from, DL.cutD_both, DL.cutD_all, DL.v_eqII, DL.v_neII, DL.v_eqBB, DL.v_neBB, DL.v_eqSS, DL.v_neSS, DL.v_eqLL, DL.v_neLL, DL.v_eqLN, DL.v_neLN, DL.v_dget, DL.v_din, DL.v_dnotin, DL.isFz_dct, DL.frz_dct, DL.full_dct, DL.dk_va, DL.dk_pn, DL.v_intT, DL.v_intF, DL.v_eqNN, DL.v_neNN, DL.at_last, DL.if_le, DL.if_lt, DL.if_ile, DL.if_rg, DL.if_rg2, DL.if_rg4, DL.if_rg5, DL.arall_map, DL.arall_app, DL.take_mapI, DL.drop_mapI, DL.rev_mapI, DL.set_mapI, DL.v_popAt, DL.q_iR1, DL.q_iR2, DL.q_iE, DL.q_iZ, DL.rg1_i, DL.rg2_i, DL.enD_i, DL.ziD_i, DL.mx_is, DL.dle_t, DL.dle_f, DL.dlt_t, DL.dlt_f, DL.deq_t, DL.deq_f, DL.fm_true, DL.all_rep, DL.pv_sub, DL.v_pow3, DL.wax_is, DL.defD, DL.q_defD0, DL.bnd_some, DL.bnd_none, DL.mpp_b, DL.frzIO, DL.initS, DL.outsD, DL.ARall, DL.takeIO, DL.giveIO, DL.selO, DL.okIO, DL.wipeS, DL.lstOf, DL.tupOf, DL.itemsOf, DL.Sl.put, DL.mAppend, DL.mReverse, DL.D.isL, List.length_set, pickL, Int.toNat_zero, Int.toNat_one, Int.reduceToNat, List.all_append, List.length_take, List.length_drop, Int.toNat_natCast, Int.cast_ofNat_Int, List.replicate, List.length_cons, List.length_nil, List.length_map, List.length_append, List.length_reverse, List.cons_append, List.nil_append, List.append_nil, List.set_cons_zero, List.set_cons_succ, List.getElem?_cons_zero, List.getElem?_cons_succ, List.map_cons, List.map_nil, List.reverse_cons, List.reverse_nil, List.all_cons, List.all_nil, Option.bind_some, Option.map_some, Option.bind_none, Option.map_none, Option.isSome_some, Bool.and_true, Bool.true_and, Bool.and_false, Bool.false_and, Bool.not_true, Bool.not_false, if_true, if_false, ite_true, ite_false, reduceIte, decide_true, decide_false, Nat.reduceAdd, Nat.reduceSub, Int.reduceSub, Int.reduceLT, Int.reduceLE, Nat.reduceLeDiff, Bool.false_eq_true, Nat.reduceEqDiff, and_self, and_true, true_and, Int.reduceAdd, Nat.add_one_ne_zero, Nat.zero_add])
set_option hygiene false in
local macro_rules | `(tactic| kspl_open evh) => `(tactic| simp (disch := first | omega | assumption) only [DL.q_fC, DL.q_fV, DL.q_fMv, DL.q_fOp, DL.q_fUn, DL.q_fT, DL.q_fAnd, DL.q_fOr, DL.q_fNot, DL.q_fAndV, DL.q_fOrV, DL.q_fNotV, DL.q_fIfE, DL.q_fChain, DL.q_fAN, DL.q_fAC, DL.q_fAI, DL.q_fAS, DL.q_fLst, DL.q_fTup, DL.q_fCB, DL.q_fPN, DL.q_fPS, DL.q_fSl, DL.q_fSc, DL.q_fScT, DL.q_fPick, DL.q_bNil, DL.q_bSeq, DL.q_sPass, DL.q_sBrk, DL.q_sCt, DL.q_sNo, DL.q_sRet, DL.q_sRetN, DL.q_sEx, DL.q_sIf, DL.q_gN, DL.q_gC, DL.q_gA, DL.q_gA2, DL.q_sAsg, DL.q_sPar, DL.q_sPar3, DL.q_sAug, DL.q_iA, DL.q_fYes, DL.q_lcStep, DL.q_fCall, DL.q_fCallK, DL.q_fMt, DL.q_fMt0, DL.q_mtP, DL.q_fMtP0, DL.q_fMtP, DL.q_sStore, DL.q_gSb, DL.q_fDNew, DL.q_sDSet, DL.q_fBM, DL.q_fRev, DL.q_fStep, DL.q_fRg1, DL.q_fRg2, DL.q_sSc, DL.vi_non_int, DL.vi_non_bool, DL.vi_non_str, DL.vi_non_list, DL.vi_non_tuple, DL.vi_non_dict, DL.vi_non_lt, DL.vi_bl_int, DL.vi_bl_bool, DL.vi_bl_str, DL.vi_bl_list, DL.vi_bl_tuple, DL.vi_bl_dict, DL.vi_bl_lt, DL.vi_int_int, DL.vi_int_bool, DL.vi_int_str, DL.vi_int_list, DL.vi_int_tuple, DL.vi_int_dict, DL.vi_int_lt, DL.vi_str_int, DL.vi_str_bool, DL.vi_str_str, DL.vi_str_list, DL.vi_str_tuple, DL.vi_str_dict, DL.vi_str_lt, DL.vi_lst_int, DL.vi_lst_bool, DL.vi_lst_str, DL.vi_lst_list, DL.vi_lst_tuple, DL.vi_lst_dict, DL.vi_lst_lt, DL.vi_tup_int, DL.vi_tup_bool, DL.vi_tup_str, DL.vi_tup_list, DL.vi_tup_tuple, DL.vi_tup_dict, DL.vi_tup_lt, DL.vi_dct_int, DL.vi_dct_bool, DL.vi_dct_str, DL.vi_dct_list, DL.vi_dct_tuple, DL.vi_dct_dict, DL.vi_dct_lt, DL.pm_tv, DL.pm_tp, DL.pm_tn, DL.pm_f, DL.pm_n, DL.pg_t, DL.pg_f, DL.pg_n, DL.pf_t, DL.pf_f, DL.pf_n, DL.bk_p, DL.bk_n, DL.bk_v, DL.po_nx, DL.po_rt, DL.po_bk, DL.po_ct, DL.q_gS, DL.gP_no, DL.gP_va, DL.gP_fr, DL.mask_n, DL.mask_0, DL.mask_1, DL.mask_2, DL.merge_n, DL.merge_0, DL.merge_1t, DL.merge_1f, DL.merge_1h, DL.merge_2, DL.fullK_n, DL.fullK_0, DL.fullK_1, DL.fullK_2, DL.fzS_va, DL.fzS_pn, DL.fzS_no, DL.slf_va, DL.slf_pn, DL.slf_no, DL.get_va, DL.get_pn, DL.ls_va, DL.ls_pn, DL.is_va, DL.is_pn, DL.isFz_int, DL.isFz_bl, DL.isFz_str, DL.isFz_non, DL.isFz_lst, DL.isFz_tup, DL.frz_int, DL.frz_bl, DL.frz_str, DL.frz_ty, DL.frz_non, DL.frz_lst, DL.frz_tup, DL.frz_frz, DL.frz_mapL, DL.full_mapL, DL.at_L, DL.frz_mapT, DL.full_mapT, DL.at_T, DL.v_extI, DL.map_frz_int, DL.map_frz_bl, DL.map_frz_frz, DL.full_int, DL.full_bl, DL.full_str, DL.full_non, DL.full_lst, DL.full_tup, DL.all_full_int, DL.all_full_bl, DL.all_flat_int, DL.asB_bl, DL.asI_int, DL.seq_lst, DL.seq_tup, DL.v_add, DL.v_cat, DL.v_sub, DL.v_mul, DL.v_fdiv, DL.v_mod, DL.v_lt, DL.v_le, DL.v_gt, DL.v_ge, DL.v_neg, DL.pv_add, DL.pv_mul, DL.v_isN, DL.v_notN, DL.isN_int, DL.isN_bl, DL.isN_str, DL.isN_lst, DL.isN_tup, DL.isN_non, DL.v_isB, DL.v_notB, DL.v_ix, DL.v_ixT, DL.at_ints, DL.ixN_lit, DL.at_0, DL.at_s, DL.v_len, DL.v_lenT, DL.v_abs, DL.v_max2, DL.v_min2, DL.v_list, DL.v_listT, DL.v_sorted, DL.v_all, DL.v_any, DL.v_sum, DL.v_maxL, DL.v_minL, DL.v_in, DL.v_notIn, DL.v_sl, DL.cutD_to, DL.cutD_from, DL.cutD_both, DL.cutD_all, DL.v_eqII, DL.v_neII, DL.v_eqBB, DL.v_neBB, DL.v_eqSS, DL.v_neSS, DL.v_eqLL, DL.v_neLL, DL.v_eqLN, DL.v_neLN, DL.v_dget, DL.v_din, DL.v_dnotin, DL.isFz_dct, DL.frz_dct, DL.full_dct, DL.dk_va, DL.dk_pn, DL.v_intT, DL.v_intF, DL.v_eqNN, DL.v_neNN, DL.at_last, DL.if_le, DL.if_lt, DL.if_ile, DL.if_rg, DL.if_rg2, DL.if_rg4, DL.if_rg5, DL.arall_map, DL.arall_app, DL.take_mapI, DL.drop_mapI, DL.rev_mapI, DL.set_mapI, DL.v_popAt, DL.q_iR1, DL.q_iR2, DL.q_iE, DL.q_iZ, DL.rg1_i, DL.rg2_i, DL.enD_i, DL.ziD_i, DL.mx_is, DL.dle_t, DL.dle_f, DL.dlt_t, DL.dlt_f, DL.deq_t, DL.deq_f, DL.fm_true, DL.all_rep, DL.pv_sub, DL.v_pow3, DL.wax_is, DL.defD, DL.q_defD0, DL.bnd_some, DL.bnd_none, DL.mpp_b, DL.frzIO, DL.initS, DL.outsD, DL.ARall, DL.takeIO, DL.giveIO, DL.selO, DL.okIO, DL.wipeS, DL.lstOf, DL.tupOf, DL.itemsOf, DL.Sl.put, DL.mAppend, DL.mReverse, DL.D.isL, List.length_set, pickL, Int.toNat_zero, Int.toNat_one, Int.reduceToNat, List.all_append, List.length_take, List.length_drop, Int.toNat_natCast, Int.cast_ofNat_Int, List.replicate, List.length_cons, List.length_nil, List.length_map, List.length_append, List.length_reverse, List.cons_append, List.nil_append, List.append_nil, List.set_cons_zero, List.set_cons_succ, List.getElem?_cons_zero, List.getElem?_cons_succ, List.map_cons, List.map_nil, List.reverse_cons, List.reverse_nil, List.all_cons, List.all_nil, Option.bind_some, Option.map_some, Option.bind_none, Option.map_none, Option.isSome_some, Bool.and_true, Bool.true_and, Bool.and_false, Bool.false_and, Bool.not_true, Bool.not_false, if_true, if_false, ite_true, ite_false, reduceIte, decide_true, decide_false, Nat.reduceAdd, Nat.reduceSub, Int.reduceSub, Int.reduceLT, Int.reduceLE, Nat.reduceLeDiff, Bool.false_eq_true, Nat.reduceEqDiff, and_self, and_true, true_and, Int.reduceAdd, Nat.add_one_ne_zero, Nat.zero_add, *])
set_option hygiene false in
local macro_rules | `(tactic| kspl_open wp) => `(tactic| try simp (maxSteps := 2000000) (disch := first | omega | assumption) only [DL.q_fC, DL.q_fV, DL.q_fMv, DL.q_fOp, DL.q_fUn, DL.q_fT, DL.q_fAnd, DL.q_fOr, DL.q_fNot, DL.q_fAndV, DL.q_fOrV, DL.q_fNotV, DL.q_fIfE, DL.q_fChain, DL.q_fAN, DL.q_fAC, DL.q_fAI, DL.q_fAS, DL.q_fLst, DL.q_fTup, DL.q_fCB, DL.q_fPN, DL.q_fPS, DL.q_fSl, DL.q_fSc, DL.q_fScT, DL.q_fPick, DL.q_bNil, DL.q_bSeq, DL.q_sPass, DL.q_sBrk, DL.q_sCt, DL.q_sNo, DL.q_sRet, DL.q_sRetN, DL.q_sEx, DL.q_sIf, DL.q_gN, DL.q_gC, DL.q_gA, DL.q_gA2, DL.q_sAsg, DL.q_sPar, DL.q_sPar3, DL.q_sAug, DL.q_iA, DL.q_fYes, DL.q_lcStep, DL.q_fCall, DL.q_fCallK, DL.q_fMt, DL.q_fMt0, DL.q_mtP, DL.q_fMtP0, DL.q_fMtP, DL.q_sStore, DL.q_gSb, DL.q_fDNew, DL.q_sDSet, DL.q_fBM, DL.q_fRev, DL.q_fStep, DL.q_fRg1, DL.q_fRg2, DL.q_sSc, DL.vi_non_int, DL.vi_non_bool, DL.vi_non_str, DL.vi_non_list, DL.vi_non_tuple, DL.vi_non_dict, DL.vi_non_lt, DL.vi_bl_int, DL.vi_bl_bool, DL.vi_bl_str, DL.vi_bl_list, DL.vi_bl_tuple, DL.vi_bl_dict, DL.vi_bl_lt, DL.vi_int_int, DL.vi_int_bool, DL.vi_int_str, DL.vi_int_list, DL.vi_int_tuple, DL.vi_int_dict, DL.vi_int_lt, DL.vi_str_int, DL.vi_str_bool, DL.vi_str_str, DL.vi_str_list, DL.vi_str_tuple, DL.vi_str_dict, DL.vi_str_lt, DL.vi_lst_int, DL.vi_lst_bool, DL.vi_lst_str, DL.vi_lst_list, DL.vi_lst_tuple, DL.vi_lst_dict, DL.vi_lst_lt, DL.vi_tup_int, DL.vi_tup_bool, DL.vi_tup_str, DL.vi_tup_list, DL.vi_tup_tuple, DL.vi_tup_dict, DL.vi_tup_lt, DL.vi_dct_int, DL.vi_dct_bool, DL.vi_dct_str, DL.vi_dct_list, DL.vi_dct_tuple, DL.vi_dct_dict, DL.vi_dct_lt, DL.pm_tv, DL.pm_tp, DL.pm_tn, DL.pm_f, DL.pm_n, DL.pg_t, DL.pg_f, DL.pg_n, DL.pf_t, DL.pf_f, DL.pf_n, DL.bk_p, DL.bk_n, DL.bk_v, DL.po_nx, DL.po_rt, DL.po_bk, DL.po_ct, DL.q_gS, DL.gP_no, DL.gP_va, DL.gP_fr, DL.mask_n, DL.mask_0, DL.mask_1, DL.mask_2, DL.merge_n, DL.merge_0, DL.merge_1t, DL.merge_1f, DL.merge_1h, DL.merge_2, DL.fullK_n, DL.fullK_0, DL.fullK_1, DL.fullK_2, DL.fzS_va, DL.fzS_pn, DL.fzS_no, DL.slf_va, DL.slf_pn, DL.slf_no, DL.get_va, DL.get_pn, DL.ls_va, DL.ls_pn, DL.is_va, DL.is_pn, DL.isFz_int, DL.isFz_bl, DL.isFz_str, DL.isFz_non, DL.isFz_lst, DL.isFz_tup, DL.frz_int, DL.frz_bl, DL.frz_str, DL.frz_ty, DL.frz_non, DL.frz_lst, DL.frz_tup, DL.frz_frz, DL.frz_mapL, DL.full_mapL, DL.at_L, DL.frz_mapT, DL.full_mapT, DL.at_T, DL.v_extI, DL.map_frz_int, DL.map_frz_bl, DL.map_frz_frz, DL.full_int, DL.full_bl, DL.full_str, DL.full_non, DL.full_lst, DL.full_tup, DL.all_full_int, DL.all_full_bl, DL.all_flat_int, DL.asB_bl, DL.asI_int, DL.seq_lst, DL.seq_tup, DL.v_add, DL.v_cat, DL.v_sub, DL.v_mul, DL.v_fdiv, DL.v_mod, DL.v_lt, DL.v_le, DL.v_gt, DL.v_ge, DL.v_neg, DL.pv_add, DL.pv_mul, DL.v_isN, DL.v_notN, DL.isN_int, DL.isN_bl, DL.isN_str, DL.isN_lst, DL.isN_tup, DL.isN_non, DL.v_isB, DL.v_notB, DL.v_ix, DL.v_ixT, DL.at_ints, DL.ixN_lit, DL.at_0, DL.at_s, DL.v_len, DL.v_lenT, DL.v_abs, DL.v_max2, DL.v_min2, DL.v_list, DL.v_listT, DL.v_sorted, DL.v_all, DL.v_any, DL.v_sum, DL.v_maxL, DL.v_minL, DL.v_in, DL.v_notIn, DL.v_sl, DL.cutD_to, DL.cutD_from, DL.cutD_both, DL.cutD_all, DL.v_eqII, DL.v_neII, DL.v_eqBB, DL.v_neBB, DL.v_eqSS, DL.v_neSS, DL.v_eqLL, DL.v_neLL, DL.v_eqLN, DL.v_neLN, DL.v_dget, DL.v_din, DL.v_dnotin, DL.isFz_dct, DL.frz_dct, DL.full_dct, DL.dk_va, DL.dk_pn, DL.v_intT, DL.v_intF, DL.v_eqNN, DL.v_neNN, DL.at_last, DL.if_le, DL.if_lt, DL.if_ile, DL.if_rg, DL.if_rg2, DL.if_rg4, DL.if_rg5, DL.arall_map, DL.arall_app, DL.take_mapI, DL.drop_mapI, DL.rev_mapI, DL.set_mapI, DL.v_popAt, DL.q_iR1, DL.q_iR2, DL.q_iE, DL.q_iZ, DL.rg1_i, DL.rg2_i, DL.enD_i, DL.ziD_i, DL.mx_is, DL.dle_t, DL.dle_f, DL.dlt_t, DL.dlt_f, DL.deq_t, DL.deq_f, DL.fm_true, DL.all_rep, DL.pv_sub, DL.v_pow3, DL.wax_is, DL.defD, DL.q_defD0, DL.bnd_some, DL.bnd_none, DL.mpp_b, DL.frzIO, DL.initS, DL.outsD, DL.ARall, DL.takeIO, DL.giveIO, DL.selO, DL.okIO, DL.wipeS, DL.lstOf, DL.tupOf, DL.itemsOf, DL.Sl.put, DL.mAppend, DL.mReverse, DL.D.isL, List.length_set, pickL, Int.toNat_zero, Int.toNat_one, Int.reduceToNat, List.all_append, List.length_take, List.length_drop, Int.toNat_natCast, Int.cast_ofNat_Int, List.replicate, List.length_cons, List.length_nil, List.length_map, List.length_append, List.length_reverse, List.cons_append, List.nil_append, List.append_nil, List.set_cons_zero, List.set_cons_succ, List.getElem?_cons_zero, List.getElem?_cons_succ, List.map_cons, List.map_nil, List.reverse_cons, List.reverse_nil, List.all_cons, List.all_nil, Option.bind_some, Option.map_some, Option.bind_none, Option.map_none, Option.isSome_some, Bool.and_true, Bool.true_and, Bool.and_false, Bool.false_and, Bool.not_true, Bool.not_false, if_true, if_false, ite_true, ite_false, reduceIte, decide_true, decide_false, Nat.reduceAdd, Nat.reduceSub, Int.reduceSub, Int.reduceLT, Int.reduceLE, Nat.reduceLeDiff, Bool.false_eq_true, Nat.reduceEqDiff, and_self, and_true, true_and, Int.reduceAdd, Nat.add_one_ne_zero, Nat.zero_add, DL.bnd_a, DL.map_b, DL.rgD_len])
/-- a for that ends a block -/
theorem ok_for0 {fi : M (List D)} {fg : D → S → Option S} {fb : S → Option Out} {ds : List D} {s s1 : S} {Q : Out → Prop} (I : Nat → S → Prop) (hi : fi s = some (ds, s1)) (h0 : I 0 s1)
    (hs : ∀ i d s, ds[i]? = some d → I i s → Ok ((fg d s).bnd fb) (nxt (I (i + 1)))) (hk : ∀ s', I ds.length s' → Q (.nx s')) : Ok (zFor fi fg fb s) Q := by
  have h : Ok ((zFor fi fg fb s).bind some) Q := ok_for I hi h0 hs fun s' hs' => Ok.some (hk s' hs')
  rwa [show (zFor fi fg fb s).bind some = zFor fi fg fb s from by cases zFor fi fg fb s <;> rfl] at h
theorem ok_wh0 {ft : M Bool} {fb : S → Option Out} {Q : Out → Prop} (I : Nat → S → Prop) (Z : S → Prop) (m : Nat) {s : S} (hI : I m s)
    (h : ∀ m s, I m s → Ok (ft s) (fun r => if r.1 = true then Ok (fb r.2) (nxt fun s' => ∃ m', m' < m ∧ I m' s') else Z r.2)) (hk : ∀ s', Z s' → Q (.nx s')) : Ok (sWh ft fb s) Q := by
  have h : Ok ((sWh ft fb s).bind some) Q := ok_wh I Z m hI h fun s' hs' => Ok.some (hk s' hs')
  rwa [show (sWh ft fb s).bind some = sWh ft fb s from by cases sWh ft fb s <;> rfl] at h
theorem rgD_up {m : Nat} : rgD 0 m = (upN m).map D.int := by
  unfold rgD upN
  rw [List.map_map]
  exact List.map_congr_left fun k _ => by show D.int (0 + k) = D.int k; rw [Int.zero_add]
/-- what is not e stays -/
def neF (e : Int) : D → Option D
  | .int x => if x = e then none else some (D.int x)
  | _ => none
theorem fm_ne (e : Int) (ns : List Int) : (ns.map D.int).filterMap (neF e) = (ns.filter fun x => !decide (x = e)).map D.int := by
  induction ns with
  | nil => rfl
  | cons x r ih =>
    rw [List.map_cons]
    by_cases hb : x = e
    · rw [List.filterMap_cons_none (by simp [neF, hb]), List.filter_cons_of_neg (by simp [hb]), ih]
    · rw [List.filterMap_cons_some (b := D.int x) (by simp [neF, hb]), List.filter_cons_of_pos (by simp [hb]), List.map_cons, ih]
theorem abs_close {gap : Int} {ns : List Int} {a b : Int} : ((if gi ns a - gi ns b < 0 then -(gi ns a - gi ns b) else gi ns a - gi ns b) < gap) ↔ Close gap ns a b := by
  rw [close_iff]
  split <;> constructor <;> intro h <;> omega
/-- what is in A stays -/
def inF' (A : List Int) : D → Option D
  | .int x => if x ∈ A then some (D.int x) else none
  | _ => none
theorem fm_in (A ns : List Int) : (ns.map D.int).filterMap (inF' A) = (ns.filter fun x => decide (x ∈ A)).map D.int := by
  induction ns with
  | nil => rfl
  | cons x r ih =>
    rw [List.map_cons]
    by_cases hb : x ∈ A
    · rw [List.filterMap_cons_some (b := D.int x) (by simp [inF', hb]), List.filter_cons_of_pos (by simp [hb]), List.map_cons, ih]
    · rw [List.filterMap_cons_none (by simp [inF', hb]), List.filter_cons_of_neg (by simp [hb]), ih]
/-- whole numbers by a function -/
def mapF (f : Int → Int) : D → Option D
  | .int x => some (.int (f x))
  | _ => none
theorem fm_map (f : Int → Int) (ns : List Int) : (ns.map D.int).filterMap (mapF f) = (ns.map f).map D.int := by
  induction ns with
  | nil => rfl
  | cons x r ih => rw [List.map_cons, List.filterMap_cons_some (f := mapF f) (b := D.int (f x)) rfl, ih]; rfl

/-! ### small defs of orders -/
theorem isInt_nn {i : Int} : F_is_integer [.int i, .non, .non] = some (.bl true, []) := by
  unfold F_is_integer
  kspl_open ev
theorem isInt_in {i lo : Int} : F_is_integer [.int i, .int lo, .non] = some (.bl (decide (lo ≤ i)), []) := by
  unfold F_is_integer
  by_cases h : lo ≤ i
  · kspl_open ev
  · kspl_open ev
theorem isInt_ii {i lo hi : Int} : F_is_integer [.int i, .int lo, .int hi] = some (.bl (decide (lo ≤ i ∧ i ≤ hi)), []) := by
  unfold F_is_integer
  by_cases h : lo ≤ i
  · by_cases h2 : i ≤ hi
    · kspl_open ev; simp [h, h2]
    · kspl_open ev; simp [h, h2]
  · kspl_open ev; simp [h]
theorem is_scores_eq {u : Bool} {sc : List Int} (h : 1 ≤ sc.length ∧ sc.length ≤ 28) : F_is_scores [.lst u (sc.map D.int)] = some (.bl true, []) := by
  unfold F_is_scores
  kspl_open ev
  rw [fLc_pure (ds := sc.map D.int) (s1 := [.va (.lst false (sc.map D.int)), .no]) (fun _ => some (.bl true)) (by kspl_open ev) (by kspl_open ev; omega) (by kspl_open ev)]
  · kspl_open ev
  · intro d hd
    obtain ⟨n, hn, rfl⟩ := List.mem_map.mp hd
    refine ⟨[.va (.lst false (sc.map D.int)), .va (.int n)], ?_, by kspl_open ev⟩
    kspl_open ev
    simp only [isInt_nn]
    kspl_open ev
theorem check_scores_eq {u : Bool} {sc : List Int} (h : 1 ≤ sc.length ∧ sc.length ≤ 28) : F_check_scores [.lst u (sc.map D.int)] = some (.non, []) := by
  unfold F_check_scores
  kspl_open ev
  simp only [is_scores_eq h]
  kspl_open ev
theorem rgD0 (n : Nat) : rgD 0 n = (upN n).map D.int := by
  unfold rgD upN
  simp
theorem holds_all_eq {u v : Bool} {sc o : List Int} (hl : sc.length ≤ 28) (ho : IsOrd sc.length o) : F_holds_all [.lst u (sc.map D.int), .lst v (o.map D.int)] = some (.bl true, []) := by
  have hol := ho.len
  have es : sortI o = upN sc.length := perm_up ((sortI_perm o).trans ho) (sortI_up o) (upN_up _)
  unfold F_holds_all
  kspl_open ev
  rw [fLc_pure (ds := o.map D.int) (s1 := [.va (.lst false (sc.map D.int)), .va (.lst false (o.map D.int)), .no]) (fun _ => some (.bl true)) (by kspl_open ev) (by kspl_open ev; omega) (by kspl_open ev)]
  · kspl_open ev
    simp only [es, Int.toNat_natCast, rgD0]
    kspl_open ev
  · intro d hd
    obtain ⟨n, hn, rfl⟩ := List.mem_map.mp hd
    have hm := ho.mem.mp hn
    refine ⟨[.va (.lst false (sc.map D.int)), .va (.lst false (o.map D.int)), .va (.int n)], ?_, by kspl_open ev⟩
    kspl_open ev
    simp only [isInt_ii]
    rw [decide_eq_true (show 0 ≤ n ∧ n ≤ (sc.length : Int) - 1 by omega)]
    kspl_open ev
theorem check_order_eq {u v : Bool} {sc o : List Int} (hl : sc.length ≤ 28) (ho : IsOrd sc.length o) : F_check_order [.lst u (sc.map D.int), .lst v (o.map D.int)] = some (.non, []) := by
  unfold F_check_order
  kspl_open ev
  simp only [holds_all_eq hl ho]
  kspl_open ev
theorem outleads_eq {u : Bool} {lead lo up : Int} {sc : List Int} (h : 0 ≤ lo ∧ lo < sc.length ∧ 0 ≤ up ∧ up < sc.length) : F_outleads [.int lead, .lst u (sc.map D.int), .int lo, .int up] = some (.bl (beats lead sc lo up), []) := by
  unfold F_outleads
  kspl_open ev
  rfl

/-! ### orders -/
theorem rise_of_eq {u v : Bool} {lead e : Int} {sc o : List Int} (hl : o.length ≤ 1000) (he : 0 ≤ e ∧ e < sc.length) (ho : ∀ x ∈ o, 0 ≤ x ∧ x < sc.length) : F_rise_of [.int lead, .lst u (sc.map D.int), .lst v (o.map D.int), .int e] = some (.int (rise lead sc o e), []) := by
  unfold F_rise_of
  kspl_open ev
  obtain ⟨s', e1, e2⟩ := wh_inv (ft := (fAnd (fT (fOp dGt (fV 4) (fC (.int 0)))) (fT (fCall [false, false, false, false] F_outleads (fAC (fV 0) (fAC (fV 1) (fAC (fV 3) (fAC (fOp dIxA (fV 2) (fOp dSub (fV 4) (fC (.int 1)))) fAN)))))))) (fb := (sAug 4 dSub (fC (.int 1))))
    (fun m s => s = [.va (.int lead), .va (.lst false (sc.map D.int)), .va (.lst false (o.map D.int)), .va (.int e), .va (.int m)] ∧ riseFrom lead sc o e m = rise lead sc o e ∧ m ≤ o.length)
    (fun s => s = [.va (.int lead), .va (.lst false (sc.map D.int)), .va (.lst false (o.map D.int)), .va (.int e), .va (.int (rise lead sc o e))]) (by
      rintro m s ⟨rfl, hm, hml⟩
      cases m with
      | zero =>
        refine .inl ⟨[.va (.int lead), .va (.lst false (sc.map D.int)), .va (.lst false (o.map D.int)), .va (.int e), .va (.int (0 : Nat))], by kspl_open ev, ?_⟩
        have : 0 = rise lead sc o e := hm
        rw [← this]
      | succ p =>
        have hp := ho _ (gi_mem (o := o) (i := ((p + 1 : Nat) : Int) - 1) (by omega) (by omega))
        unfold riseFrom at hm
        by_cases hb : beats lead sc e (gi o p) = true
        · rw [if_pos hb] at hm
          refine .inr ⟨[.va (.int lead), .va (.lst false (sc.map D.int)), .va (.lst false (o.map D.int)), .va (.int e), .va (.int (p + 1 : Nat))], [.va (.int lead), .va (.lst false (sc.map D.int)), .va (.lst false (o.map D.int)), .va (.int e), .va (.int p)], p, ?_, .inl ?_, Nat.lt_succ_self _, rfl, hm, by omega⟩
          · kspl_open ev
            simp only [outleads_eq ⟨he.1, he.2, hp.1, hp.2⟩]
            rw [show ((p + 1 : Nat) : Int) - 1 = p by omega, hb]
            kspl_open ev
          · kspl_open ev
            rw [show ((p + 1 : Nat) : Int) - 1 = p by omega]
        · rw [if_neg hb] at hm
          refine .inl ⟨[.va (.int lead), .va (.lst false (sc.map D.int)), .va (.lst false (o.map D.int)), .va (.int e), .va (.int (p + 1 : Nat))], ?_, by rw [hm]⟩
          kspl_open ev
          simp only [outleads_eq ⟨he.1, he.2, hp.1, hp.2⟩]
          rw [show ((p + 1 : Nat) : Int) - 1 = p by omega, Bool.eq_false_iff.mpr hb]
          kspl_open ev) o.length [.va (.int lead), .va (.lst false (sc.map D.int)), .va (.lst false (o.map D.int)), .va (.int e), .va (.int o.length)] ⟨rfl, rfl, Nat.le_refl _⟩
  subst e2
  simp only [e1]
  kspl_open ev
theorem left_order_eq {u v : Bool} {lead : Int} {sc o : List Int} (hl : o.length ≤ 1000) (ho : ∀ x ∈ o, 0 ≤ x ∧ x < sc.length) : F_left_order [.int lead, .lst u (sc.map D.int), .lst v (o.map D.int)] = some (.lst true ((leftO lead sc o).map D.int), []) := by
  unfold F_left_order
  kspl_open ev
  obtain ⟨s', e1, e2⟩ := sFor_inv (fi := iA (fV 2)) (fg := gS 4) (ds := o.map D.int) (s := [.va (.int lead), .va (.lst false (sc.map D.int)), .va (.lst false (o.map D.int)), .va (.lst true []), .no, .no]) (s1 := [.va (.int lead), .va (.lst false (sc.map D.int)), .va (.lst false (o.map D.int)), .va (.lst true []), .no, .no])
    (fb := bSeq (sAsg (fSc [1, 1, 0, 1, 1, 0] (fCall [false, false, false, false] F_rise_of (fAC (fV 0) (fAC (fV 1) (fAC (fV 3) (fAC (fV 4) fAN)))))) (gS 5)) (sAsg (fSc [0, 0, 0, 1, 1, 1] (fLst (fAS (fSl dSlA (fV 3) fPN (fPS (fV 5))) (fAC (fV 4) (fAS (fSl dSlA (fV 3) (fPS (fV 5)) fPN) fAN))))) (gS 3)))
    (fun i s => ∃ x y, (x = .no ∨ ∃ d, x = .va d) ∧ (y = .no ∨ ∃ d, y = .va d) ∧ s = [.va (.int lead), .va (.lst false (sc.map D.int)), .va (.lst false (o.map D.int)), .va (.lst true (((o.take i).foldl (ins lead sc) []).map D.int)), x, y])
    (by kspl_open ev) ⟨_, _, .inl rfl, .inl rfl, rfl⟩ (by
      rintro i d s hd ⟨x, y, hx, hy, rfl⟩
      rw [List.getElem?_map, Option.map_eq_some_iff] at hd
      obtain ⟨z, hz, rfl⟩ := hd
      have hz2 := ho z (List.mem_of_getElem? hz)
      have hil := (List.getElem?_eq_some_iff.mp hz).1
      have hp := fold_perm lead sc (o.take i) []
      have hlen : ((o.take i).foldl (ins lead sc) []).length ≤ 1000 := by
        rw [hp.length_eq, List.nil_append, List.length_take]; omega
      have hmem : ∀ y ∈ (o.take i).foldl (ins lead sc) [], 0 ≤ y ∧ y < sc.length := fun y hy => ho y (List.mem_of_mem_take (by simpa using hp.mem_iff.mp hy))
      rw [take_more hz, List.foldl_append]
      generalize (o.take i).foldl (ins lead sc) [] = f at *
      have hr : rise lead sc f z ≤ f.length := riseFrom_le _ _ _ _ _
      refine ⟨[.va (.int lead), .va (.lst false (sc.map D.int)), .va (.lst false (o.map D.int)), .va (.lst true ((ins lead sc f z).map D.int)), .va (.int z), .va (.int (rise lead sc f z))], .inl ?_, _, _, .inr ⟨_, rfl⟩, .inr ⟨_, rfl⟩, rfl⟩
      rcases hx with rfl | ⟨dx, rfl⟩ <;> rcases hy with rfl | ⟨dy, rfl⟩ <;>
      · kspl_open ev
        simp only [rise_of_eq hlen hz2 hmem]
        kspl_open ev
        unfold ins
        rw [List.map_append, List.map_cons])
  obtain ⟨x, y, hx, hy, rfl⟩ := e2
  simp only [e1]
  rw [List.length_map, List.take_length]
  kspl_open ev
  rfl
/-- whole numbers that keep p stay -/
def keepF (p : Int → Bool) : D → Option D
  | .int x => if p x then some (D.int x) else none
  | _ => none
theorem fm_keep (p : Int → Bool) (ns : List Int) : (ns.map D.int).filterMap (keepF p) = (ns.filter p).map D.int := by
  induction ns with
  | nil => rfl
  | cons x r ih =>
    rw [List.map_cons]
    by_cases hb : p x = true
    · rw [List.filterMap_cons_some (b := D.int x) (by simp [keepF, hb]), List.filter_cons_of_pos hb, List.map_cons, ih]
    · rw [List.filterMap_cons_none (by simp [keepF, hb]), List.filter_cons_of_neg hb, ih]
theorem v_extL {o : Bool} {as bs : List (List Int)} (h : as.length + bs.length ≤ 1000000) : mExtend (as.map (DL.lI true)) [.lst o (bs.map (DL.lI true))] = some (.non, (as ++ bs).map (DL.lI true)) := by
  have e : (as.map (DL.lI true)).length + (bs.map (DL.lI true)).length ≤ mx := by rw [List.length_map, List.length_map]; exact h
  rw [List.map_append]
  exact if_pos e
/-- an entry more at the end -/
def moreF (p : Int → Bool) (row : List Int) : D → Option D
  | .int x => if p x then some (DL.lI true (row ++ [x])) else none
  | _ => none
theorem fm_more (p : Int → Bool) (row ns : List Int) : (ns.map D.int).filterMap (moreF p row) = ((ns.filter p).map fun x => row ++ [x]).map (DL.lI true) := by
  induction ns with
  | nil => rfl
  | cons x r ih =>
    rw [List.map_cons]
    by_cases hb : p x = true
    · rw [List.filterMap_cons_some (b := DL.lI true (row ++ [x])) (by simp [moreF, hb]), List.filter_cons_of_pos hb, List.map_cons, List.map_cons, ih]
    · rw [List.filterMap_cons_none (by simp [moreF, hb]), List.filter_cons_of_neg hb, ih]
theorem lst_get {b : Bool} {AA : List (List Int)} {i : Nat} {d : D} (h : (AA.map (DL.lI b))[i]? = some d) : ∃ A, AA[i]? = some A ∧ d = DL.lI b A ∧ A ∈ AA := by
  rw [List.getElem?_map, Option.map_eq_some_iff] at h
  obtain ⟨A, hA, rfl⟩ := h
  exact ⟨A, hA, rfl, List.mem_of_getElem? hA⟩
/-! ### short lists of lifts: the program -/
theorem en_int {ns : List Int} {i : Nat} {e : D} (h : ((ns.map D.int).mapIdx fun i x => DL.pairD (D.int i) x)[i]? = some e) : e = DL.pairD (.int i) (.int (gi ns i)) ∧ i < ns.length := by
  rw [List.getElem?_mapIdx, List.getElem?_map, Option.map_map, Option.map_eq_some_iff] at h
  obtain ⟨c, hc, rfl⟩ := h
  have h1 := (List.getElem?_eq_some_iff.mp hc).1
  exact ⟨by rw [gi_nat h1, (List.getElem?_eq_some_iff.mp hc).2]; rfl, h1⟩
theorem drop_gi {l : List Int} {i : Nat} (h : i < l.length) : l.drop i = gi l i :: l.drop (i + 1) := by
  rw [gi_nat h, ← List.drop_eq_getElem_cons h]
theorem take_gi {l : List Int} {i : Nat} (h : i < l.length) : l.take (i + 1) = l.take i ++ [gi l i] := by
  rw [take_more (List.getElem?_eq_getElem h), gi_nat h]
/-- numbers by a yes or no -/
def blF (p : Int → Bool) : D → Option D
  | .int x => some (.bl (p x))
  | _ => none
theorem fm_bl (p : Int → Bool) (ns : List Int) : (ns.map D.int).filterMap (blF p) = (ns.map p).map D.bl := by
  induction ns with
  | nil => rfl
  | cons x r ih => rw [List.map_cons, List.filterMap_cons_some (f := blF p) (b := D.bl (p x)) rfl, ih]; rfl
theorem v_remI {ns : List Int} {k : Int} (h : k ∈ ns) : mRemove (ns.map D.int) [.int k] = some (.non, (ns.erase k).map D.int) := by
  show (intsOf (ns.map D.int)).bind _ = _
  rw [intsOf_ints]
  exact if_pos h
theorem lay_ints : ∀ ns : List Int, PyData.canLayAll0 (D.pyL (ns.map D.int)) = true ∧ PyData.depthAll (D.pyL (ns.map D.int)) = 0
  | [] => ⟨rfl, rfl⟩
  | n :: r => by
    obtain ⟨h1, h2⟩ := lay_ints r
    rw [List.map_cons, D.pyL, PyData.canLayAll0, PyData.depthAll, h1, h2]
    exact ⟨rfl, rfl⟩
theorem lay_LL {b : Bool} : ∀ A : List (List Int), PyData.canLayAll0 (D.pyL (A.map (DL.lI b))) = true ∧ PyData.depthAll (D.pyL (A.map (DL.lI b))) ≤ 1
  | [] => ⟨rfl, Nat.zero_le _⟩
  | r :: A => by
    obtain ⟨h1, h2⟩ := lay_LL (b := b) A
    obtain ⟨h3, h4⟩ := lay_ints r
    have e : (DL.lI b r).py = .list (D.pyL (r.map D.int)) := by unfold DL.lI; rw [D.py]
    rw [List.map_cons, D.pyL, PyData.canLayAll0, PyData.depthAll, h1, e, PyData.canLay0, PyData.depth, h3, h4]
    exact ⟨rfl, Nat.max_le.mpr ⟨Nat.le_refl _, h2⟩⟩
theorem shp_LL {o b : Bool} {A : List (List Int)} : (D.lst o (A.map (DL.lI b))).shp = true := by
  obtain ⟨h1, h2⟩ := lay_LL (b := b) A
  unfold D.shp
  refine shaped_of ?_ ?_
  · rw [D.py, PyData.canLay0, h1]
  · rw [D.py, PyData.depth]; omega
theorem eqv_LL {o p b c : Bool} {A B : List (List Int)} : (D.lst o (A.map (DL.lI b))).eqv (.lst p (B.map (DL.lI c))) = decide (A = B) := by
  have key : ∀ A B : List (List Int), PyData.eqvAll (D.pyL (A.map (DL.lI b))) (D.pyL (B.map (DL.lI c))) = decide (A = B) := by
    intro A
    induction A with
    | nil =>
      intro B
      cases B with
      | nil => simp [D.pyL, PyData.eqvAll]
      | cons s B => simp [D.pyL, PyData.eqvAll]
    | cons r A ih =>
      intro B
      cases B with
      | nil => simp [D.pyL, PyData.eqvAll]
      | cons s B =>
        rw [List.map_cons, List.map_cons, D.pyL, D.pyL, PyData.eqvAll, ih B]
        have e : PyData.eqv (DL.lI b r).py (DL.lI c s).py = decide (r = s) := eqv_ints r s
        rw [e]
        by_cases h1 : r = s <;> by_cases h2 : A = B <;> simp [h1, h2]
  show PyData.eqv _ _ = _
  rw [D.py, D.py, PyData.eqv]
  exact key A B
theorem v_eqL2 {o p b c : Bool} {A B : List (List Int)} : dEqA (.lst o (A.map (DL.lI b))) (.lst p (B.map (DL.lI c))) = some (.bl (decide (A = B))) := by
  rw [← eqv_LL (o := o) (p := p) (b := b) (c := c)]
  exact v_eqL ⟨shp_LL, shp_LL⟩
/-- the order behind lifts, of each row -/
def aftF (g : Int) (sc ls : List Int) (bb : Bool) : D → Option D
  | .lst _ ds => (intsOf ds).map fun row => DL.lI bb (ls.foldl (liftO g sc) row)
  | _ => none
theorem fm_aft {g : Int} {sc ls : List Int} {bb b : Bool} (R : List (List Int)) : (R.map (DL.lI b)).filterMap (aftF g sc ls bb) = (R.map fun row => ls.foldl (liftO g sc) row).map (DL.lI bb) := by
  induction R with
  | nil => rfl
  | cons r R ih =>
    have e : aftF g sc ls bb (DL.lI b r) = some (DL.lI bb (ls.foldl (liftO g sc) r)) := by
      show (intsOf (r.map D.int)).map _ = _
      rw [intsOf_ints]; rfl
    rw [List.map_cons, List.filterMap_cons_some e, List.map_cons, List.map_cons, ih]
theorem aft_at {g : Int} {sc ls : List Int} {bb b : Bool} {r : List Int} : aftF g sc ls bb (DL.lI b r) = some (DL.lI bb (ls.foldl (liftO g sc) r)) := by
  show (intsOf (r.map D.int)).map _ = _
  rw [intsOf_ints]; rfl

/-! ### drawn numbers of the laws k34 to k49 -/
/-- a source of drawn numbers, of which at most n were mixed so far -/
def Src (n : Int) (d : D) : Prop := ∃ x y z : Int, d = .lst true [.int x, .int y, .int z] ∧ 0 ≤ x ∧ (0 ≤ y ∧ y < 10000000000000000000000000000000000000000000000000000000000000000000000) ∧ 0 ≤ z ∧ z ≤ n
theorem Src.full {n : Int} {d : D} (h : Src n d) : d.full = true := by obtain ⟨x, y, z, rfl, _⟩ := h; rfl
theorem Src.mono {n m : Int} {d : D} (h : Src n d) (l : n ≤ m) : Src m d := by
  obtain ⟨x, y, z, e, h0, h1, h2, h3⟩ := h
  exact ⟨x, y, z, e, h0, h1, h2, by omega⟩
/-- a whole number, not too long -/
def Sm (m : Int) (x : Int) : Prop := -m ≤ x ∧ x ≤ m
theorem source_wp {u : Bool} {ns : List Int} {k : Int} (hk : 0 ≤ k ∧ k < 1000000) : Ok (F__law_open_source [.lst u (ns.map D.int), .int k]) (fun r => ∃ d, r = (d, []) ∧ Src 0 d ∧ d.full = true) := by
  unfold F__law_open_source
  kspl_open wp
  refine Ok.bind (R := fun o => ∃ c : Int, o = .nx [.va (.lst false (ns.map D.int)), .va (.int k), .va (.int c)]) ?_ ?_
  · refine Ok.ite (fun h => ?_) (fun h => Ok.some ⟨_, rfl⟩)
    have h := of_decide_eq_true h
    refine Ok.eq (at_ints (by omega)) ?_
    kspl_open wp
    exact Ok.some ⟨_, rfl⟩
  · rintro _ ⟨c, rfl⟩
    have h1 := Int.emod_nonneg c (b := 1000000000000000000000000000000000000000000000000000000000007) (by decide)
    have h2 := Int.emod_lt_of_pos c (b := 1000000000000000000000000000000000000000000000000000000000007) (by decide)
    kspl_open wp
    exact Ok.some ⟨_, rfl, ⟨_, _, _, rfl, by split <;> omega, by omega, by omega, by omega⟩, rfl⟩
theorem draw_wp {n lim : Int} {d : D} (h : Src n d) (hl : 0 < lim ∧ lim < 1000000000000000000000000000000000000000000000000000) (hn : 0 ≤ n ∧ n < 1000000000000000000) : Ok (F__law_draw [d, .int lim]) (fun r => ∃ k d', r = (.int k, [d']) ∧ 0 ≤ k ∧ k < lim ∧ Src (n + 1) d' ∧ d'.full = true) := by
  obtain ⟨x, y, z, rfl, h0, h1, h2, h3⟩ := h
  by_cases hx : 0 < x
  · refine ⟨_, ?_, x % lim, _, rfl, Int.emod_nonneg _ (by omega), Int.emod_lt_of_pos _ hl.1, ⟨x / lim, y, z, rfl, Int.ediv_nonneg h0 (by omega), h1, h2, by omega⟩, rfl⟩
    unfold F__law_draw
    kspl_open ev
  · refine ⟨_, ?_, _, _, rfl, Int.emod_nonneg (((y + 40503 * (z + 1) * (z + 1) + 11) ^ 3 % 2305843009213693951 + 69621 * (z + 1)) ^ 3 % 2305843009213693921 / 65537) (by omega), Int.emod_lt_of_pos _ hl.1, ⟨x, y, z + 1, rfl, h0, h1, by omega, by omega⟩, rfl⟩
    unfold F__law_draw
    have e1 := Int.emod_nonneg ((y + 40503 * (z + 1) * (z + 1) + 11) ^ 3) (b := 2305843009213693951) (by decide)
    have e2 := Int.emod_lt_of_pos ((y + 40503 * (z + 1) * (z + 1) + 11) ^ 3) (b := 2305843009213693951) (by decide)
    have e3 : 0 ≤ 40503 * (z + 1) * (z + 1) := Int.mul_nonneg (by omega) (by omega)
    have e4 : 40503 * (z + 1) * (z + 1) ≤ 40503 * 1000000000000000000 * 1000000000000000000 := Int.mul_le_mul (by omega) (by omega) (by omega) (by omega)
    kspl_open ev
theorem any_wp {n w : Int} {d : D} (h : Src n d) (hw : 0 < w ∧ w ≤ 10000000000000000000000000000000000) (hn : 0 ≤ n ∧ n < 100000000000000000) : Ok (F__law_any [d, .int w]) (fun r => ∃ k d', r = (.int k, [d']) ∧ 0 ≤ k ∧ k < w ∧ Src (n + 2) d' ∧ d'.full = true) := by
  have hf := h.full
  unfold F__law_any
  kspl_open wp
  by_cases c : w < 1000000000000000
  · rw [decide_eq_true c]
    kspl_open wp
    refine Ok.bind (draw_wp h (by omega) (by omega)) ?_
    rintro _ ⟨ka, da, rfl, aa, ba, sa, fa⟩
    kspl_open wp
    exact Ok.some ⟨ka, da, rfl, aa, ba, sa.mono (by omega), fa⟩
  · rw [decide_eq_false c]
    kspl_open wp
    refine Ok.bind (draw_wp h (by omega) (by omega)) ?_
    rintro _ ⟨ka, da, rfl, aa, ba, sa, fa⟩
    kspl_open wp
    refine Ok.bind (draw_wp sa (by omega) (by omega)) ?_
    rintro _ ⟨kb, db, rfl, ab, bb, sb, fb⟩
    kspl_open wp
    have h1 := Int.emod_nonneg (ka * 10000000000000000 + kb) (b := w) (by omega)
    have h2 := Int.emod_lt_of_pos (ka * 10000000000000000 + kb) (b := w) (by omega)
    exact Ok.some ⟨_, db, rfl, h1, h2, sb.mono (by omega), fb⟩
theorem margin_wp {n : Int} {d : D} (h : Src n d) (hn : 0 ≤ n ∧ n < 10000000000000000) : Ok (F__law_margin [d]) (fun r => ∃ k d', r = (.int k, [d']) ∧ (1 ≤ k ∧ k ≤ 10000000000000000000000000000000) ∧ Src (n + 10) d' ∧ d'.full = true) := by
  have hf := h.full
  unfold F__law_margin
  kspl_open wp
  refine Ok.bind (draw_wp h (by omega) (by omega)) ?_
  rintro _ ⟨ka, da, rfl, aa, ba, sa, fa⟩
  kspl_open wp
  refine Ok.bind (any_wp sa (by omega) (by omega)) ?_
  rintro _ ⟨kb, db, rfl, ab, bb, sb, fb⟩
  kspl_open wp
  refine Ok.bind (any_wp sb (by omega) (by omega)) ?_
  rintro _ ⟨kc, dc, rfl, ac, bc, sc, fc⟩
  kspl_open wp
  refine Ok.bind (draw_wp sc (by omega) (by omega)) ?_
  rintro _ ⟨ke, de, rfl, ae, be, se, fe⟩
  kspl_open wp
  obtain ⟨v, ev, hv0, hv1⟩ := pickI (lo := 1) (hi := 10000000000000000000000000000000) (ds := [.int 1, .int (1 + ka), .int (1 + kb), .int (1 + kc)]) ⟨isI_of (by omega), isI_of (by omega), isI_of (by omega), isI_of (by omega), trivial⟩ (k := ke) ⟨ae, be⟩
  refine Ok.eq (ev) ?_
  kspl_open wp
  exact Ok.some ⟨v, de, rfl, ⟨hv0, hv1⟩, se.mono (by omega), fe⟩
theorem many_wp {u : Bool} {n most : Int} {d : D} {sp : List Int} (h : Src n d) (hm : 4 ≤ most ∧ most ≤ 28) (hn : 0 ≤ n ∧ n < 10000000000000000) : Ok (F__law_many [d, .lst u (sp.map D.int), .int most]) (fun r => ∃ k d', r = (.int k, [d']) ∧ (1 ≤ k ∧ k ≤ most) ∧ Src (n + 10) d' ∧ d'.full = true) := by
  have hf := h.full
  unfold F__law_many
  kspl_open wp
  by_cases hsp : sp = []
  · subst hsp
    kspl_open wp
    exact Ok.some ⟨_, d, rfl, by split <;> omega, h.mono (by omega), hf⟩
  · have hd : decide (sp = []) = false := decide_eq_false hsp
    simp only [hd]
    kspl_open wp
    refine Ok.bind (draw_wp h (by omega) (by omega)) ?_
    rintro _ ⟨ka, da, rfl, aa, ba, sa, fa⟩
    kspl_open wp
    refine Ok.bind (draw_wp (lim := if most < 5 then most else 5) sa (by split <;> omega) (by omega)) ?_
    rintro _ ⟨kb, db, rfl, ab, bb, sb, fb⟩
    have bb2 : kb < 5 := by revert bb; split <;> omega
    have bb3 : 1 + kb ≤ most := by revert bb; split <;> omega
    kspl_open wp
    refine Ok.bind (draw_wp sb (by omega) (by omega)) ?_
    rintro _ ⟨kc, dc, rfl, ac, bc, sc, fc⟩
    kspl_open wp
    obtain ⟨v, ev, hv0, hv1⟩ := pickI (lo := 1) (hi := most) (ds := [.int (1 + ka), .int most, .int (1 + kb)]) ⟨isI_of (by omega), isI_of (by omega), isI_of (by omega), trivial⟩ (k := kc) ⟨ac, bc⟩
    refine Ok.eq (ev) ?_
    kspl_open wp
    exact Ok.some ⟨v, dc, rfl, ⟨hv0, hv1⟩, sc.mono (by omega), fc⟩

theorem tallies_wp {n many margin : Int} {d : D} (h : Src n d) (hm : 1 ≤ many ∧ many ≤ 28) (hg : 1 ≤ margin ∧ margin ≤ 10000000000000000000000000000000) (hn : 0 ≤ n ∧ n < 10000000000000000) :
    Ok (F__law_tallies [d, .int many, .int margin]) (fun r => ∃ (ns : List Int) (d' : D), r = (.lst true (ns.map D.int), [d']) ∧ (ns.length : Int) = many ∧ (∀ x ∈ ns, Sm 100000000000000000000000000000000 x) ∧ Src (n + 1000) d' ∧ d'.full = true) := by
  have hf := h.full
  unfold F__law_tallies
  kspl_open wp
  refine Ok.bind (draw_wp h (by omega) (by omega)) ?_
  rintro _ ⟨ka, da, rfl, aa, ba, sa, fa⟩
  kspl_open wp
  obtain ⟨w, hw, hw1⟩ : ∃ w : Int, (if 100000000000000000000000000000 < margin then (100000000000000000000000000000 : Int) else margin) = w ∧ 1 ≤ w ∧ w ≤ 100000000000000000000000000000 := ⟨_, rfl, by split <;> omega⟩
  rw [hw]
  refine ok_for (fun i s => ∃ (ns : List Int) (last : Int) (d' : D) (x y : Sl), Fr x ∧ Fr y ∧ s = [.pn d', .va (.int many), .va (.int margin), .va (.int ka), .va (.lst true (ns.map D.int)), .va (.int last), .va (.int w), x, y] ∧ ns.length = i ∧ (0 ≤ last ∧ last ≤ 100000000000000000000000000000 * i) ∧ (∀ x ∈ ns, Sm 100000000000000000000000000000000 x) ∧ Src (n + 1 + 10 * i) d' ∧ d'.full = true) (by kspl_open wp; rfl) ⟨[], 0, da, .no, .no, .no, .no, rfl, rfl, by omega, by simp, sa.mono (by omega), fa⟩ ?_ ?_
  · rintro i e s he ⟨ns, last, d', x, y, hx, hy, rfl, hi, hla, hb, hs, hf'⟩
    obtain ⟨rfl, hlt⟩ := rgD_get he
    kspl_open wp
    refine Ok.bind (any_wp hs (by omega) (by omega)) ?_
    rintro _ ⟨k1, d1, rfl, a1, b1, s1, f1⟩
    kspl_open wp
    refine Ok.bind (any_wp s1 (by omega) (by omega)) ?_
    rintro _ ⟨k2, d2, rfl, a2, b2, s2, f2⟩
    kspl_open wp
    refine Ok.bind (draw_wp s2 (by omega) (by omega)) ?_
    rintro _ ⟨k3, d3, rfl, a3, b3, s3, f3⟩
    kspl_open wp
    refine Ok.bind (draw_wp s3 (by omega) (by omega)) ?_
    rintro _ ⟨k4, d4, rfl, a4, b4, s4, f4⟩
    kspl_open wp
    have m1 : 0 ≤ 10 * w * k4 := Int.mul_nonneg (by omega) (by omega)
    have m2 : 10 * w * k4 ≤ 10 * w * 3 := Int.mul_le_mul_of_nonneg_left (by omega) (by omega)
    refine Ok.bind (any_wp s4 (by omega) (by omega)) ?_
    rintro _ ⟨k5, d5, rfl, a5, b5, s5, f5⟩
    kspl_open wp
    obtain ⟨v, ev, hv0, hv1⟩ := pickI (lo := -10000000000000000000000000000000) (hi := 10000000000000000000000000000000) (ds := [.int k2, .int k3, .int (last + k1), .int (10 * w * k4), .int (0 - k5)]) ⟨isI_of (by omega), isI_of (by omega), isI_of (by omega), isI_of (by omega), isI_of (by omega), trivial⟩ (k := ka) ⟨aa, ba⟩
    refine Ok.eq (ev) ?_
    kspl_open wp
    refine Ok.bind (draw_wp s5 (by omega) (by omega)) ?_
    rintro _ ⟨k6, d6, rfl, a6, b6, s6, f6⟩
    kspl_open wp
    refine Ok.some (nxt.nx ⟨ns ++ [v + k6], last + k1, d6, _, _, Fr.va, Fr.va, by rw [List.map_append]; rfl, by simp [hi], by omega, ?_, s6.mono (by omega), f6⟩)
    intro x hx
    rcases List.mem_append.mp hx with hx | hx
    · exact hb x hx
    · rw [List.mem_singleton.mp hx]; exact ⟨by omega, by omega⟩
  · rintro s ⟨ns, last, d', x, y, hx, hy, rfl, hi, hla, hb, hs, hf'⟩
    rw [rgD_len] at hi hs
    kspl_open wp
    exact Ok.some ⟨ns, d', rfl, by omega, hb, hs.mono (by omega), hf'⟩

theorem line_wp {n many : Int} {d : D} (h : Src n d) (hm : 1 ≤ many ∧ many ≤ 28) (hn : 0 ≤ n ∧ n < 10000000000000000) : Ok (F__law_line [d, .int many]) (fun r => ∃ (o : List Int) (d' : D), r = (.lst true (o.map D.int), [d']) ∧ IsOrd many.toNat o ∧ Src (n + 60) d' ∧ d'.full = true) := by
  have hf := h.full
  unfold F__law_line
  kspl_open wp
  refine Ok.bind (draw_wp h (by omega) (by omega)) ?_
  rintro _ ⟨ka, da, rfl, aa, ba, sa, fa⟩
  kspl_open wp
  rw [rgD_up]
  have hul := upN_len many.toNat
  by_cases c : ka < 2
  · simp only [decide_eq_true c]
    kspl_open wp
    have h1 : dStep (.lst false ((upN many.toNat).map D.int)) (.int (1 - 2 * 0)) = some (.lst true ((upN many.toNat).map D.int)) := rfl
    have h2 : dStep (.lst false ((upN many.toNat).map D.int)) (.int (1 - 2 * 1)) = some (.lst true ((upN many.toNat).map D.int).reverse) := rfl
    rcases (by omega : ka = 0 ∨ ka = 1) with rfl | rfl
    · kspl_open wp
      refine Ok.eq (h1) ?_
      kspl_open wp
      exact Ok.some ⟨_, da, rfl, List.Perm.refl _, sa.mono (by omega), fa⟩
    · kspl_open wp
      refine Ok.eq (h2) ?_
      kspl_open wp
      exact Ok.some ⟨(upN many.toNat).reverse, da, by rw [List.map_reverse], List.reverse_perm _, sa.mono (by omega), fa⟩
  · simp only [decide_eq_false c]
    kspl_open wp
    refine ok_lc (fun i acc s => ∃ (don : List Int) (d' : D) (rest : List Int), acc = don.map D.int ∧ s = [.pn d', .va (.int many), .va (.lst true (rest.map D.int)), .va (.int ka), .no] ∧ Src (n + 1 + (i : Nat)) d' ∧ d'.full = true ∧ (don ++ rest).Perm (upN many.toNat) ∧ don.length = i) (by kspl_open wp; rfl) (by rw [rgD_len, mx_is]; omega) ⟨[], da, upN many.toNat, rfl, by kspl_open wp, sa.mono (by omega), fa, .refl _, rfl⟩ ?_ ?_
    · rintro i e acc s he ⟨don, d', rest, rfl, rfl, hs, hf', hp, hi⟩
      obtain ⟨rfl, hlt⟩ := rgD_get he
      have hr : rest.length + i = many.toNat := by have := hp.length_eq; rw [List.length_append] at this; omega
      kspl_open wp
      refine Ok.bind (draw_wp hs (by omega) (by omega)) ?_
      rintro _ ⟨k1, d1, rfl, a1, b1, s1, f1⟩
      kspl_open wp
      exact Ok.some ⟨don ++ [gi rest k1], d1, rest.eraseIdx k1.toNat, by rw [List.map_append]; rfl, by kspl_open wp, s1.mono (by omega), f1, pop_perm hp (by omega) (by omega), by simp [hi]⟩
    · rintro acc s ⟨don, d', rest, rfl, rfl, hs, hf', hp, hi⟩
      rw [rgD_len] at hi hs
      have hr : rest = [] := by
        have := hp.length_eq
        rw [List.length_append] at this
        exact List.eq_nil_of_length_eq_zero (by omega)
      subst hr
      rw [List.append_nil] at hp
      kspl_open wp
      exact Ok.some ⟨don, d', rfl, hp, hs.mono (by omega), hf'⟩
/-- two truth values told alike -/
theorem same_bool {n : Nat} {a b : Bool} : F__law_same (n + 1) [.bl a, .bl b] = some (.bl (decide (a = b)), []) := by
  refine Ok.is ?_
  rw [F__law_same]
  kspl_open wp
  exact Ok.some rfl

/-! ### wrong places and what is left, in the family F3 -/
theorem zip_pairs (o : List Int) : ((List.zipWith DL.tupP (o.map D.int) ((o.drop 1).map D.int)).map D.frz).mapIdx (fun i x => DL.pairD (.int (i : Nat)) x) = (List.range (o.length - 1)).map fun k : Nat => DL.pairD (.int (k : Nat)) (.tup false [.int (gi o k), .int (gi o ((k : Int) + 1))]) := by
  refine List.ext_getElem ?_ fun i h1 h2 => ?_
  · simp
  · have hl : i < o.length - 1 := by simpa using h2
    have e1 : gi o (i : Nat) = o[i]'(by omega) := gi_nat (by omega)
    have e2 : gi o ((i : Nat) + 1) = o[i + 1]'(by omega) := by rw [show ((i : Nat) : Int) + 1 = ((i + 1 : Nat) : Int) by omega, gi_nat (by omega)]
    simp only [List.getElem_mapIdx, List.getElem_map, List.getElem_zipWith, List.getElem_drop, List.getElem_range]
    rw [e1, e2]
    have e3 : (1 + i) = i + 1 := by omega
    simp only [e3]
    rfl
/-- places at which the lower one leads -/
def wrF (g : Int) (sc : List Int) : D → Option D
  | .tup _ [.int i, .tup _ [.int x, .int y]] => if beats g sc y x = true then some (.int i) else none
  | _ => none
theorem wrong3_eq {u v : Bool} {g : Int} {sc o : List Int} (hl : o.length ≤ 100) (ho : ∀ x ∈ o, 0 ≤ x ∧ x < sc.length) : F__law_wrong [.int g, .lst u (sc.map D.int), .lst v (o.map D.int)] = some (.lst true ((wrongs g sc o).map D.int), []) := by
  refine Ok.is ?_
  unfold F__law_wrong
  kspl_open wp
  refine Ok.eq (DL.v_listZip (by kspl_open wp; rfl)) ?_
  kspl_open wp
  refine ok_lcp (wrF g sc) (ds := (List.range (o.length - 1)).map fun k : Nat => DL.pairD (.int (k : Nat)) (.tup false [.int (gi o k), .int (gi o ((k : Int) + 1))])) (by
    kspl_open wp
    rw [← zip_pairs]
    all_goals (try simp only [List.map_map])
    all_goals (try rfl)) (by rw [List.length_map, List.length_range, mx_is]; omega) (by kspl_open wp) ?_ ?_
  · intro i d hd
    rw [List.getElem?_map, Option.map_eq_some_iff] at hd
    obtain ⟨k, hk, rfl⟩ := hd
    obtain ⟨hk1, hk2⟩ := List.getElem?_eq_some_iff.mp hk
    rw [List.length_range] at hk1
    rw [List.getElem_range] at hk2
    subst hk2
    have m1 := ho _ (gi_mem (o := o) (i := (i : Nat)) (by omega) (by omega))
    have m2 := ho _ (gi_mem (o := o) (i := (i : Nat) + 1) (by omega) (by omega))
    have hb : beats g sc (gi o ((i : Nat) + 1)) (gi o (i : Nat)) = decide (gi sc (gi o (i : Nat)) + g ≤ gi sc (gi o ((i : Nat) + 1))) := by
      unfold beats
      exact decide_eq_decide.mpr ⟨fun h => by omega, fun h => by omega⟩
    have hw : wrF g sc (DL.pairD (.int (i : Nat)) (.tup false [.int (gi o (i : Nat)), .int (gi o ((i : Nat) + 1))])) = if beats g sc (gi o ((i : Nat) + 1)) (gi o (i : Nat)) = true then some (.int (i : Nat)) else none := rfl
    rw [hw, hb]
    unfold DL.pairD
    kspl_open wp
    cases decide (gi sc (gi o (i : Nat)) + g ≤ gi sc (gi o ((i : Nat) + 1)))
    · exact Ok.some ⟨rfl, rfl⟩
    · kspl_open wp
      exact Ok.some ⟨rfl, rfl⟩
  · rw [show ((List.range (o.length - 1)).map fun k : Nat => DL.pairD (.int (k : Nat)) (.tup false [.int (gi o k), .int (gi o ((k : Int) + 1))])).filterMap (wrF g sc) = (wrongs g sc o).map D.int by
      unfold wrongs
      rw [List.filterMap_map, List.map_map]
      generalize List.range (o.length - 1) = R
      induction R with
      | nil => rfl
      | cons k R ih =>
        by_cases c : beats g sc (gi o ((k : Int) + 1)) (gi o k) = true
        · rw [List.filterMap_cons_some (b := D.int (k : Nat)) (by show (if _ then _ else _) = _; rw [if_pos c]), List.filter_cons_of_pos (by simpa using c), List.map_cons, ih]
          rfl
        · rw [List.filterMap_cons_none (by show (if _ then _ else _) = _; rw [if_neg c]), List.filter_cons_of_neg (by simpa using c), ih]]
    kspl_open wp
    exact Ok.some rfl
theorem swap_cut {o : List Int} {p : Int} (h0 : 0 ≤ p) (h : p + 1 < o.length) : o.take p.toNat ++ [gi o (p + 1), gi o p] ++ o.drop (p + 2).toNat = swapAt o p := by
  obtain ⟨a, x, y, b, e, es, ex, ey, hl⟩ := swap_split h0 h
  rw [es, ← ex, ← ey]
  have h1 : o.take p.toNat = a := by rw [e, ← hl]; simp
  have h2 : o.drop (p + 2).toNat = b := by
    rw [e, show (p + 2).toNat = a.length + 2 by omega, List.drop_append]
    simp
  rw [h1, h2]
  simp
theorem left3_eq {u v : Bool} {g : Int} {sc o : List Int} (hg : 1 ≤ g) (hl : sc.length ≤ 28) (ho : IsOrd sc.length o) : F__law_left [.int g, .lst u (sc.map D.int), .lst v (o.map D.int)] = some (.lst true ((leftO g sc o).map D.int), []) := by
  have hol := ho.len
  have hnd := IsOrd.nd ho
  refine Ok.is ?_
  unfold F__law_left
  kspl_open wp
  refine Ok.eq (wrong3_eq (by omega) (fun x hx => ho.mem.mp hx)) ?_
  kspl_open wp
  refine ok_wh (fun M s => ∃ (f : List Int) (m : Nat) (x5 : Sl), Fr x5 ∧ s = [.va (.int g), .va (.lst false (sc.map D.int)), .va (.lst false (o.map D.int)), .va (.lst true (f.map D.int)), .va (.lst true ((wrongs g sc f).map D.int)), x5] ∧ Way g sc o f m ∧ M = inv g sc f)
    (fun s => ∃ x4 x5, s = [.va (.int g), .va (.lst false (sc.map D.int)), .va (.lst false (o.map D.int)), .va (.lst true ((leftO g sc o).map D.int)), x4, x5]) (inv g sc o) ⟨o, 0, _, Fr.no, rfl, Way.start hnd, rfl⟩ ?_ ?_
  · rintro M s ⟨f, m, x5, y5, rfl, w, rfl⟩
    have hfl : f.length = o.length := w.1.length_eq
    have hfm : ∀ x ∈ f, 0 ≤ x ∧ x < sc.length := fun x hx => ho.mem.mp (w.1.mem_iff.mp hx)
    kspl_open wp
    refine Ok.some ?_
    by_cases c : wrongs g sc f = []
    · rw [decide_eq_true c]
      rw [if_neg (by simp)]
      obtain ⟨rfl, rfl⟩ := w.stop hg hnd c
      exact ⟨_, _, rfl⟩
    · rw [decide_eq_false c, if_pos (by simp)]
      have hpos := List.length_pos_iff.mpr c
      have hw := gi_mem (o := wrongs g sc f) (i := ((wrongs g sc f).length : Int) - 1) (by omega) (by omega)
      kspl_open wp
      generalize gi (wrongs g sc f) (((wrongs g sc f).length : Int) - 1) = p at hw ⊢
      obtain ⟨hp0, hp1, hb⟩ := mem_wrongs.mp hw
      have hst := w.step hg hw
      have hps := pass_step hg hw w.2
      have hcut := swap_cut hp0 (show p + 1 < f.length by omega)
      have hsm : ∀ x ∈ swapAt f p, 0 ≤ x ∧ x < sc.length := fun x hx => ho.mem.mp (hst.1.mem_iff.mp hx)
      have hsl : (swapAt f p).length = f.length := hst.1.length_eq.trans hfl.symm
      kspl_open wp
      rw [show List.map D.int (f.take p.toNat) ++ [D.int (gi f (p + 1)), D.int (gi f p)] ++ List.map D.int (f.drop (p + 2).toNat) = (swapAt f p).map D.int by
        rw [← hcut]
        simp]
      kspl_open wp
      refine Ok.eq (wrong3_eq (by omega) hsm) ?_
      kspl_open wp
      exact Ok.some (nxt.nx ⟨_, by omega, swapAt f p, m + 1, _, Fr.va, rfl, hst, rfl⟩)
  · rintro s ⟨x4, x5, rfl⟩
    kspl_open wp
    exact Ok.some rfl

/-! ### loops that may return -/
theorem loop_rt {step : D → S → Option Out} {ds : List D} (I : Nat → S → Prop) (Z : D → S → Prop) (hs : ∀ i d s, ds[i]? = some d → I i s → Ok (step d s) (fun o => nxt (I (i + 1)) o ∨ ∃ r s', o = .rt r s' ∧ Z r s')) :
    ∀ k i s, i + k = ds.length → I i s → Ok (fLoop step (ds.drop i) s) (fun o => (∃ s', o = .nx s' ∧ I ds.length s') ∨ ∃ r s', o = .rt r s' ∧ Z r s')
  | 0, i, s, hk, hI => by
    obtain rfl : i = ds.length := by omega
    rw [List.drop_length]
    exact ⟨_, rfl, .inl ⟨s, rfl, hI⟩⟩
  | k + 1, i, s, hk, hI => by
    have hi : i < ds.length := by omega
    rw [List.drop_eq_getElem_cons hi]
    obtain ⟨o, e, h⟩ := hs i ds[i] s (List.getElem?_eq_getElem hi) hI
    rw [fLoop, e]
    rcases h with ⟨s', h | h, hI'⟩ | ⟨r, s', h, z⟩
    · subst h; exact loop_rt I Z hs k (i + 1) s' (by omega) hI'
    · subst h; exact loop_rt I Z hs k (i + 1) s' (by omega) hI'
    · subst h; exact ⟨_, rfl, .inr ⟨r, s', rfl, z⟩⟩
theorem ok_for_rt {α : Type} {fi : M (List D)} {fg : D → S → Option S} {fb : S → Option Out} {ds : List D} {s s1 : S} {k : Out → Option α} {Q : α → Prop} (I : Nat → S → Prop) (Z : D → S → Prop) (hi : fi s = some (ds, s1)) (h0 : I 0 s1)
    (hs : ∀ i d s, ds[i]? = some d → I i s → Ok ((fg d s).bnd fb) (fun o => nxt (I (i + 1)) o ∨ ∃ r s', o = .rt r s' ∧ Z r s')) (hk : ∀ s', I ds.length s' → Ok (k (.nx s')) Q) (hr : ∀ r s', Z r s' → Ok (k (.rt r s')) Q) : Ok ((zFor fi fg fb s).bnd k) Q := by
  have h := loop_rt (step := fun d s => (fg d s).bind fb) I Z hs ds.length 0 s1 (by omega) h0
  rw [List.drop_zero] at h
  obtain ⟨o, e, h⟩ := h
  have e2 : zFor fi fg fb s = some o := by
    rw [zFor_is]
    unfold sFor
    rw [hi]
    exact e
  refine Ok.eq e2 ?_
  rcases h with ⟨s', rfl, h⟩ | ⟨r, s', rfl, z⟩
  · exact hk s' h
  · exact hr r s' z
theorem bnd_self {α : Type} {m : Option α} : m.bnd (fun x => some x) = m := by cases m <;> rfl
/-- a loop that may return, at the end of a block -/
theorem ok_for_rt0 {fi : M (List D)} {fg : D → S → Option S} {fb : S → Option Out} {ds : List D} {s s1 : S} {Q : Out → Prop} (I : Nat → S → Prop) (Z : D → S → Prop) (hi : fi s = some (ds, s1)) (h0 : I 0 s1)
    (hs : ∀ i d s, ds[i]? = some d → I i s → Ok ((fg d s).bnd fb) (fun o => nxt (I (i + 1)) o ∨ ∃ r s', o = .rt r s' ∧ Z r s')) (hk : ∀ s', I ds.length s' → Q (.nx s')) (hr : ∀ r s', Z r s' → Q (.rt r s')) : Ok (zFor fi fg fb s) Q := by
  have h := ok_for_rt (k := fun o => some o) (Q := Q) I Z hi h0 hs (fun s' h => Ok.some (hk s' h)) (fun r s' h => Ok.some (hr r s' h))
  rw [bnd_self] at h
  exact h

/-! ### lesser leads, wide leads -/
theorem left_finer {near g : Int} {sc line : List Int} (hn : 1 ≤ near) (hg : near ≤ g) (nd : line.Nodup) : leftO near sc (leftO g sc line) = leftO near sc line := by
  have pm := leftO_perm g sc line
  have ndl := pm.nodup_iff.mpr nd
  refine left_is hn (idxOf_rises nd) ((leftO_perm near sc _).trans pm) (leftO_calm hn sc _) (keeps_left hn ndl ?_)
  refine (leftO_keeps (lead := g) (sc := sc) (idxOf_rises nd)).imp fun {x y} h c => h ?_
  unfold Close beats at *
  simp only [decide_eq_false_iff_not] at *
  omega
/-- an order of which all scores are close stays -/
theorem left_wide {w : Int} {sc o : List Int} (hw : 1 ≤ w) (nd : o.Nodup) (h : ∀ x ∈ o, ∀ y ∈ o, gi sc x - gi sc y < w) : wrongs w sc o = [] ∧ leftO w sc o = o := by
  have hc : wrongs w sc o = [] := wrongs_nil.mpr fun p hp => by
    unfold beats
    refine decide_eq_false ?_
    have := h _ (gi_mem (o := o) (i := (p : Int) + 1) (by omega) (by omega)) _ (gi_mem (o := o) (i := (p : Int)) (by omega) (by omega))
    omega
  exact ⟨hc, leftO_id hw nd hc⟩

/-! ### which leads leave which order -/
theorem calm_wider {g g' : Int} {sc l : List Int} (h : g ≤ g') (c : Calm g sc l) : Calm g' sc l := fun p hp => by
  have := c p hp
  unfold beats at this ⊢
  have := of_decide_eq_false this
  exact decide_eq_false (by omega)
/-- what two leads leave all leads between leave -/
theorem left_between {g1 g g2 : Int} {sc o : List Int} (h0 : 1 ≤ g1) (h1 : g1 ≤ g) (h2 : g ≤ g2) (nd : o.Nodup) (e : leftO g1 sc o = leftO g2 sc o) : leftO g sc o = leftO g1 sc o := by
  have a := left_finer (near := g) (g := g2) (sc := sc) (by omega) h2 nd
  have ndw : (leftO g1 sc o).Nodup := (leftO_perm _ _ _).nodup_iff.mpr nd
  rw [← e] at a
  rw [← a]
  exact leftO_id (by omega) ndw (wrongs_nil.mpr (calm_wider h1 (leftO_calm h0 sc o)))
/-- leads and what they leave, told by those leads of which C holds -/
structure Lbl (sc o : List Int) (C : Int → Prop) (ps : List (Int × List Int)) : Prop where
  mem : ∀ p ∈ ps, C p.1
  up : ps.Pairwise fun p q => p.1 < q.1
  cov : ∀ (j : Nat) (p : Int × List Int) (c : Int), ps[j]? = some p → C c → p.1 ≤ c → (∀ q, ps[j + 1]? = some q → c < q.1) → leftO c sc o = p.2
  dif : ∀ (j : Nat) (p q : Int × List Int), ps[j]? = some p → ps[j + 1]? = some q → p.2 ≠ q.2
theorem Lbl.lt {sc o : List Int} {C : Int → Prop} {ps : List (Int × List Int)} (h : Lbl sc o C ps) {i j : Nat} {p q : Int × List Int} (hi : ps[i]? = some p) (hj : ps[j]? = some q) (l : i < j) : p.1 < q.1 := by
  obtain ⟨h1, rfl⟩ := List.getElem?_eq_some_iff.mp hi
  obtain ⟨h2, rfl⟩ := List.getElem?_eq_some_iff.mp hj
  exact List.pairwise_iff_getElem.mp h.up i j h1 h2 l
theorem Lbl.own {sc o : List Int} {C : Int → Prop} {ps : List (Int × List Int)} (h : Lbl sc o C ps) {i : Nat} {p : Int × List Int} (hi : ps[i]? = some p) : leftO p.1 sc o = p.2 :=
  h.cov i p p.1 hi (h.mem p (List.mem_of_getElem? hi)) (Int.le_refl _) fun q hq => h.lt hi hq (Nat.lt_succ_self i)
theorem Lbl.nil {sc o : List Int} : Lbl sc o (fun _ => False) [] := ⟨fun p h => (nomatch h), List.Pairwise.nil, fun j p c h => absurd h (by simp), fun j p q h => absurd h (by simp)⟩
theorem Lbl.congr {sc o : List Int} {C C' : Int → Prop} {ps : List (Int × List Int)} (h : Lbl sc o C ps) (e : ∀ c, C c ↔ C' c) : Lbl sc o C' ps := ⟨fun p hp => (e _).mp (h.mem p hp), h.up, fun j p c h1 h2 => h.cov j p c h1 ((e _).mpr h2), h.dif⟩
theorem Lbl.same {sc o : List Int} {C : Int → Prop} {ps : List (Int × List Int)} (h : Lbl sc o C ps) {c : Int} (hc : ∀ x, C x → x < c) {p : Int × List Int} (hl : ps[ps.length - 1]? = some p) (e : leftO c sc o = p.2) : Lbl sc o (fun x => C x ∨ x = c) ps := by
  refine ⟨fun p hp => .inl (h.mem p hp), h.up, fun j q x h1 h2 h3 h4 => ?_, h.dif⟩
  rcases h2 with h2 | rfl
  · exact h.cov j q x h1 h2 h3 h4
  · have hj := (List.getElem?_eq_some_iff.mp h1).1
    by_cases z : j + 1 < ps.length
    · have hn := List.getElem?_eq_getElem z
      have h5 := h4 _ hn
      have h6 := hc _ (h.mem _ (List.getElem_mem z))
      omega
    · have : j = ps.length - 1 := by omega
      rw [this, hl] at h1
      cases h1
      exact e
theorem Lbl.more {sc o : List Int} {C : Int → Prop} {ps : List (Int × List Int)} (h : Lbl sc o C ps) {c : Int} (hc : ∀ x, C x → x < c) (e : ∀ p, ps[ps.length - 1]? = some p → leftO c sc o ≠ p.2) : Lbl sc o (fun x => C x ∨ x = c) (ps ++ [(c, leftO c sc o)]) := by
  have at1 : ∀ (j : Nat) (p : Int × List Int), (ps ++ [(c, leftO c sc o)])[j]? = some p → (j < ps.length ∧ ps[j]? = some p) ∨ (j = ps.length ∧ p = (c, leftO c sc o)) := fun j p hp => by
    by_cases z : j < ps.length
    · rw [List.getElem?_append_left z] at hp
      exact .inl ⟨z, hp⟩
    · have hj := (List.getElem?_eq_some_iff.mp hp).1
      rw [List.length_append, List.length_singleton] at hj
      have : j = ps.length := by omega
      subst this
      rw [List.getElem?_append_right (Nat.le_refl _)] at hp
      simp at hp
      exact .inr ⟨rfl, hp.symm⟩
  refine ⟨fun p hp => ?_, List.pairwise_append.mpr ⟨h.up, List.pairwise_singleton _ _, fun p hp q hq => ?_⟩, fun j p x h1 h2 h3 h4 => ?_, fun j p q h1 h2 => ?_⟩
  · rcases List.mem_append.mp hp with hp | hp
    · exact .inl (h.mem p hp)
    · rw [List.mem_singleton.mp hp]; exact .inr rfl
  · rw [List.mem_singleton.mp hq]
    exact hc _ (h.mem p hp)
  · rcases at1 j p h1 with ⟨z, h1⟩ | ⟨rfl, rfl⟩
    · by_cases y : j + 1 < ps.length
      · have hn : ps[j + 1]? = some ps[j + 1] := List.getElem?_eq_getElem y
        have h5 := h4 ps[j + 1] (by rw [List.getElem?_append_left y, hn])
        rcases h2 with h2 | rfl
        · exact h.cov j p x h1 h2 h3 fun q hq => by rw [hn] at hq; cases hq; exact h5
        · have := hc _ (h.mem _ (List.getElem_mem y))
          omega
      · have hje : j + 1 = ps.length := by omega
        have h5 := h4 (c, leftO c sc o) (by rw [hje, List.getElem?_append_right (Nat.le_refl _)]; simp)
        rcases h2 with h2 | rfl
        · exact h.cov j p x h1 h2 h3 fun q hq => by
            have := (List.getElem?_eq_some_iff.mp hq).1
            omega
        · exact absurd h5 (Int.lt_irrefl _)
    · have h3 : c ≤ x := h3
      rcases h2 with h2 | rfl
      · have := hc x h2
        omega
      · rfl
  · rcases at1 j p h1 with ⟨z, h1⟩ | ⟨rfl, rfl⟩
    · rcases at1 (j + 1) q h2 with ⟨y, h2⟩ | ⟨y, rfl⟩
      · exact h.dif j p q h1 h2
      · have hje : j = ps.length - 1 := by omega
        rw [hje] at h1
        exact fun z => e p h1 z.symm
    · have := (List.getElem?_eq_some_iff.mp h2).1
      rw [List.length_append, List.length_singleton] at this
      omega
/-- the leads at which another order may be left -/
def candL (sc : List Int) : List Int := setI (1 :: (sc.flatMap fun x => (sc.filter fun y => decide (y < x)).map fun y => x - y).map fun d => d + 1)
theorem mem_candL {sc : List Int} {c : Int} : c ∈ candL sc ↔ c = 1 ∨ ∃ x ∈ sc, ∃ y ∈ sc, y < x ∧ c = x - y + 1 := by
  unfold candL
  rw [mem_setI, List.mem_cons, List.mem_map]
  constructor
  · rintro (h | ⟨d, hd, rfl⟩)
    · exact .inl h
    · obtain ⟨x, hx, hd⟩ := List.mem_flatMap.mp hd
      obtain ⟨y, hy, rfl⟩ := List.mem_map.mp hd
      have hy := List.mem_filter.mp hy
      exact .inr ⟨x, hx, y, hy.1, by simpa using hy.2, rfl⟩
  · rintro (h | ⟨x, hx, y, hy, h1, rfl⟩)
    · exact .inl h
    · exact .inr ⟨x - y, List.mem_flatMap.mpr ⟨x, hx, List.mem_map.mpr ⟨y, List.mem_filter.mpr ⟨hy, by simpa using h1⟩, rfl⟩⟩, rfl⟩
theorem candL_pos {sc : List Int} {c : Int} (h : c ∈ candL sc) : 1 ≤ c := by
  rcases mem_candL.mp h with rfl | ⟨x, _, y, _, h1, rfl⟩ <;> omega
theorem candL_le {sc : List Int} (hn : 1 ≤ sc.length) {c : Int} (h : c ∈ candL sc) : c ≤ maxL sc - minL sc + 1 := by
  have hne : sc ≠ [] := List.length_pos_iff.mp hn
  rcases mem_candL.mp h with rfl | ⟨x, hx, y, hy, h1, rfl⟩
  · have := minL_le (maxL_mem hne)
    omega
  · have h1 := maxL_le hx
    have h2 := minL_le hy
    omega
/-- each lead leaves what the greatest of those up to it leaves -/
theorem candL_at {sc o : List Int} (ho : IsOrd sc.length o) {L : Int} (hL : 1 ≤ L) : ∃ c ∈ candL sc, c ≤ L ∧ leftO L sc o = leftO c sc o ∧ ∀ c' ∈ candL sc, c' ≤ L → c' ≤ c := by
  have hm1 : (1 : Int) ∈ (candL sc).filter fun c => decide (c ≤ L) := List.mem_filter.mpr ⟨mem_candL.mpr (.inl rfl), by simpa using hL⟩
  have hmx := List.mem_filter.mp (maxL_mem (List.ne_nil_of_mem hm1))
  have hle : maxL ((candL sc).filter fun c => decide (c ≤ L)) ≤ L := by simpa using hmx.2
  have hgr : ∀ c' ∈ candL sc, c' ≤ L → c' ≤ maxL ((candL sc).filter fun c => decide (c ≤ L)) := fun c' h1 h2 => maxL_le (List.mem_filter.mpr ⟨h1, by simpa using h2⟩)
  refine ⟨_, hmx.1, hle, ?_, hgr⟩
  generalize maxL ((candL sc).filter fun c => decide (c ≤ L)) = c at *
  have hc1 := candL_pos hmx.1
  refine leftO_congr fun x hx y hy => ?_
  have rx := ho.mem.mp hx
  have ry := ho.mem.mp hy
  have mx := gi_mem (o := sc) (i := x) rx.1 rx.2
  have my := gi_mem (o := sc) (i := y) ry.1 ry.2
  unfold beats
  refine decide_eq_decide.mpr ?_
  have key : ∀ a b : Int, a ∈ sc → b ∈ sc → c ≤ a - b → L ≤ a - b := fun a b ha hb h => by
    by_cases z : L ≤ a - b
    · exact z
    · have := hgr (a - b + 1) (mem_candL.mpr (.inr ⟨a, ha, b, hb, by omega, rfl⟩)) (by omega)
      omega
  have k1 := key _ _ mx my
  have k2 := key _ _ my mx
  constructor <;> intro h <;> omega
theorem Lbl.all {sc o : List Int} {ps : List (Int × List Int)} (ho : IsOrd sc.length o) (h : Lbl sc o (fun c => c ∈ candL sc) ps) : Lbl sc o (fun L => 1 ≤ L) ps := by
  refine ⟨fun p hp => candL_pos (h.mem p hp), h.up, fun j p L h1 h2 h3 h4 => ?_, h.dif⟩
  obtain ⟨c, hc, hcL, e, hg⟩ := candL_at (sc := sc) ho h2
  rw [e]
  exact h.cov j p c h1 hc (hg _ (h.mem p (List.mem_of_getElem? h1)) h3) fun q hq => by have := h4 q hq; omega
theorem Lbl.apart {sc o : List Int} {ps : List (Int × List Int)} (nd : o.Nodup) (h : Lbl sc o (fun L => 1 ≤ L) ps) {i j : Nat} {p q : Int × List Int} (hi : ps[i]? = some p) (hj : ps[j]? = some q) (e : p.2 = q.2) : i = j := by
  have key : ∀ {i j : Nat} {p q : Int × List Int}, ps[i]? = some p → ps[j]? = some q → p.2 = q.2 → ¬ i < j := fun {i j p q} hi hj e l => by
    have hjl := (List.getElem?_eq_some_iff.mp hj).1
    have hn : ps[i + 1]? = some ps[i + 1] := List.getElem?_eq_getElem (by omega)
    have l1 := h.lt hi hn (Nat.lt_succ_self i)
    have l2 : (ps[i + 1]'(by omega)).1 ≤ q.1 := by
      by_cases z : i + 1 = j
      · subst z
        rw [hn] at hj
        cases hj
        exact Int.le_refl _
      · exact Int.le_of_lt (h.lt hn hj (by omega))
    have o1 := h.own hi
    have o2 := h.own hj
    have o3 := h.own hn
    have hp1 : 1 ≤ p.1 := h.mem p (List.mem_of_getElem? hi)
    have b := left_between (sc := sc) hp1 (Int.le_of_lt l1) l2 nd (by rw [o1, o2, e])
    rw [o3, o1] at b
    exact h.dif i p _ hi hn b.symm
  rcases Nat.lt_trichotomy i j with z | z | z
  · exact absurd z (key hi hj e)
  · exact z
  · exact absurd z (key hj hi e.symm)
theorem Lbl.idx {sc o : List Int} {ps : List (Int × List Int)} (h : Lbl sc o (fun L => 1 ≤ L) ps) (h0 : ∃ p, ps[0]? = some p ∧ p.1 = 1) {L : Int} (hL : 1 ≤ L) : ∃ (i : Nat) (p : Int × List Int), ps[i]? = some p ∧ p.1 ≤ L ∧ ∀ q, ps[i + 1]? = some q → L < q.1 := by
  obtain ⟨p0, e0, e1⟩ := h0
  have key : ∀ k i : Nat, i + k = ps.length → ∀ p, ps[i]? = some p → p.1 ≤ L → ∃ (i : Nat) (p : Int × List Int), ps[i]? = some p ∧ p.1 ≤ L ∧ ∀ q, ps[i + 1]? = some q → L < q.1 := by
    intro k
    induction k with
    | zero =>
      intro i hi p hp _
      have := (List.getElem?_eq_some_iff.mp hp).1
      omega
    | succ k ih =>
      intro i hi p hp hl
      by_cases z : ∃ q, ps[i + 1]? = some q ∧ q.1 ≤ L
      · obtain ⟨q, hq, hqL⟩ := z
        exact ih (i + 1) (by omega) q hq hqL
      · exact ⟨i, p, hp, hl, fun q hq => Classical.byContradiction fun n => z ⟨q, hq, by omega⟩⟩
  exact key ps.length 0 (by omega) p0 e0 (by omega)

/-- the differences of two scores -/
def difL (sc : List Int) : List Int := sc.flatMap fun x => (sc.filter fun y => decide (y < x)).map fun y => x - y
theorem difL_len {sc : List Int} (hl : sc.length ≤ 28) : (difL sc).length ≤ 784 := by
  unfold difL
  have h : ∀ R : List Int, (R.flatMap fun x => (sc.filter fun y => decide (y < x)).map fun y => x - y).length ≤ R.length * 28 := fun R => by
    induction R with
    | nil => simp
    | cons r R ih =>
      rw [List.flatMap_cons, List.length_append, List.length_map, List.length_cons, Nat.succ_mul]
      have := List.length_filter_le (fun y => decide (y < r)) sc
      omega
  have h2 := h sc
  have h3 : sc.length * 28 ≤ 28 * 28 := Nat.mul_le_mul_right 28 hl
  omega
theorem candL_is (sc : List Int) : candL sc = setI (1 :: (difL sc).map fun d => d + 1) := rfl
/-- by one score, the differences -/
def difF (sc : List Int) : D → List D
  | .int x => ((sc.filter fun y => decide (y < x)).map fun y => x - y).map D.int
  | _ => []
/-- of one score and another one -/
def dif1 (x : Int) : D → Option D
  | .int y => if y < x then some (.int (x - y)) else none
  | _ => none
theorem fm_dif1 (x : Int) (ns : List Int) : (ns.map D.int).filterMap (dif1 x) = ((ns.filter fun y => decide (y < x)).map fun y => x - y).map D.int := by
  induction ns with
  | nil => rfl
  | cons y r ih =>
    rw [List.map_cons]
    by_cases hb : y < x
    · rw [List.filterMap_cons_some (b := D.int (x - y)) (by simp [dif1, hb]), List.filter_cons_of_pos (by simp [hb]), List.map_cons, List.map_cons, ih]
    · rw [List.filterMap_cons_none (by simp [dif1, hb]), List.filter_cons_of_neg (by simp [hb]), ih]
theorem fm_difF (sc ns : List Int) : (ns.map D.int).flatMap (difF sc) = (ns.flatMap fun x => (sc.filter fun y => decide (y < x)).map fun y => x - y).map D.int := by
  induction ns with
  | nil => rfl
  | cons x r ih =>
    rw [List.map_cons, List.flatMap_cons, ih, List.flatMap_cons, List.map_append]
    rfl
/-- a lead and what it leaves -/
def tupQ (p : Int × List Int) : D := .tup true [.int p.1, .lst false (p.2.map D.int)]
def tupZ (p : Int × List Int) : D := .tup false [.int p.1, .lst false (p.2.map D.int)]
theorem frzQ (ps : List (Int × List Int)) : (ps.map tupQ).map D.frz = ps.map tupZ := by
  rw [List.map_map]
  refine List.map_congr_left fun p _ => ?_
  show (D.tup true [.int p.1, .lst false (p.2.map D.int)]).frz = _
  rw [DL.frz_tup]
  simp only [List.map_cons, List.map_nil, DL.frz_int, DL.frz_lst, DL.map_frz_int]
  rfl
theorem lay_int : ∀ ns : List Int, PyData.canLayAll0 (D.pyL (ns.map D.int)) = true ∧ PyData.depthAll (D.pyL (ns.map D.int)) = 0
  | [] => ⟨rfl, rfl⟩
  | n :: r => by
    obtain ⟨h1, h2⟩ := lay_int r
    rw [List.map_cons, D.pyL, PyData.canLayAll0, PyData.depthAll, h1, h2]
    exact ⟨rfl, rfl⟩
theorem lay_Z : ∀ ps : List (Int × List Int), PyData.canLayAll0 (D.pyL (ps.map tupZ)) = true ∧ PyData.depthAll (D.pyL (ps.map tupZ)) ≤ 2
  | [] => ⟨rfl, Nat.zero_le _⟩
  | p :: ps => by
    obtain ⟨h1, h2⟩ := lay_Z ps
    obtain ⟨h3, h4⟩ := lay_int p.2
    have e : (tupZ p).py = .tuple [.int p.1, .list (D.pyL (p.2.map D.int))] := by
      unfold tupZ
      rw [D.py, D.pyL, D.pyL, D.pyL, D.py, D.py]
    rw [List.map_cons, D.pyL, PyData.canLayAll0, PyData.depthAll, h1, e]
    have h5 : PyData.canLay0 (.tuple [.int p.1, .list (D.pyL (p.2.map D.int))]) = true := by
      rw [PyData.canLay0, PyData.canLayAll0, PyData.canLayAll0, PyData.canLayAll0, PyData.canLay0, PyData.canLay0, h3]
      rfl
    have h6 : PyData.depth (.tuple [.int p.1, .list (D.pyL (p.2.map D.int))]) ≤ 2 := by
      rw [PyData.depth, PyData.depthAll, PyData.depthAll, PyData.depthAll, PyData.depth, PyData.depth, h4]
      decide
    exact ⟨by rw [h5]; rfl, Nat.max_le.mpr ⟨h6, h2⟩⟩
theorem shp_Z {o : Bool} {ps : List (Int × List Int)} : (D.lst o (ps.map tupZ)).shp = true := by
  obtain ⟨h1, h2⟩ := lay_Z ps
  unfold D.shp
  refine shaped_of ?_ ?_
  · rw [D.py, PyData.canLay0, h1]
  · rw [D.py, PyData.depth]; omega
theorem v_eqZ0 {o p : Bool} {ps : List (Int × List Int)} (h : ps ≠ []) : dEqA (.lst o (ps.map tupZ)) (.lst p []) = some (.bl false) := by
  rw [v_eqL ⟨shp_Z, rfl⟩]
  cases ps with
  | nil => exact absurd rfl h
  | cons q ps => rfl
theorem at_neg {ds : List D} {d : D} (h : ds[ds.length - 1]? = some d) : atI ds (-1) = some d := by
  have h1 := (List.getElem?_eq_some_iff.mp h).1
  unfold atI
  rw [show ixN ds.length (-1) = some (ds.length - 1) by
    unfold ixN
    rw [if_neg (by omega), if_pos (by omega)]
    congr 1
    omega]
  exact h

/-- a lead and what it leaves, both owned -/
def tupO (p : Int × List Int) : D := .tup true [.int p.1, .lst true (p.2.map D.int)]
theorem frzO (ps : List (Int × List Int)) : (ps.map tupO).map D.frz = ps.map tupZ := by
  rw [List.map_map]
  refine List.map_congr_left fun p _ => ?_
  show (D.tup true [.int p.1, .lst true (p.2.map D.int)]).frz = _
  rw [DL.frz_tup]
  simp only [List.map_cons, List.map_nil, DL.frz_int, DL.frz_lst, DL.map_frz_int]
  rfl
theorem fullO {ps : List (Int × List Int)} : (ps.map tupO).all D.full = true := by
  rw [List.all_map, List.all_eq_true]
  intro p _
  show (D.tup true [.int p.1, .lst true (p.2.map D.int)]).full = true
  rw [DL.full_tup]
  rw [List.all_cons, List.all_cons, DL.full_lst, DL.full_int, DL.all_full_int]
  rfl
theorem left_by_lead_wp {u v : Bool} {sc o : List Int} (hl : 1 ≤ sc.length ∧ sc.length ≤ 28) (ho : IsOrd sc.length o) : Ok (F_left_by_lead [.lst u (sc.map D.int), .lst v (o.map D.int)]) (fun r => ∃ ps, r = (.lst true (ps.map tupO), []) ∧ Lbl sc o (fun L => 1 ≤ L) ps ∧ (∃ p, ps[0]? = some p ∧ p.1 = 1) ∧ (∀ p ∈ ps, p.1 ≤ maxL sc - minL sc + 1) ∧ ps.length ≤ 1000) := by
  have hol := ho.len
  have hdl := difL_len hl.2
  unfold F_left_by_lead
  kspl_open wp
  refine Ok.eq (DL.fLc2_pure (ds := sc.map D.int) (s1 := [.va (.lst false (sc.map D.int)), .no, .no, .no, .no, .no, .no, .no, .no]) (difF sc) (by kspl_open wp) (by rw [fm_difF, List.length_map, mx_is]; show (difL sc).length ≤ _; omega) (by kspl_open wp) ?_) ?_
  · intro d hd
    obtain ⟨x, hx, rfl⟩ := List.mem_map.mp hd
    obtain ⟨s', e1, e2⟩ := DL.lc_pure (fg := gS 7) (ft := fT (fOp dGt (fV 6) (fV 7))) (fe := fOp dSub (fV 6) (fV 7)) (vs := [7]) (ds := sc.map D.int) (s := [.va (.lst false (sc.map D.int)), .no, .no, .no, .no, .no, .va (.int x), .no, .no]) (dif1 x) (by kspl_open wp) (fun d hd => by
      obtain ⟨y, hy, rfl⟩ := List.mem_map.mp hd
      refine ⟨[.va (.lst false (sc.map D.int)), .no, .no, .no, .no, .no, .va (.int x), .va (.int y), .no], ?_, by kspl_open wp⟩
      by_cases c : y < x
      · simp only [dif1, if_pos c]
        kspl_open wp
        try simp [c]
      · simp only [dif1, if_neg c]
        kspl_open wp
        try simp [c])
    refine ⟨[.va (.lst false (sc.map D.int)), .no, .no, .no, .no, .no, .va (.int x), .no, .no], _, sc.map D.int, [.va (.lst false (sc.map D.int)), .no, .no, .no, .no, .no, .va (.int x), .no, .no], s', by kspl_open wp, rfl, by kspl_open wp, ?_, ?_⟩
    · rw [e1, fm_dif1]
      rfl
    · show (wipeS [7] s').set 6 .no = _
      rw [e2]
      rfl
  rw [fm_difF, show (sc.flatMap fun x => (sc.filter fun y => decide (y < x)).map fun y => x - y) = difL sc from rfl]
  kspl_open wp
  have hz : zLc (iA (fV 2)) (gS 8) fYes (fOp dAddA (fV 8) (fC (D.int 1))) [8] [.no, .no, .va (.lst false ((difL sc).map D.int)), .no, .no, .no, .no, .no, .no] = some (.lst true (((difL sc).map fun d => d + 1).map D.int), [.no, .no, .va (.lst false ((difL sc).map D.int)), .no, .no, .no, .no, .no, .no]) := by
    rw [← fm_map]
    refine DL.fLc_pure (ds := (difL sc).map D.int) (mapF fun d => d + 1) (by kspl_open wp) (by rw [List.length_map, mx_is]; omega) (by kspl_open wp) fun d hd => ?_
    obtain ⟨x, _, rfl⟩ := List.mem_map.mp hd
    refine ⟨[.no, .no, .va (.lst false ((difL sc).map D.int)), .no, .no, .no, .no, .no, .va (.int x)], ?_, by kspl_open wp⟩
    kspl_open wp
    rfl
  have hcl := setI_len (1 :: (difL sc).map fun d => d + 1)
  have hup := setI_up (1 :: (difL sc).map fun d => d + 1)
  rw [← candL_is] at hcl hup
  refine ok_for (fun i s => ∃ (b b2 : Bool) (x4 x5 : Sl) (ps : List (Int × List Int)), Fr x4 ∧ Fr x5 ∧ s = [.va (.lst false (sc.map D.int)), .va (.lst false (o.map D.int)), .va (.lst b ((difL sc).map D.int)), .va (.lst true (ps.map tupO)), x4, x5, .no, .no, .no] ∧ Lbl sc o (fun c => c ∈ (candL sc).take i) ps ∧ ps.length ≤ i ∧ (0 < i → ∃ p, ps[0]? = some p ∧ (candL sc)[0]? = some p.1)) (ds := (candL sc).map D.int) (by
    kspl_open wp
    rw [hz]
    kspl_open wp
    rw [show (D.int 1 :: List.map D.int ((difL sc).map fun d => d + 1)) = (1 :: (difL sc).map fun d => d + 1).map D.int from rfl, DL.v_ssetA (by rw [List.length_cons, List.length_map]; omega), ← candL_is]
    kspl_open wp
    all_goals (try rfl)) ⟨true, true, _, _, [], Fr.no, Fr.no, by simp, by simpa using Lbl.nil, Nat.zero_le _, fun h => absurd h (by omega)⟩ ?_ ?_
  · rintro i e s he ⟨b, b2, x4, x5, ps, y4, y5, rfl, hlb, hpl, hp0⟩
    obtain ⟨c, hc, rfl, hcm, hi, _⟩ := mint_get he
    have hc1 := candL_pos hcm
    have hlt : ∀ x ∈ (candL sc).take i, x < c := fun x hx => by
      obtain ⟨h1, h2⟩ := List.getElem?_eq_some_iff.mp hc
      obtain ⟨j, hj, rfl⟩ := List.getElem_of_mem hx
      rw [List.length_take] at hj
      rw [List.getElem_take, ← h2]
      exact List.pairwise_iff_getElem.mp hup j i (by omega) h1 (by omega)
    have htk : ∀ x, (x ∈ (candL sc).take i ∨ x = c) ↔ x ∈ (candL sc).take (i + 1) := fun x => by
      rw [take_more hc, List.mem_append, List.mem_singleton]
    kspl_open wp
    refine Ok.eq (left_order_eq (by omega) (fun x hx => ho.mem.mp hx)) ?_
    kspl_open wp
    by_cases hps : ps = []
    · subst hps
      have hi0 : i = 0 := by
        rcases Nat.eq_zero_or_pos i with z | z
        · exact z
        · obtain ⟨p, hp, _⟩ := hp0 z
          simp at hp
      kspl_open wp
      exact Ok.some (nxt.nx ⟨_, true, _, _, [(c, leftO c sc o)], Fr.va, Fr.no, rfl, (Lbl.more hlb hlt (by simp)).congr htk, by simp, fun _ => ⟨_, rfl, by rw [← hi0]; exact hc⟩⟩)
    · have hlz := List.length_pos_iff.mpr hps
      have hlast : ps[ps.length - 1]? = some ps[ps.length - 1] := List.getElem?_eq_getElem (by omega)
      generalize ps[ps.length - 1] = p at hlast
      kspl_open wp
      rw [frzO]
      refine Ok.eq (v_eqZ0 hps) ?_
      kspl_open wp
      kspl_open wp
      rw [frzO]
      refine Ok.eq (at_neg (ds := ps.map tupZ) (by rw [List.length_map, List.getElem?_map, hlast]; rfl)) ?_
      kspl_open wp
      unfold tupZ
      kspl_open wp
      have hfst := hp0 (by omega)
      by_cases q : leftO c sc o = p.2
      · rw [decide_eq_true q, if_neg (by decide)]
        exact Ok.some (nxt.nx ⟨_, true, _, _, ps, Fr.va, Fr.va, rfl, (Lbl.same hlb hlt hlast q).congr htk, by omega, fun _ => hfst⟩)
      · rw [decide_eq_false q, if_pos (show (!false) = true from rfl), if_pos (by rw [List.length_cons, List.length_map] at hcl; omega)]
        rw [show List.map tupO ps ++ [D.tup true [D.int c, D.lst true (List.map D.int (leftO c sc o))]] = (ps ++ [(c, leftO c sc o)]).map tupO by rw [List.map_append]; rfl]
        obtain ⟨p0, e0, e1⟩ := hfst
        have hnew := (Lbl.more hlb hlt (fun p' hp' => by rw [hlast] at hp'; cases hp'; exact q)).congr htk
        kspl_open wp
        exact Ok.some (nxt.nx ⟨_, true, _, _, _, Fr.va, Fr.no, rfl, hnew, by simp; omega, fun _ => ⟨p0, by rw [List.getElem?_append_left hlz]; exact e0, e1⟩⟩)
  · rintro s ⟨b, b2, x4, x5, ps, y4, y5, rfl, hlb, hpl, hp0⟩
    rw [List.length_map, List.take_length] at hlb
    rw [List.length_map] at hp0 hpl
    kspl_open wp
    have h1m : (1 : Int) ∈ candL sc := mem_candL.mpr (.inl rfl)
    have hcpos := List.length_pos_of_mem h1m
    obtain ⟨p, e0, e1⟩ := hp0 hcpos
    have hfirst : p.1 = 1 := by
      obtain ⟨z1, z2⟩ := List.getElem?_eq_some_iff.mp e1
      have hge := candL_pos (List.mem_of_getElem? e1)
      obtain ⟨j, hj, ej⟩ := List.getElem_of_mem h1m
      by_cases z : j = 0
      · subst z
        rw [z2] at ej
        exact ej
      · have := List.pairwise_iff_getElem.mp hup 0 j z1 hj (by omega)
        omega
    refine Ok.some ⟨ps, rfl, hlb.all ho, ⟨p, e0, hfirst⟩, fun q hq => candL_le hl.1 (hlb.mem q hq), by rw [List.length_cons, List.length_map] at hcl; omega⟩

/-- whole numbers from one up to another one -/
def segL (a e : Int) : List Int := (List.range (e + 1 - a).toNat).map fun k : Nat => a + (k : Int)
theorem segL_up {a e : Int} : (segL a e).Pairwise (· < ·) := by
  unfold segL
  rw [List.pairwise_map]
  exact List.pairwise_lt_range.imp fun h => by omega
theorem mem_segL {a e x : Int} : x ∈ segL a e ↔ a ≤ x ∧ x ≤ e := by
  unfold segL
  rw [List.mem_map]
  constructor
  · rintro ⟨k, hk, rfl⟩
    have := List.mem_range.mp hk
    omega
  · rintro ⟨h1, h2⟩
    exact ⟨(x - a).toNat, List.mem_range.mpr (by omega), by omega⟩
theorem segL_len {a e : Int} : (segL a e).length = (e + 1 - a).toNat := by unfold segL; rw [List.length_map, List.length_range]
theorem segL_gi {a e k : Int} (h0 : 0 ≤ k) (h1 : k < (e + 1 - a).toNat) : gi (segL a e) k = a + k := by
  obtain ⟨j, rfl⟩ : ∃ j : Nat, k = j := ⟨k.toNat, by omega⟩
  rw [gi_nat (by rw [segL_len]; omega)]
  unfold segL
  simp
theorem rgD_seg {a : Int} {n : Nat} : rgD a n = (segL a (a + n - 1)).map D.int := by
  unfold rgD segL
  rw [List.map_map, show (a + (n : Int) - 1 + 1 - a).toNat = n by omega]
  rfl

/-! ### the list of leads is told by what it says -/
theorem cand_eq {sc o : List Int} (hn : 1 ≤ sc.length) (ho : IsOrd sc.length o) {L M : Int} (hL : maxL sc - minL sc + 1 ≤ L) (hM : maxL sc - minL sc + 1 ≤ M) (h1 : 1 ≤ L) (h2 : 1 ≤ M) : leftO L sc o = leftO M sc o := by
  obtain ⟨c, hc, hcL, e, hg⟩ := candL_at (sc := sc) ho h1
  obtain ⟨c', hc', hcM, e', hg'⟩ := candL_at (sc := sc) ho h2
  have a := hg c' hc' (Int.le_trans (candL_le hn hc') hL)
  have b := hg' c hc (Int.le_trans (candL_le hn hc) hM)
  rw [e, e', show c = c' by omega]
theorem Lbl.upto {sc o : List Int} {M : Int} {ps : List (Int × List Int)} (hn : 1 ≤ sc.length) (ho : IsOrd sc.length o) (hM : maxL sc - minL sc + 1 ≤ M) (h1 : 1 ≤ M) (h : Lbl sc o (fun c => 1 ≤ c ∧ c ≤ M) ps) : Lbl sc o (fun L => 1 ≤ L) ps := by
  refine ⟨fun p hp => (h.mem p hp).1, h.up, fun j p L h2 h3 h4 h5 => ?_, h.dif⟩
  by_cases z : L ≤ M
  · exact h.cov j p L h2 ⟨h3, z⟩ h4 h5
  · rw [cand_eq hn ho (L := L) (M := M) (by omega) hM h3 h1]
    refine h.cov j p M h2 ⟨h1, Int.le_refl _⟩ (h.mem p (List.mem_of_getElem? h2)).2 fun q hq => ?_
    have := h5 q hq
    have := (h.mem q (List.mem_of_getElem? hq)).2
    omega
theorem Lbl.next {sc o : List Int} {ps qs : List (Int × List Int)} (h : Lbl sc o (fun L => 1 ≤ L) ps) (k : Lbl sc o (fun L => 1 ≤ L) qs) {i : Nat} {p q : Int × List Int} (hp : ps[i]? = some p) (kp : qs[i]? = some p) (hq : ps[i + 1]? = some q) : ∃ q', qs[i + 1]? = some q' ∧ q'.1 ≤ q.1 := by
  by_cases z : ∃ q', qs[i + 1]? = some q' ∧ q'.1 ≤ q.1
  · exact z
  · have l := h.lt hp hq (Nat.lt_succ_self i)
    have hq1 : 1 ≤ q.1 := h.mem q (List.mem_of_getElem? hq)
    have e := k.cov i p q.1 kp hq1 (Int.le_of_lt l) fun q' hq' => Classical.byContradiction fun n => z ⟨q', hq', by omega⟩
    rw [h.own hq] at e
    exact absurd e.symm (h.dif i p q hp hq)
theorem Lbl.uniq {sc o : List Int} {ps qs : List (Int × List Int)} (h : Lbl sc o (fun L => 1 ≤ L) ps) (k : Lbl sc o (fun L => 1 ≤ L) qs) (h0 : ∃ p, ps[0]? = some p ∧ p.1 = 1) (k0 : ∃ p, qs[0]? = some p ∧ p.1 = 1) : ps = qs := by
  refine List.ext_getElem? fun i => ?_
  have pq : ∀ (p q : Int × List Int), p.1 = q.1 → leftO p.1 sc o = p.2 → leftO q.1 sc o = q.2 → p = q := fun p q e a b => by
    rw [e] at a
    exact Prod.ext e (a.symm.trans b)
  induction i with
  | zero =>
    obtain ⟨p, hp, h1⟩ := h0
    obtain ⟨q, hq, h2⟩ := k0
    rw [hp, hq, pq p q (by omega) (h.own hp) (k.own hq)]
  | succ i ih =>
    cases e1 : ps[i + 1]? with
    | some q =>
      have hl := (List.getElem?_eq_some_iff.mp e1).1
      have hp : ps[i]? = some ps[i] := List.getElem?_eq_getElem (by omega)
      rw [hp] at ih
      obtain ⟨q', e2, l1⟩ := h.next k hp ih.symm e1
      obtain ⟨q'', e3, l2⟩ := k.next h ih.symm hp e2
      rw [e1] at e3
      cases e3
      rw [e2, pq q q' (by omega) (h.own e1) (k.own e2)]
    | none =>
      cases e2 : qs[i + 1]? with
      | none => rfl
      | some q' =>
        have hl := (List.getElem?_eq_some_iff.mp e2).1
        have hp : qs[i]? = some qs[i] := List.getElem?_eq_getElem (by omega)
        rw [hp] at ih
        obtain ⟨q, e3, _⟩ := k.next h hp ih e2
        rw [e1] at e3
        cases e3
/-! ### lists of leads and what they leave, as data -/
theorem py_O {o p : Bool} (ps : List (Int × List Int)) : (D.lst o (ps.map tupO)).py = (D.lst p (ps.map tupZ)).py := by
  have h : ∀ ps : List (Int × List Int), D.pyL (ps.map tupO) = D.pyL (ps.map tupZ) := fun ps => by
    induction ps with
    | nil => rfl
    | cons q r ih =>
      rw [List.map_cons, List.map_cons, D.pyL, D.pyL, ih]
      congr 1
  rw [D.py, D.py, h]
theorem v_eqO {o p : Bool} {ps : List (Int × List Int)} : dEqA (.lst o (ps.map tupO)) (.lst p (ps.map tupZ)) = some (.bl true) := by
  have hs : (D.lst p (ps.map tupZ)).shp = true := shp_Z
  have hs2 : (D.lst o (ps.map tupO)).shp = true := by unfold D.shp; rw [py_O (p := p)]; exact hs
  rw [v_eqL ⟨hs2, hs⟩]
  unfold D.eqv
  rw [py_O (p := p), SeqAt.eqv_refl _ (by rw [D.py, PyData.canLay0]; exact (lay_Z ps).1)]
theorem v_neL2 {o p b c : Bool} {A B : List (List Int)} : dNeA (.lst o (A.map (DL.lI b))) (.lst p (B.map (DL.lI c))) = some (.bl (!decide (A = B))) := by
  rw [← eqv_LL (o := o) (p := p) (b := b) (c := c)]
  exact v_neL ⟨shp_LL, shp_LL⟩
/-! ### told alike -/
theorem same_int {n : Nat} {a : Int} : F__law_same (n + 1) [.int a, .int a] = some (.bl true, []) := by
  refine Ok.is ?_
  rw [F__law_same]
  kspl_open wp
  exact Ok.some rfl
theorem same_ints {n : Nat} {u v : Bool} {as : List Int} (h : as.length ≤ 1000) : F__law_same (n + 1 + 1) [.lst u (as.map D.int), .lst v (as.map D.int)] = some (.bl true, []) := by
  refine Ok.is ?_
  rw [F__law_same]
  kspl_open wp
  refine ok_lcp (fun _ => some (.bl true)) (ds := List.zipWith DL.pairD ((as.map D.int).map D.frz) ((as.map D.int).map D.frz)) (by
    refine (DL.v_ziL (by kspl_open wp; rfl)).trans ?_
    kspl_open wp
    rfl) (by rw [List.length_zipWith, mx_is]; simp; omega) (by kspl_open wp) ?_ ?_
  · intro i d hd
    rw [List.getElem?_zipWith] at hd
    simp only [List.getElem?_map] at hd
    cases e1 : as[i]? with
    | none => rw [e1] at hd; simp at hd
    | some x =>
      rw [e1] at hd
      simp only [Option.map_some, Option.some.injEq] at hd
      obtain rfl : DL.pairD (.int x) (.int x) = d := hd
      unfold DL.pairD
      kspl_open wp
      refine Ok.eq (same_int) ?_
      kspl_open wp
      exact Ok.some ⟨rfl, by kspl_open wp⟩
  rw [fm_true]
  kspl_open wp
  exact Ok.some rfl
theorem same_row {n : Nat} {u v : Bool} {a : Int} {as : List Int} (h : as.length ≤ 1000) : F__law_same (n + 1 + 1 + 1) [.tup u [.int a, .lst false (as.map D.int)], .tup v [.int a, .lst false (as.map D.int)]] = some (.bl true, []) := by
  refine Ok.is ?_
  have h1 := same_int (n := n + 1) (a := a)
  have h2 := same_ints (n := n) (u := false) (v := false) h
  rw [F__law_same]
  kspl_open wp
  refine ok_lcp (fun _ => some (.bl true)) (ds := [DL.pairD (.int a) (.int a), DL.pairD (.lst false (as.map D.int)) (.lst false (as.map D.int))]) (by
    refine (DL.v_ziT (by kspl_open wp; rfl)).trans ?_
    simp only [List.map_cons, List.map_nil, DL.frz_int, DL.frz_lst, DL.map_frz_int]
    rfl) (by rw [mx_is]; show 2 ≤ 1000000; omega) (by kspl_open wp) ?_ ?_
  · intro i d hd
    rcases i with _ | _ | i
    · obtain rfl : DL.pairD (.int a) (.int a) = d := by simpa using hd
      unfold DL.pairD
      kspl_open wp
      refine Ok.eq (h1) ?_
      kspl_open wp
      exact Ok.some ⟨rfl, rfl⟩
    · obtain rfl : DL.pairD (.lst false (as.map D.int)) (.lst false (as.map D.int)) = d := by simpa using hd
      unfold DL.pairD
      kspl_open wp
      refine Ok.eq (h2) ?_
      kspl_open wp
      exact Ok.some ⟨rfl, rfl⟩
    · simp at hd
  rw [fm_true]
  kspl_open wp
  exact Ok.some rfl
theorem same_rows {n : Nat} {u v : Bool} {ps : List (Int × List Int)} (h : ps.length ≤ 10000) (h2 : ∀ p ∈ ps, p.2.length ≤ 1000) : F__law_same (n + 1 + 1 + 1 + 1) [.lst u (ps.map tupZ), .lst v (ps.map tupZ)] = some (.bl true, []) := by
  refine Ok.is ?_
  rw [F__law_same]
  kspl_open wp
  refine ok_lcp (fun _ => some (.bl true)) (ds := List.zipWith DL.pairD (ps.map tupZ) (ps.map tupZ)) (by
    refine (DL.v_ziL (by kspl_open wp; rfl)).trans ?_
    have : (ps.map tupZ).map D.frz = ps.map tupZ := by rw [← frzO, DL.map_frz_frz]
    simp only [this]
    rfl) (by rw [List.length_zipWith, mx_is]; simp; omega) (by kspl_open wp) ?_ ?_
  · intro i d hd
    rw [List.getElem?_zipWith] at hd
    simp only [List.getElem?_map] at hd
    cases e1 : ps[i]? with
    | none => rw [e1] at hd; simp at hd
    | some x =>
      rw [e1] at hd
      simp only [Option.map_some, Option.some.injEq] at hd
      obtain rfl : DL.pairD (tupZ x) (tupZ x) = d := hd
      have hr := same_row (n := n) (u := false) (v := false) (a := x.1) (h2 x (List.mem_of_getElem? e1))
      unfold DL.pairD tupZ
      kspl_open wp
      refine Ok.eq (hr) ?_
      kspl_open wp
      exact Ok.some ⟨rfl, by kspl_open wp⟩
  rw [fm_true]
  kspl_open wp
  exact Ok.some rfl

theorem orders_by_lead_wp {u v : Bool} {sc o : List Int} (hl : 1 ≤ sc.length ∧ sc.length ≤ 28) (ho : IsOrd sc.length o) : Ok (F_orders_by_lead [.lst u (sc.map D.int), .lst v (o.map D.int)]) (fun r => ∃ ps, r = (.lst true (ps.map tupO), []) ∧ Lbl sc o (fun L => 1 ≤ L) ps ∧ (∃ p, ps[0]? = some p ∧ p.1 = 1) ∧ (∀ p ∈ ps, p.1 ≤ maxL sc - minL sc + 1) ∧ ps.length ≤ 1000) := by
  unfold F_orders_by_lead
  kspl_open wp
  refine Ok.eq (check_scores_eq hl) ?_
  kspl_open wp
  refine Ok.eq (check_order_eq hl.2 ho) ?_
  kspl_open wp
  refine Ok.bind (left_by_lead_wp hl ho) ?_
  rintro _ ⟨ps, rfl, h⟩
  kspl_open wp
  exact Ok.some ⟨ps, rfl, h⟩
theorem lbl_len {sc o : List Int} {ps : List (Int × List Int)} {M : Int} (h : Lbl sc o (fun L => 1 ≤ L) ps) (hm : ∀ p ∈ ps, p.1 ≤ M) (h1 : 0 ≤ M) : ps.length ≤ M.toNat := by
  have h2 := nodup_le (a := ps.map Prod.fst) (b := segL 1 M) (by
    rw [List.nodup_iff_pairwise_ne, List.pairwise_map]
    exact h.up.imp fun q => by omega) fun x hx => by
      obtain ⟨p, hp, rfl⟩ := List.mem_map.mp hx
      exact mem_segL.mpr ⟨h.mem p hp, hm p hp⟩
  rw [List.length_map, segL_len] at h2
  omega
theorem small_right_eq {u v : Bool} {sc o : List Int} (hl : 1 ≤ sc.length ∧ sc.length ≤ 28) (hS : ∀ i ∈ sc, -100 ≤ i ∧ i ≤ 100) (ho : IsOrd sc.length o) : F__law_small_right [.lst u (sc.map D.int), .lst v (o.map D.int)] = some (.bl true, []) := by
  have hol := ho.len
  have hne : sc ≠ [] := List.length_pos_iff.mp hl.1
  have hmx := hS _ (maxL_mem hne)
  have hmn := hS _ (minL_mem hne)
  have hmm := minL_le (maxL_mem hne)
  obtain ⟨_, eT, qs, rfl, hq, hq0, hqm, _⟩ := orders_by_lead_wp (u := false) (v := false) hl ho
  refine Ok.is ?_
  unfold F__law_small_right
  kspl_open wp
  refine ok_for (fun i s => ∃ (x4 x5 : Sl) (ps : List (Int × List Int)), Fr x4 ∧ Fr x5 ∧ s = [.va (.lst false (sc.map D.int)), .va (.lst false (o.map D.int)), .va (.lst true [.lst true (sc.map D.int), .lst true (o.map D.int)]), .va (.lst true (ps.map tupQ)), x4, x5, .no, .no] ∧ Lbl sc o (fun c => 1 ≤ c ∧ c ≤ i) ps ∧ ps.length ≤ i ∧ (0 < i → ∃ p, ps[0]? = some p ∧ p.1 = 1)) (ds := rgD 1 (maxL sc - minL sc + 4 - 1).toNat) (by kspl_open wp) ⟨_, _, [], Fr.no, Fr.no, rfl, Lbl.nil.congr fun c => ⟨fun h => h.elim, fun h => by omega⟩, Nat.zero_le _, fun h => absurd h (by omega)⟩ ?_ ?_
  · rintro i e s he ⟨x4, x5, ps, y4, y5, rfl, hlb, hpl, hp0⟩
    obtain ⟨rfl, hi⟩ := rgD_get he
    have hlt : ∀ x, (1 ≤ x ∧ x ≤ (i : Int)) → x < 1 + (i : Nat) := fun x hx => by omega
    have htk : ∀ x : Int, ((1 ≤ x ∧ x ≤ (i : Int)) ∨ x = 1 + (i : Nat)) ↔ (1 ≤ x ∧ x ≤ ((i + 1 : Nat) : Int)) := fun x => by omega
    kspl_open wp
    refine Ok.eq (left3_eq (by omega) hl.2 ho) ?_
    kspl_open wp
    by_cases hps : ps = []
    · subst hps
      have hi0 : i = 0 := by
        rcases Nat.eq_zero_or_pos i with z | z
        · exact z
        · obtain ⟨p, hp, _⟩ := hp0 z
          simp at hp
      kspl_open wp
      exact Ok.some (nxt.nx ⟨_, _, [(1 + (i : Nat), leftO (1 + (i : Nat)) sc o)], Fr.va, Fr.va, rfl, (Lbl.more hlb hlt (by simp)).congr htk, by simp, fun _ => ⟨_, rfl, by show (1 : Int) + (i : Nat) = 1; omega⟩⟩)
    · have hlz := List.length_pos_iff.mpr hps
      have hlast : ps[ps.length - 1]? = some ps[ps.length - 1] := List.getElem?_eq_getElem (by omega)
      generalize ps[ps.length - 1] = p at hlast
      kspl_open wp
      rw [frzQ]
      refine Ok.eq (v_eqZ0 hps) ?_
      kspl_open wp
      kspl_open wp
      rw [frzQ]
      refine Ok.eq (at_neg (ds := ps.map tupZ) (by rw [List.length_map, List.getElem?_map, hlast]; rfl)) ?_
      kspl_open wp
      unfold tupZ
      kspl_open wp
      obtain ⟨p0, e0, e1⟩ := hp0 (by omega)
      by_cases q : leftO (1 + (i : Nat)) sc o = p.2
      · rw [if_neg (by simp [q])]
        exact Ok.some (nxt.nx ⟨_, _, ps, Fr.va, Fr.va, rfl, (Lbl.same hlb hlt hlast q).congr htk, by omega, fun _ => ⟨p0, e0, e1⟩⟩)
      · rw [if_pos (by simp [Ne.symm q])]
        rw [show List.map tupQ ps ++ [D.tup true [D.int (1 + (i : Nat)), D.lst false (List.map D.int (leftO (1 + (i : Nat)) sc o))]] = (ps ++ [((1 : Int) + (i : Nat), leftO (1 + (i : Nat)) sc o)]).map tupQ by rw [List.map_append]; rfl]
        exact Ok.some (nxt.nx ⟨_, _, _, Fr.va, Fr.va, rfl, (Lbl.more hlb hlt (fun p' hp' => by rw [hlast] at hp'; cases hp'; exact q)).congr htk, by simp; omega, fun _ => ⟨p0, by rw [List.getElem?_append_left hlz]; exact e0, e1⟩⟩)
  · rintro s ⟨x4, x5, ps, y4, y5, rfl, hlb, hpl, hp0⟩
    rw [rgD_len] at hlb hpl hp0
    kspl_open wp
    refine Ok.eq (eT) ?_
    kspl_open wp
    have e : ps = qs := by
      refine Lbl.uniq (Lbl.upto hl.1 ho ?_ ?_ hlb) hq (hp0 (by omega)) hq0
      · omega
      · omega
    subst e
    have hln := lbl_len hq hqm (by omega)
    have hl2 : ∀ p ∈ ps, p.2.length ≤ 1000 := fun p hp => by
      obtain ⟨i, hi⟩ := List.mem_iff_getElem?.mp hp
      rw [← hq.own hi, (leftO_perm _ _ _).length_eq]
      omega
    rw [frzO, frzQ]
    refine Ok.eq (same_rows (by omega) hl2) ?_
    kspl_open wp
    kspl_open wp
    refine Ok.eq (v_neL2 (o := true) (p := false) (b := false) (c := false) (A := [sc, o]) (B := [sc, o])) ?_
    rw [decide_eq_true rfl]
    kspl_open wp
    obtain ⟨L, pl, hL⟩ : ∃ L pl, ps = L ++ [pl] := by
      obtain ⟨p, hp, _⟩ := hq0
      rcases List.eq_nil_or_concat ps with e | ⟨L, b, e⟩
      · rw [e] at hp; simp at hp
      · exact ⟨L, b, by rw [e, List.concat_eq_append]⟩
    have hpop : DL.mPop0 (ps.map tupO) [] = some (tupO pl, L.map tupO) := by
      rw [hL]
      unfold DL.mPop0
      rw [if_pos (show ([] : List D).length = 0 from rfl)]
      show ((List.map tupO (L ++ [pl]))[(List.map tupO (L ++ [pl])).length - 1]?).map (fun d => (d, (List.map tupO (L ++ [pl])).dropLast)) = _
      rw [List.map_append, List.length_append]
      simp
    refine Ok.eq (hpop) ?_
    kspl_open wp
    rw [show tupO pl = .tup true [.int pl.1, .lst true (pl.2.map D.int)] from rfl]
    kspl_open wp
    refine Ok.eq (DL.v_mtT (x := .non) (z := .non) (n := 1) (ds := [.int pl.1, .lst true (pl.2.map D.int)]) (es := pl.2.map D.int) (es' := pl.2.map D.int ++ [.non]) (show fC D.non _ = some (D.non, _) from rfl) rfl rfl rfl ?_) ?_
    rotate_left
    · kspl_open wp
      refine Ok.eq (eT) ?_
      kspl_open wp
      rw [frzQ]
      refine Ok.eq (v_eqO) ?_
      kspl_open wp
      kspl_open wp
      exact Ok.some rfl
    · refine if_pos ?_
      obtain ⟨j, hj⟩ := List.mem_iff_getElem?.mp (show pl ∈ ps by rw [hL]; simp)
      have := hl2 pl (List.mem_of_getElem? hj)
      rw [List.length_map, mx_is]
      omega

theorem at_first {ds : List D} {d : D} (h : ds[0]? = some d) : atI ds 0 = some d := by
  have h1 := (List.getElem?_eq_some_iff.mp h).1
  unfold atI
  rw [show ixN ds.length 0 = some 0 by
    unfold ixN
    rw [if_pos (by omega), if_pos (by omega)]
    rfl]
  exact h
theorem at_nat {ds : List D} {d : D} {i : Nat} (h : ds[i]? = some d) : atI ds (i : Nat) = some d := by
  have h1 := (List.getElem?_eq_some_iff.mp h).1
  unfold atI
  rw [show ixN ds.length (i : Nat) = some i by
    unfold ixN
    rw [if_pos (by omega), if_pos (by omega)]
    congr 1]
  exact h
theorem far_left {sc o : List Int} {ps : List (Int × List Int)} (hn : 1 ≤ sc.length) (ho : IsOrd sc.length o) (h : Lbl sc o (fun L => 1 ≤ L) ps) {p : Int × List Int} (hp : ps[ps.length - 1]? = some p) : p.2 = o := by
  have hl := (List.getElem?_eq_some_iff.mp hp).1
  have hp1 : 1 ≤ p.1 := h.mem p (List.mem_of_getElem? hp)
  have hw : ∀ x ∈ o, ∀ y ∈ o, gi sc x - gi sc y < p.1 + (maxL sc - minL sc) + 1 := fun x hx y hy => by
    have rx := ho.mem.mp hx
    have ry := ho.mem.mp hy
    have h1 := maxL_le (gi_mem (o := sc) rx.1 rx.2)
    have h2 := minL_le (gi_mem (o := sc) ry.1 ry.2)
    omega
  have hne : sc ≠ [] := List.length_pos_iff.mp hn
  have hmm := minL_le (maxL_mem hne)
  have h2 := h.cov (ps.length - 1) p (p.1 + (maxL sc - minL sc) + 1) hp (by omega) (by omega) fun q hq => by
    have := (List.getElem?_eq_some_iff.mp hq).1
    omega
  rw [← h2]
  exact (left_wide (by omega) (IsOrd.nd ho) hw).2
theorem zip_rows {sc o : List Int} {ps : List (Int × List Int)} (h : Lbl sc o (fun L => 1 ≤ L) ps) {d : D} (hd : d ∈ List.zipWith DL.pairD (ps.map tupZ) ((ps.map tupZ).drop 1)) : ∃ p q : Int × List Int, d = DL.pairD (tupZ p) (tupZ q) ∧ p.1 < q.1 ∧ p.2 ≠ q.2 := by
  obtain ⟨i, hi⟩ := List.mem_iff_getElem?.mp hd
  rw [List.getElem?_zipWith] at hi
  simp only [List.getElem?_map, List.getElem?_drop] at hi
  cases e1 : ps[i]? with
  | none => rw [e1] at hi; simp at hi
  | some x =>
    cases e2 : ps[1 + i]? with
    | none => rw [e1, e2] at hi; simp at hi
    | some y =>
      rw [e1, e2] at hi
      simp only [Option.map_some, Option.some.injEq] at hi
      rw [Nat.add_comm] at e2
      exact ⟨x, y, hi.symm, h.lt e1 e2 (Nat.lt_succ_self i), h.dif i x y e1 e2⟩
theorem frzZ2 (ps : List (Int × List Int)) : (ps.map tupZ).map D.frz = ps.map tupZ := by rw [← frzO, DL.map_frz_frz]
theorem frzZd (ps : List (Int × List Int)) : ((ps.map tupZ).drop 1).map D.frz = (ps.map tupZ).drop 1 := by rw [List.map_drop, frzZ2]
/-- the first part of a row -/
def fstD : D → Option D
  | .tup _ [.int a, _] => some (.int a)
  | _ => none
theorem fm_fst (ps : List (Int × List Int)) : (ps.map tupZ).filterMap fstD = (ps.map Prod.fst).map D.int := by
  induction ps with
  | nil => rfl
  | cons p r ih => rw [List.map_cons, List.filterMap_cons_some (f := fstD) (b := D.int p.1) rfl, ih]; rfl
/-- where the next lead stands -/
def stopL (ps : List (Int × List Int)) (far : Int) : List Int := (ps.drop 1).map Prod.fst ++ [far]
theorem stop_len {ps : List (Int × List Int)} {far : Int} (h : 0 < ps.length) : (stopL ps far).length = ps.length := by
  unfold stopL
  rw [List.length_append, List.length_map, List.length_drop, List.length_singleton]
  omega
theorem stop_at {sc o : List Int} {ps : List (Int × List Int)} {far : Int} (h : Lbl sc o (fun L => 1 ≤ L) ps) (hf : ∀ p ∈ ps, p.1 < far) {i : Nat} {p : Int × List Int} (hp : ps[i]? = some p) : p.1 < gi (stopL ps far) i ∧ (∀ q, ps[i + 1]? = some q → gi (stopL ps far) i = q.1) ∧ gi (stopL ps far) i ≤ far := by
  have hl := (List.getElem?_eq_some_iff.mp hp).1
  rw [gi_nat (by rw [stop_len (by omega)]; exact hl)]
  have key : ∀ x, (stopL ps far)[i]? = some x → p.1 < x ∧ (∀ q, ps[i + 1]? = some q → x = q.1) ∧ x ≤ far := fun x hx => by
    unfold stopL at hx
    by_cases z : i + 1 < ps.length
    · rw [List.getElem?_append_left (by rw [List.length_map, List.length_drop]; omega), List.getElem?_map, List.getElem?_drop, Nat.add_comm, List.getElem?_eq_getElem z] at hx
      cases hx
      refine ⟨h.lt hp (List.getElem?_eq_getElem z) (Nat.lt_succ_self i), fun q hq => ?_, Int.le_of_lt (hf _ (List.getElem_mem z))⟩
      rw [List.getElem?_eq_getElem z] at hq
      cases hq
      rfl
    · rw [List.getElem?_append_right (by rw [List.length_map, List.length_drop]; omega), List.length_map, List.length_drop, show i - (ps.length - 1) = 0 by omega] at hx
      cases hx
      refine ⟨hf p (List.mem_of_getElem? hp), fun q hq => ?_, Int.le_refl _⟩
      have := (List.getElem?_eq_some_iff.mp hq).1
      omega
  exact key _ (List.getElem?_eq_getElem _)
theorem large_right_wp {u v : Bool} {n : Int} {d : D} {sc o : List Int} (h : Src n d) (hn : 0 ≤ n ∧ n < 1000000000) (hB : ∀ i ∈ sc, -1000000000000000000000000000000000 ≤ i ∧ i ≤ 1000000000000000000000000000000000) (hl : 1 ≤ sc.length ∧ sc.length ≤ 28) (ho : IsOrd sc.length o) : Ok (F__law_large_right [d, .lst u (sc.map D.int), .lst v (o.map D.int)]) (fun r => ∃ d', r = (.bl true, [d']) ∧ d'.full = true) := by
  have hf := h.full
  obtain ⟨_, eT, qs, rfl, hq, hq0, hqm, hqn⟩ := orders_by_lead_wp (u := false) (v := false) hl ho
  have hne : sc ≠ [] := List.length_pos_iff.mp hl.1
  have hmx := hB _ (maxL_mem hne)
  have hmn := hB _ (minL_mem hne)
  have hmm := minL_le (maxL_mem hne)
  obtain ⟨p0, e0, e01⟩ := hq0
  have hz := (List.getElem?_eq_some_iff.mp e0).1
  have hlast : qs[qs.length - 1]? = some qs[qs.length - 1] := List.getElem?_eq_getElem (by omega)
  generalize qs[qs.length - 1] = pl at hlast
  have hpo := far_left hl.1 ho hq hlast
  have hpl1 : 1 ≤ pl.1 := hq.mem pl (List.mem_of_getElem? hlast)
  have hplm := hqm pl (List.mem_of_getElem? hlast)
  unfold F__law_large_right
  kspl_open wp
  refine Ok.eq (eT) ?_
  kspl_open wp
  kspl_open wp
  rw [frzO]
  refine Ok.eq (at_first (ds := qs.map tupZ) (by rw [List.getElem?_map, e0]; rfl)) ?_
  kspl_open wp
  rw [show tupZ p0 = .tup false [.int p0.1, .lst false (p0.2.map D.int)] from rfl]
  kspl_open wp
  rw [frzO]
  refine Ok.eq (at_neg (ds := qs.map tupZ) (by rw [List.length_map, List.getElem?_map, hlast]; rfl)) ?_
  kspl_open wp
  rw [show tupZ pl = .tup false [.int pl.1, .lst false (pl.2.map D.int)] from rfl]
  kspl_open wp
  simp only [hpo]
  kspl_open wp
  refine ok_for (fun i s => ∃ (x4 x5 : Sl), Fr x4 ∧ Fr x5 ∧ s = [.pn d, .va (.lst false (sc.map D.int)), .va (.lst false (o.map D.int)), .va (.lst false (qs.map tupZ)), x4, x5, .no, .no, .no, .no, .no, .no, .no, .no]) (ds := List.zipWith DL.pairD (qs.map tupZ) ((qs.map tupZ).drop 1)) (s1 := [.pn d, .va (.lst false (sc.map D.int)), .va (.lst false (o.map D.int)), .va (.lst false (qs.map tupZ)), .no, .no, .no, .no, .no, .no, .no, .no, .no, .no]) (by
    kspl_open wp
    simp only [frzO, frzZ2]
    kspl_open wp
    simp only [frzO, frzZ2, frzZd]
    generalize (List.drop 1 (List.map tupZ qs)).all D.full = fb
    cases fb <;> kspl_open wp <;> (try simp only [frzZ2])) ⟨_, _, Fr.no, Fr.no, rfl⟩ ?_ ?_
  · rintro i e s he ⟨x4, x5, y4, y5, rfl⟩
    obtain ⟨p, q, rfl, h1, h2⟩ := zip_rows hq (List.mem_of_getElem? he)
    unfold DL.pairD
    rw [show tupZ p = .tup false [.int p.1, .lst false (p.2.map D.int)] from rfl, show tupZ q = .tup false [.int q.1, .lst false (q.2.map D.int)] from rfl]
    kspl_open wp
    rw [if_neg (by simp [h2])]
    exact Ok.some (nxt.nx ⟨_, _, Fr.va, Fr.va, rfl⟩)
  · rintro s ⟨x4, x5, y4, y5, rfl⟩
    kspl_open wp
    simp only [frzO, frzZ2]
    refine Ok.eq (at_neg (ds := qs.map tupZ) (by rw [List.length_map, List.getElem?_map, hlast]; rfl)) ?_
    kspl_open wp
    rw [show tupZ pl = .tup false [.int pl.1, .lst false (pl.2.map D.int)] from rfl]
    kspl_open wp
    obtain ⟨_, e7, k7, d7, rfl, a7, b7, s7, f7⟩ := any_wp h (w := 100000000000000000000) (by omega) (by omega)
    refine Ok.eq (e7) ?_
    kspl_open wp
    have hfar : ∀ p ∈ qs, p.1 < pl.1 + 1 + k7 := fun p hp => by
      obtain ⟨j, hj⟩ := List.mem_iff_getElem?.mp hp
      have hjl := (List.getElem?_eq_some_iff.mp hj).1
      by_cases z : j = qs.length - 1
      · subst z
        rw [hlast] at hj
        cases hj
        omega
      · have := hq.lt hj hlast (by omega)
        omega
    refine ok_lcp fstD (ds := (qs.map tupZ).drop 1) (s1 := [.no, .no, .no, .va (.lst false (qs.map tupZ)), .no, .no, .va (.int (pl.1 + 1 + k7)), .no, .no, .no, .no, .no, .no, .no]) (by
      kspl_open wp
      simp only [frzZ2, frzZd]
      kspl_open wp
      trace_state
      all_goals (try rfl)) (by rw [List.length_drop, List.length_map, mx_is]; omega) (by kspl_open wp) ?_ ?_
    · intro i e he
      rw [List.getElem?_drop, List.getElem?_map, Option.map_eq_some_iff] at he
      obtain ⟨p, hp, rfl⟩ := he
      rw [show tupZ p = .tup false [.int p.1, .lst false (p.2.map D.int)] from rfl]
      kspl_open wp
      exact Ok.some ⟨rfl, by kspl_open wp⟩
    rw [← List.map_drop, fm_fst]
    kspl_open wp
    refine Ok.bind (draw_wp s7 (by omega) (by omega)) ?_
    rintro _ ⟨kq, dq, rfl, aq, bq, sq, fq⟩
    kspl_open wp
    rw [show List.map D.int (List.map Prod.fst (List.drop 1 qs)) ++ [D.int (pl.1 + 1 + k7)] = (stopL qs (pl.1 + 1 + k7)).map D.int by unfold stopL; rw [List.map_append]; rfl]
    try simp only [frzZ2]
    have hle : ∀ L, 1 ≤ L → F__law_left [.int L, .lst false (sc.map D.int), .lst false (o.map D.int)] = some (.lst true ((leftO L sc o).map D.int), []) := fun L hL => left3_eq hL hl.2 ho
    generalize hfa : pl.1 + 1 + k7 = far at *
    have hsl := stop_len (ps := qs) (far := far) hz
    refine ok_for (fun i s => ∃ (d : D) (b : Bool) (x9 x10 x11 x12 : Sl), Fr x9 ∧ Fr x10 ∧ Fr x11 ∧ Fr x12 ∧ Src (n + 10 + 2 * i) d ∧ d.full = true ∧ s = [.pn d, .va (.lst false (sc.map D.int)), .va (.lst false (o.map D.int)), .va (.lst false (qs.map tupZ)), x4, x5, .va (.int far), .va (.lst b ((stopL qs far).map D.int)), .va (.int kq), x9, x10, x11, x12, .no]) (ds := (setI [0, kq, (qs.length : Int) - 1]).map D.int) (by
      kspl_open wp
      rw [show ([D.int 0, D.int kq, D.int ((qs.length : Int) - 1)]) = [0, kq, (qs.length : Int) - 1].map D.int from rfl, DL.v_ssetA (by show 3 ≤ 4000; omega)]
      kspl_open wp
      all_goals (try simp only [frzZ2])
      all_goals (try rfl)) ⟨dq, true, _, _, _, _, Fr.no, Fr.no, Fr.no, Fr.no, sq.mono (by omega), fq, rfl⟩ ?_ ?_
    · rintro i e s he ⟨d1, b, x9, x10, x11, x12, y9, y10, y11, y12, s1, f1, rfl⟩
      obtain ⟨j, hj, rfl, hjm, hji, _⟩ := mint_get he
      rw [mem_setI] at hjm
      have hi3 : i < 3 := by
        have := setI_len [0, kq, (qs.length : Int) - 1]
        have h3 : ([0, kq, (qs.length : Int) - 1] : List Int).length = 3 := rfl
        omega
      have hjb : 0 ≤ j ∧ j < qs.length := by
        simp only [List.mem_cons, List.not_mem_nil, or_false] at hjm
        omega
      obtain ⟨jn, rfl⟩ : ∃ jn : Nat, j = jn := ⟨j.toNat, by omega⟩
      have hp : qs[jn]? = some qs[jn] := List.getElem?_eq_getElem (by omega)
      generalize qs[jn] = p at hp
      obtain ⟨t1, t2, t3⟩ := stop_at (far := far) hq hfar hp
      have hp1 : 1 ≤ p.1 := hq.mem p (List.mem_of_getElem? hp)
      have hpm := hqm p (List.mem_of_getElem? hp)
      have hcov : ∀ c, p.1 ≤ c → c < gi (stopL qs far) jn → leftO c sc o = p.2 := fun c h1 h2 => hq.cov jn p c hp (by omega) h1 fun q hq => by rw [← t2 q hq]; exact h2
      have hat := at_nat (ds := qs.map tupZ) (i := jn) (d := tupZ p) (by rw [List.getElem?_map, hp]; rfl)
      have htz : tupZ p = .tup false [.int p.1, .lst false (p.2.map D.int)] := rfl
      generalize hst : gi (stopL qs far) jn = st at *
      kspl_open wp
      simp only [frzZ2]
      refine Ok.eq (hat) ?_
      kspl_open wp
      rw [htz]
      kspl_open wp
      rw [hst]
      obtain ⟨_, e8, k8, d8, rfl, a8, b8, s8, f8⟩ := any_wp s1 (w := st - p.1) (by omega) (by omega)
      refine ok_for0 (fun z s => ∃ (x12 : Sl), Fr x12 ∧ s = [.pn d8, .va (.lst false (sc.map D.int)), .va (.lst false (o.map D.int)), .va (.lst false (qs.map tupZ)), x4, x5, .va (.int far), .va (.lst b ((stopL qs far).map D.int)), .va (.int kq), .va (.int (jn : Nat)), .va (.int p.1), .va (.int st), x12, .no]) (ds := [p.1, st - 1, p.1 + k8].map D.int) (by
        kspl_open wp
        rw [e8]
        kspl_open wp) ⟨_, y12, rfl⟩ ?_ ?_
      · rintro z e s he ⟨x12, y12, rfl⟩
        obtain ⟨m, _, rfl, hm, _⟩ := mint_get he
        have hmb : p.1 ≤ m ∧ m < st := by
          simp only [List.mem_cons, List.not_mem_nil, or_false] at hm
          omega
        kspl_open wp
        refine Ok.eq (hle m (by omega)) ?_
        kspl_open wp
        simp only [frzZ2]
        refine Ok.eq (hat) ?_
        kspl_open wp
        rw [htz, hcov m hmb.1 hmb.2]
        kspl_open wp
        exact Ok.some (nxt.nx ⟨_, Fr.va, rfl⟩)
      · rintro s ⟨x12, y12, rfl⟩
        exact nxt.nx ⟨d8, b, _, _, _, _, Fr.va, Fr.va, Fr.va, y12, s8.mono (by omega), f8, rfl⟩
    · rintro s ⟨d1, b, x9, x10, x11, x12, y9, y10, y11, y12, s1, f1, rfl⟩
      kspl_open wp
      exact Ok.some ⟨_, rfl, f1⟩

def dueL : List (Int × List Int) := [(1, [3, 1, 2, 0]), (2, [1, 3, 2, 0]), (3, [1, 2, 3, 0]), (5, [1, 0, 2, 3]), (6, [0, 1, 2, 3])]
theorem due_lbl : Lbl [4, 9, 8, 10] [0, 1, 2, 3] (fun L => 1 ≤ L) dueL := by
  refine Lbl.upto (M := 7) (by decide) (by show List.Perm _ _; decide +kernel) (by decide +kernel) (by decide) ⟨by decide, by decide, fun j p c h1 h2 h3 h4 => ?_, fun j p q h1 h2 => ?_⟩
  · rcases j with _ | _ | _ | _ | _ | j
    · cases h1
      have h5 := h4 _ rfl
      simp only at h3 h5
      obtain rfl : c = 1 := by omega
      decide +kernel
    · cases h1
      have h5 := h4 _ rfl
      simp only at h3 h5
      obtain rfl : c = 2 := by omega
      decide +kernel
    · cases h1
      have h5 := h4 _ rfl
      simp only at h3 h5
      rcases (by omega : c = 3 ∨ c = 4) with rfl | rfl <;> decide +kernel
    · cases h1
      have h5 := h4 _ rfl
      simp only at h3 h5
      obtain rfl : c = 5 := by omega
      decide +kernel
    · cases h1
      simp only at h3
      rcases (by omega : c = 6 ∨ c = 7) with rfl | rfl <;> decide +kernel
    · simp [dueL] at h1
  · rcases j with _ | _ | _ | _ | _ | j
    · cases h1; cases h2; decide
    · cases h1; cases h2; decide
    · cases h1; cases h2; decide
    · cases h1; cases h2; decide
    · simp [dueL] at h2
    · simp [dueL] at h1
theorem one_lbl : Lbl [7] [0] (fun L => 1 ≤ L) [(1, [0])] := by
  refine Lbl.upto (M := 1) (by decide) (by show List.Perm _ _; decide +kernel) (by decide +kernel) (by decide) ⟨by decide, by decide, fun j p c h1 h2 h3 h4 => ?_, fun j p q h1 h2 => ?_⟩
  · rcases j with _ | j
    · cases h1
      obtain rfl : c = 1 := by omega
      decide +kernel
    · simp at h1
  · simp at h2
theorem v_eqOO {o p : Bool} {ps : List (Int × List Int)} : dEqA (.lst o (ps.map tupO)) (.lst p (ps.map tupO)) = some (.bl true) := by
  have hs2 : ∀ o, (D.lst o (ps.map tupO)).shp = true := fun o => by unfold D.shp; rw [py_O (p := p)]; exact shp_Z
  rw [v_eqL ⟨hs2 o, hs2 p⟩]
  unfold D.eqv
  rw [py_O (p := p), py_O (o := p) (p := p), SeqAt.eqv_refl _ (by rw [D.py, PyData.canLay0]; exact (lay_Z ps).1)]
theorem orders_a : F_orders_by_lead [.lst true [.int 4, .int 9, .int 8, .int 10], .lst true [.int 0, .int 1, .int 2, .int 3]] = some (.lst true (dueL.map tupO), []) := by
  obtain ⟨_, e, ps, rfl, h, h0, _⟩ := orders_by_lead_wp (u := true) (v := true) (sc := [4, 9, 8, 10]) (o := [0, 1, 2, 3]) (by decide) (by show List.Perm _ _; decide +kernel)
  rw [h.uniq due_lbl h0 ⟨_, rfl, rfl⟩] at e
  exact e
theorem orders_b : F_orders_by_lead [.lst true [.int 7], .lst true [.int 0]] = some (.lst true ([((1 : Int), [(0 : Int)])].map tupO), []) := by
  obtain ⟨_, e, ps, rfl, h, h0, _⟩ := orders_by_lead_wp (u := true) (v := true) (sc := [7]) (o := [0]) (by decide) (by show List.Perm _ _; decide +kernel)
  rw [h.uniq one_lbl h0 ⟨_, rfl, rfl⟩] at e
  exact e
theorem law_true : ∀ ns : List Int, ns.length ≤ 63 → F_law [.lst false (ns.map D.int)] = some (.bl true, []) := by
  intro sp hl
  refine Ok.is ?_
  unfold F_law
  kspl_open wp
  refine ok_for (fun i s => ∃ x1 x2 x3 x4 x5 x6 x7, Fr x1 ∧ Fr x2 ∧ Fr x3 ∧ Fr x4 ∧ Fr x5 ∧ Fr x6 ∧ Fr x7 ∧ s = [.va (.lst false (sp.map D.int)), x1, x2, x3, x4, x5, x6, x7, .no, .no]) (by kspl_open wp; rfl) ⟨_, _, _, _, _, _, _, Fr.no, Fr.no, Fr.no, Fr.no, Fr.no, Fr.no, Fr.no, rfl⟩ ?_ ?_
  · rintro i e s he ⟨x1, x2, x3, x4, x5, x6, x7, y1, y2, y3, y4, y5, y6, y7, rfl⟩
    obtain ⟨rfl, hi⟩ := rgD_get he
    have hi2 : i < 4 := by revert hi; split <;> split <;> omega
    kspl_open wp
    refine Ok.bind (source_wp (by omega)) ?_
    rintro _ ⟨d0, rfl, s0, f0⟩
    kspl_open wp
    refine ok_for (fun j s => ∃ d x3 x4 x5 x6 x7, Fr x3 ∧ Fr x4 ∧ Fr x5 ∧ Fr x6 ∧ Fr x7 ∧ s = [.va (.lst false (sp.map D.int)), .va (.int (0 + (i : Nat))), .va d, x3, x4, x5, x6, x7, .no, .no] ∧ Src (1000 * j) d ∧ d.full = true) (by kspl_open wp; rfl) ⟨d0, _, _, _, _, _, y3, y4, y5, y6, y7, rfl, s0.mono (by omega), f0⟩ ?_ ?_
    · rintro j e s he ⟨d1, x3, x4, x5, x6, x7, y3, y4, y5, y6, y7, rfl, s1, f1⟩
      obtain ⟨rfl, hj⟩ := rgD_get he
      have hj2 : j < 2 := by omega
      kspl_open wp
      refine Ok.bind (many_wp s1 (by omega) (by omega)) ?_
      rintro _ ⟨many, d2, rfl, hm, s2, f2⟩
      kspl_open wp
      refine Ok.bind (draw_wp s2 (by omega) (by omega)) ?_
      rintro _ ⟨kw, dw, rfl, aw, bw, sw, fw⟩
      kspl_open wp
      obtain ⟨wide, ew, hw0, hw1⟩ := pickI (lo := 4) (hi := 30) (ds := [.int 4, .int 12, .int 30]) ⟨isI_of (by omega), isI_of (by omega), isI_of (by omega), trivial⟩ (k := kw) (by show _ ∧ _ < (3 : Int); omega)
      refine Ok.eq (ew) ?_
      kspl_open wp
      refine ok_lc (fun z acc s => ∃ (d : D) (ns : List Int), acc = ns.map D.int ∧ ns.length = z ∧ (∀ x ∈ ns, -100 ≤ x ∧ x ≤ 100) ∧ s = [.no, .no, .va d, .no, .va (.int many), .va (.int wide), .no, .no, .no, .no] ∧ Src (1000 * j + 20 + z) d ∧ d.full = true) (by kspl_open wp; rfl) (by rw [rgD_len, mx_is]; omega) ⟨dw, [], rfl, rfl, by simp, by kspl_open wp, sw.mono (by omega), fw⟩ ?_ ?_
      · rintro z e acc s he ⟨d2, ns, rfl, hz, hb, rfl, s2, f2⟩
        obtain ⟨rfl, hlt⟩ := rgD_get he
        kspl_open wp
        refine Ok.bind (draw_wp s2 (by omega) (by omega)) ?_
        rintro _ ⟨kq, dq, rfl, aq, bq, sq, fq⟩
        kspl_open wp
        refine Ok.some ⟨dq, ns ++ [kq - 3], by rw [List.map_append]; rfl, by simp [hz], fun x hx => ?_, by kspl_open wp, sq.mono (by omega), fq⟩
        rcases List.mem_append.mp hx with hx | hx
        · exact hb x hx
        · rw [List.mem_singleton.mp hx]; omega
      rintro acc s ⟨d3, sc, rfl, hz, hb, rfl, s3, f3⟩
      rw [rgD_len] at hz s3
      have hl2 : 1 ≤ sc.length ∧ sc.length ≤ 28 := by omega
      have hmn : many = (sc.length : Nat) := by omega
      subst hmn
      kspl_open wp
      refine Ok.bind (line_wp s3 (by omega) (by omega)) ?_
      rintro _ ⟨o, d4, rfl, ho, s4, f4⟩
      rw [Int.toNat_natCast] at ho
      kspl_open wp
      refine Ok.eq (small_right_eq hl2 hb ho) ?_
      kspl_open wp
      refine Ok.eq (small_right_eq (sc := sc.reverse) (by rw [List.length_reverse]; exact hl2) (fun i hi => hb i (List.mem_reverse.mp hi)) (by rw [List.length_reverse]; exact ho)) ?_
      kspl_open wp
      exact Ok.some (nxt.nx ⟨_, _, _, _, _, _, Fr.va, Fr.va, Fr.va, Fr.va, Fr.va, rfl, s4.mono (by omega), f4⟩)
    · rintro s ⟨d1, x3, x4, x5, x6, x7, y3, y4, y5, y6, y7, rfl, s1, f1⟩
      rw [rgD_len] at s1
      kspl_open wp
      obtain ⟨mo, em, hm0, hm1⟩ := pickI (lo := 14) (hi := 28) (ds := [.int 28, .int 14]) ⟨isI_of (by omega), isI_of (by omega), trivial⟩ (k := if 1 < 0 + (i : Int) then 1 else 0 + (i : Int)) (by split <;> (show _ ∧ _ < (2 : Int); omega))
      refine Ok.eq (em) ?_
      kspl_open wp
      refine Ok.bind (many_wp s1 (by omega) (by omega)) ?_
      rintro _ ⟨many, d3, rfl, hm, s3, f3⟩
      kspl_open wp
      refine Ok.bind (margin_wp s3 (by omega)) ?_
      rintro _ ⟨g, d4, rfl, hg, s4, f4⟩
      kspl_open wp
      refine Ok.bind (tallies_wp s4 (by omega) hg (by omega)) ?_
      rintro _ ⟨sc, d5, rfl, hsl, hsb, s5, f5⟩
      have hl2 : 1 ≤ sc.length ∧ sc.length ≤ 28 := by omega
      subst hsl
      kspl_open wp
      refine Ok.bind (line_wp s5 (by omega) (by omega)) ?_
      rintro _ ⟨o, d6, rfl, ho, s6, f6⟩
      rw [Int.toNat_natCast] at ho
      kspl_open wp
      refine Ok.bind (large_right_wp s6 (by omega) (fun i hi => by have := hsb i hi; unfold Sm at this; omega) hl2 ho) ?_
      rintro _ ⟨d7, rfl, f7⟩
      kspl_open wp
      exact Ok.some (nxt.nx ⟨_, _, _, _, _, _, _, Fr.va, Fr.va, y3, Fr.va, y5, y6, y7, rfl⟩)
  · rintro s ⟨x1, x2, x3, x4, x5, x6, x7, y1, y2, y3, y4, y5, y6, y7, rfl⟩
    kspl_open wp
    refine Ok.eq (orders_a) ?_
    kspl_open wp
    refine Ok.eq (v_eqO (o := true) (p := false) (ps := dueL)) ?_
    kspl_open wp
    refine Ok.eq (orders_b) ?_
    kspl_open wp
    refine Ok.eq (v_eqOO (o := true) (p := true) (ps := [((1 : Int), [(0 : Int)])])) ?_
    kspl_open wp
    exact Ok.some rfl

def top (i : Nat) : Stmt := PySem.Challenge.pw_leadboard_k45_orders_by_lead.main.body.getD i (.Pass ⟨0, 0, 0, 0⟩)
abbrev s_is_integer : Stmt := top 6
abbrev s_is_scores : Stmt := top 7
abbrev s_check_scores : Stmt := top 8
abbrev s_holds_all : Stmt := top 9
abbrev s_check_order : Stmt := top 10
abbrev s_outleads : Stmt := top 11
abbrev s_rise_of : Stmt := top 12
abbrev s_left_order : Stmt := top 13
abbrev s_left_by_lead : Stmt := top 15
abbrev s_orders_by_lead : Stmt := top 16
abbrev s__law_open_source : Stmt := top 18
abbrev s__law_draw : Stmt := top 19
abbrev s__law_same : Stmt := top 20
abbrev s__law_any : Stmt := top 21
abbrev s__law_many : Stmt := top 22
abbrev s__law_tallies : Stmt := top 23
abbrev s__law_margin : Stmt := top 24
abbrev s__law_line : Stmt := top 25
abbrev s__law_wrong : Stmt := top 26
abbrev s__law_left : Stmt := top 27
abbrev s__law_small_right : Stmt := top 28
abbrev s__law_large_right : Stmt := top 29
abbrev s_law : Stmt := top 30
structure Bn (mg : Str → Option Value) : Prop where
  b_isinstance : mg "isinstance" = none
  b_bool : mg "bool" = none
  b_int : mg "int" = none
  b_all : mg "all" = none
  b_list : mg "list" = none
  b_len : mg "len" = none
  b_sorted : mg "sorted" = none
  b_range : mg "range" = none
  b_set : mg "set" = none
  b_max : mg "max" = none
  b_tuple : mg "tuple" = none
  b_str : mg "str" = none
  b_zip : mg "zip" = none
  b_min : mg "min" = none
  b_enumerate : mg "enumerate" = none
  c_MOST_ENTRIES : ∃ t, mg "MOST_ENTRIES" = some (.int 28 t)
section
variable {P : Program} {w : World} {K : PySem.W.Frag} {mg : Str → Option Value} {base : Heap}
theorem fn0 {CX : CXT} {k : Nat} {f : Addr} {fd : FuncData} {ps : List Str} {io : List Bool} : FnG P w K mg base CX k f fd ps (spD K io (fun _ => none)) := ⟨(by rintro vs H Q E ⟨F, R, ds, C, r, outs, h1, _, _, e, _⟩; exact absurd e (by simp)), (by intro A outer s H args us vs Q E _ _ _ _ h; obtain ⟨F, R, ds, C, r, outs, h1, _, _, e, _⟩ := h; exact absurd e (by simp))⟩
theorem sc__law_open_source : FnScope ["script", "k", "cell"] ["script", "k"] (defScope s__law_open_source) := ⟨rfl, rfl, rfl, by decide +kernel, rfl, by decide +kernel, by decide +kernel⟩
theorem okG__law_open_source {f : Addr} {fd : FuncData} (F : Fun K "_law_open_source" "_law_open_source" s__law_open_source f fd) (T : Bn mg)  : FnG P w K mg base CX0 1 f fd ["script", "k"] (spD K [false, false] F__law_open_source) := by
  unfold F__law_open_source
  rw [DL.wax_is]
  refine okD F sc__law_open_source rfl rfl (fun cdv A outer s H E hr => ?_)
  exact (b_cons (s_set (i := 2) sc__law_open_source.nd rfl (Or.inl rfl) (e_c pe_int fun _ => .int _))
      (b_cons (s_if (t_cmp op_lt d_lt (e_var (pv 1)) (e_cB d_lenA (c_lenA (K := K) rfl) (by rfl) T.b_len (by decide +kernel) (a_cons (e_var (pv 0)) a_nil)) (nomark _)) (b_one (s_set (i := 2) sc__law_open_source.nd rfl (Or.inl rfl) (e_ix (ix_A (K := K) rfl) d_ixA (e_var (pv 0)) (e_var (pv 1)) (fun _ _ => rfl)))) b_nil)
      (b_one (s_ret (e_lst (a_cons (e_sc [0, 0, 1] (e_cB d_max2 (c_max2 rfl) (by rfl) T.b_max (by decide +kernel) (a_cons (e_c pe_int fun _ => .int _) (a_cons (e_op op_sub d_sub (e_var (pv 2)) (e_c (pe_powC (pe_int) (pe_int) (midp (by decide)) (v := 1000000000000000000) (by decide)) fun _ => .int _)) a_nil)))) (a_cons (e_sc [0, 1, 1] (e_op (op_addA (K := K) rfl) d_addA (e_op (op_mulA (K := K) rfl) d_mulA (e_op op_mod d_mod (e_var (pv 2)) (e_c (pe_addC (pe_powC (pe_int) (pe_int) (midp (by decide)) (v := 1000000000000000000000000000000000000000000000000000000000000) (by decide)) (pe_int) (v := 1000000000000000000000000000000000000000000000000000000000007) (by decide)) fun _ => .int _)) (e_c pe_int fun _ => .int _)) (e_op op_mod d_mod (e_var (pv 1)) (e_c pe_int fun _ => .int _)))) (a_cons (e_c pe_int fun _ => .int _) a_nil))))))))
theorem ok__law_open_source {f : Addr} {fd : FuncData} (F : Fun K "_law_open_source" "_law_open_source" s__law_open_source f fd) (gm : mg "_law_open_source" = some (.ref f)) (T : Bn mg)  : Has P w K mg base CX0 "_law_open_source" ["script", "k"] 1 (spD K [false, false] F__law_open_source) := has_of F (okG__law_open_source F T ) gm (fun _ _ _ _ _ _ us hl => match us, hl with | [_, _], _ => rfl)
theorem sc__law_draw : FnScope ["source", "limit", "digit", "mixed"] ["source", "limit"] (defScope s__law_draw) := ⟨rfl, rfl, rfl, by decide +kernel, rfl, by decide +kernel, by decide +kernel⟩
theorem okG__law_draw {f : Addr} {fd : FuncData} (F : Fun K "_law_draw" "_law_draw" s__law_draw f fd) (T : Bn mg)  : FnG P w K mg base CX0 1 f fd ["source", "limit"] (spD K [true, false] F__law_draw) := by
  unfold F__law_draw
  rw [DL.wax_is]
  refine okD F sc__law_draw rfl rfl (fun cdv A outer s H E hr => ?_)
  exact (b_cons (s_if (t_sc [1, 0, 0, 0] (t_cmp op_gt d_gt (e_ix (ix_A (K := K) rfl) d_ixA (e_var (pv 0)) (e_c pe_int fun _ => .int _) (fun _ _ => rfl)) (e_c pe_int fun _ => .int _) (nomark _))) (b_cons (s_set (i := 2) sc__law_draw.nd rfl (Or.inl rfl) (e_sc [1, 1, 0, 0] (e_op op_mod d_mod (e_ix (ix_A (K := K) rfl) d_ixA (e_var (pv 0)) (e_c pe_int fun _ => .int _) (fun _ _ => rfl)) (e_var (pv 1)))))
      (b_cons (s_store (j := 0) (e_sc [1, 1, 0, 0] (e_op op_fdivM d_fdiv (e_ix (ix_A (K := K) rfl) d_ixA (e_var (pv 0)) (e_c pe_int fun _ => .int _) (fun _ _ => rfl)) (e_var (pv 1)))) (pg_sub (pv 0) (e_c pe_int fun _ => .int _) set_list))
      (b_one (s_ret (e_var (pv 2)))))) b_nil)
      (b_cons (s_store (j := 0) (e_sc [1, 0, 0, 0] (e_op (op_addA (K := K) rfl) d_addA (e_ix (ix_A (K := K) rfl) d_ixA (e_var (pv 0)) (e_c pe_int fun _ => .int _) (fun _ _ => rfl)) (e_c pe_int fun _ => .int _))) (pg_sub (pv 0) (e_c pe_int fun _ => .int _) set_list))
      (b_cons (s_set (i := 3) sc__law_draw.nd rfl (Or.inl rfl) (e_sc [1, 0, 0, 0] (e_op op_mod d_mod (e_op op_powM d_pow (e_op (op_addA (K := K) rfl) d_addA (e_op (op_addA (K := K) rfl) d_addA (e_ix (ix_A (K := K) rfl) d_ixA (e_var (pv 0)) (e_c pe_int fun _ => .int _) (fun _ _ => rfl)) (e_op (op_mulA (K := K) rfl) d_mulA (e_op (op_mulA (K := K) rfl) d_mulA (e_c pe_int fun _ => .int _) (e_ix (ix_A (K := K) rfl) d_ixA (e_var (pv 0)) (e_c pe_int fun _ => .int _) (fun _ _ => rfl))) (e_ix (ix_A (K := K) rfl) d_ixA (e_var (pv 0)) (e_c pe_int fun _ => .int _) (fun _ _ => rfl)))) (e_c pe_int fun _ => .int _)) (e_c pe_int fun _ => .int _)) (e_c pe_int fun _ => .int _))))
      (b_cons (s_set (i := 3) sc__law_draw.nd rfl (Or.inl rfl) (e_sc [1, 0, 0, 1] (e_op op_mod d_mod (e_op op_powM d_pow (e_op (op_addA (K := K) rfl) d_addA (e_var (pv 3)) (e_op (op_mulA (K := K) rfl) d_mulA (e_c pe_int fun _ => .int _) (e_ix (ix_A (K := K) rfl) d_ixA (e_var (pv 0)) (e_c pe_int fun _ => .int _) (fun _ _ => rfl)))) (e_c pe_int fun _ => .int _)) (e_c pe_int fun _ => .int _))))
      (b_one (s_ret (e_op op_mod d_mod (e_op op_fdivM d_fdiv (e_var (pv 3)) (e_c pe_int fun _ => .int _)) (e_var (pv 1)))))))))
theorem ok__law_draw {f : Addr} {fd : FuncData} (F : Fun K "_law_draw" "_law_draw" s__law_draw f fd) (gm : mg "_law_draw" = some (.ref f)) (T : Bn mg)  : Has P w K mg base CX0 "_law_draw" ["source", "limit"] 1 (spD K [true, false] F__law_draw) := has_of F (okG__law_draw F T ) gm (fun _ _ _ _ _ _ us hl => match us, hl with | [_, _], _ => rfl)
theorem sc__law_many : FnScope ["source", "script", "most"] ["source", "script", "most"] (defScope s__law_many) := ⟨rfl, rfl, rfl, by decide +kernel, rfl, by decide +kernel, by decide +kernel⟩
theorem okG__law_many {f : Addr} {fd : FuncData} (F : Fun K "_law_many" "_law_many" s__law_many f fd) (T : Bn mg) (h__law_draw : Has P w K mg base CX0 "_law_draw" ["source", "limit"] 1 (spD K [true, false] F__law_draw)) : FnG P w K mg base CX0 2 f fd ["source", "script", "most"] (spD K [true, false, false] F__law_many) := by
  unfold F__law_many
  rw [DL.wax_is]
  refine okD F sc__law_many rfl rfl (fun cdv A outer s H E hr => ?_)
  exact (b_cons (s_if (t_cmp (op_eqA (K := K) rfl hr.u64) d_eqA (e_var (pv 1)) (e_lst a_nil) (nomark _)) (b_one (s_ret (e_cB d_min2 (c_min2 rfl) (by rfl) T.b_min (by decide +kernel) (a_cons (e_c pe_int fun _ => .int _) (a_cons (e_var (pv 2)) a_nil))))) b_nil)
      (b_one (s_ret (e_ix (ix_A (K := K) rfl) d_ixA (e_lst (a_cons (e_op (op_addA (K := K) rfl) d_addA (e_c pe_int fun _ => .int _) (e_call h__law_draw (hr.mono (by decide)) (by rfl) (a_io (i := 0) (pv 0) (a_cons (e_var (pv 2)) a_nil)))) (a_cons (e_var (pv 2)) (a_cons (e_op (op_addA (K := K) rfl) d_addA (e_c pe_int fun _ => .int _) (e_call h__law_draw (hr.mono (by decide)) (by rfl) (a_io (i := 0) (pv 0) (a_cons (e_cB d_min2 (c_min2 rfl) (by rfl) T.b_min (by decide +kernel) (a_cons (e_c pe_int fun _ => .int _) (a_cons (e_var (pv 2)) a_nil))) a_nil)))) a_nil)))) (e_call h__law_draw (hr.mono (by decide)) (by rfl) (a_io (i := 0) (pv 0) (a_cons (e_c pe_int fun _ => .int _) a_nil))) (fun _ _ => rfl)))))
theorem ok__law_many {f : Addr} {fd : FuncData} (F : Fun K "_law_many" "_law_many" s__law_many f fd) (gm : mg "_law_many" = some (.ref f)) (T : Bn mg) (h__law_draw : Has P w K mg base CX0 "_law_draw" ["source", "limit"] 1 (spD K [true, false] F__law_draw)) : Has P w K mg base CX0 "_law_many" ["source", "script", "most"] 2 (spD K [true, false, false] F__law_many) := has_of F (okG__law_many F T h__law_draw) gm (fun _ _ _ _ _ _ us hl => match us, hl with | [_, _, _], _ => rfl)
theorem sc_is_integer : FnScope ["value", "least", "most"] ["value", "least", "most"] (defScope s_is_integer) := ⟨rfl, rfl, rfl, by decide +kernel, rfl, by decide +kernel, by decide +kernel⟩
theorem okG_is_integer {f : Addr} {fd : FuncData} (F : Fun K "is_integer" "is_integer" s_is_integer f fd) (T : Bn mg)  : FnG P w K mg base CX0 1 f fd ["value", "least", "most"] (spD K [false, false, false] F_is_integer) := by
  unfold F_is_integer
  rw [DL.wax_is]
  refine okD F sc_is_integer rfl rfl (fun cdv A outer s H E hr => ?_)
  exact (b_cons (s_if (PW.pt (t_or (t_not (e_test (e_cB d_isiA (c_isiA (K := K) rfl) (by rfl) T.b_isinstance (by decide +kernel) (a_cons (e_var (pv 0)) (a_cons (e_c (pe_bltn (v := .ty "int") rfl T.b_int (by decide +kernel) rfl) fun _ => .ty _) a_nil))))) (pw_or1 (e_test (e_cB d_isiA (c_isiA (K := K) rfl) (by rfl) T.b_isinstance (by decide +kernel) (a_cons (e_var (pv 0)) (a_cons (e_c (pe_bltn (v := .ty "bool") rfl T.b_bool (by decide +kernel) rfl) fun _ => .ty _) a_nil))))))) (b_one (s_ret (e_c pe_bl fun _ => .bl _))) b_nil)
      (b_one (s_ret (e_and (e_or (e_cmp op_isN d_isN (e_var (pv 1)) (e_c pe_non fun _ => .non) (nomark _)) (pe_one (e_cmp op_le d_le (e_var (pv 1)) (e_var (pv 0)) (nomark _)))) (pe_one (e_or (e_cmp op_isN d_isN (e_var (pv 2)) (e_c pe_non fun _ => .non) (nomark _)) (pe_one (e_cmp op_le d_le (e_var (pv 0)) (e_var (pv 2)) (nomark _)))))))))
theorem ok_is_integer {f : Addr} {fd : FuncData} (F : Fun K "is_integer" "is_integer" s_is_integer f fd) (gm : mg "is_integer" = some (.ref f)) (T : Bn mg)  : Has P w K mg base CX0 "is_integer" ["value", "least", "most"] 1 (spD K [false, false, false] F_is_integer) := has_of F (okG_is_integer F T ) gm (fun _ _ _ _ _ _ us hl => match us, hl with | [_, _, _], _ => rfl)
theorem sc_is_scores : FnScope ["value", "score"] ["value"] (defScope s_is_scores) := ⟨rfl, rfl, rfl, by decide +kernel, rfl, by decide +kernel, by decide +kernel⟩
theorem okG_is_scores {f : Addr} {fd : FuncData} (F : Fun K "is_scores" "is_scores" s_is_scores f fd) (T : Bn mg) (h_is_integer : Has P w K mg base CX0 "is_integer" ["value", "least", "most"] 1 (spD K [false, false, false] F_is_integer)) : FnG P w K mg base CX0 2 f fd ["value"] (spD K [false] F_is_scores) := by
  unfold F_is_scores
  rw [DL.wax_is]
  refine okD F sc_is_scores rfl rfl (fun cdv A outer s H E hr => ?_)
  exact (b_cons (s_if (PW.pt (t_or (t_not (e_test (e_cB d_isiA (c_isiA (K := K) rfl) (by rfl) T.b_isinstance (by decide +kernel) (a_cons (e_var (pv 0)) (a_cons (e_c (pe_bltn (v := .ty "list") rfl T.b_list (by decide +kernel) rfl) fun _ => .ty _) a_nil))))) (pw_or1 (t_not (t_chain op_le op_le d_le d_le (e_c pe_int fun _ => .int _) (e_cB d_lenA (c_lenA (K := K) rfl) (by rfl) T.b_len (by decide +kernel) (a_cons (e_var (pv 0)) a_nil)) (e_c (pe_globI rfl T.c_MOST_ENTRIES) fun _ => .int _)))))) (b_one (s_ret (e_c pe_bl fun _ => .bl _))) b_nil)
      (b_one (s_ret (e_cB d_all (k_all (K := K) rfl rfl) (by rfl) T.b_all (by decide +kernel) (a_cons (e_zlc (e_lc (own := [("score", 1)]) (vs := [1]) rfl (by decide) (by rfl) sc_is_scores.nd (i_A (K := K) rfl (e_var (pv 0))) (blkOk_by (own := [("score", 1)]) (N := ["value", "score"]) (sc := defScope s_is_scores) (by decide +kernel)) (fun _ _ _ _ _ => (g_name (pg_name (i := 1) sc_is_scores.nd rfl (Or.inl rfl)))) (fun _ _ _ _ _ => l_nil) (fun _ _ _ _ _ => (e_call h_is_integer (hr.mono (by decide)) (by rfl) (a_cons (e_var (pv 1)) (a_cons (e_c pe_non fun _ => .non) (a_cons (e_c pe_non fun _ => .non) a_nil))))))) a_nil)))))
theorem ok_is_scores {f : Addr} {fd : FuncData} (F : Fun K "is_scores" "is_scores" s_is_scores f fd) (gm : mg "is_scores" = some (.ref f)) (T : Bn mg) (h_is_integer : Has P w K mg base CX0 "is_integer" ["value", "least", "most"] 1 (spD K [false, false, false] F_is_integer)) : Has P w K mg base CX0 "is_scores" ["value"] 2 (spD K [false] F_is_scores) := has_of F (okG_is_scores F T h_is_integer) gm (fun _ _ _ _ _ _ us hl => match us, hl with | [_], _ => rfl)
theorem sc_check_scores : FnScope ["scores"] ["scores"] (defScope s_check_scores) := ⟨rfl, rfl, rfl, by decide +kernel, rfl, by decide +kernel, by decide +kernel⟩
theorem okG_check_scores {f : Addr} {fd : FuncData} (F : Fun K "check_scores" "check_scores" s_check_scores f fd) (T : Bn mg) (h_is_scores : Has P w K mg base CX0 "is_scores" ["value"] 2 (spD K [false] F_is_scores)) : FnG P w K mg base CX0 3 f fd ["scores"] (spD K [false] F_check_scores) := by
  unfold F_check_scores
  rw [DL.wax_is]
  refine okD F sc_check_scores rfl rfl (fun cdv A outer s H E hr => ?_)
  exact (b_one (s_if (t_not (e_test (e_call h_is_scores (hr.mono (by decide)) (by rfl) (a_cons (e_var (pv 0)) a_nil)))) (b_one s_never) b_nil))
theorem ok_check_scores {f : Addr} {fd : FuncData} (F : Fun K "check_scores" "check_scores" s_check_scores f fd) (gm : mg "check_scores" = some (.ref f)) (T : Bn mg) (h_is_scores : Has P w K mg base CX0 "is_scores" ["value"] 2 (spD K [false] F_is_scores)) : Has P w K mg base CX0 "check_scores" ["scores"] 3 (spD K [false] F_check_scores) := has_of F (okG_check_scores F T h_is_scores) gm (fun _ _ _ _ _ _ us hl => match us, hl with | [_], _ => rfl)
theorem sc_holds_all : FnScope ["scores", "value", "entry"] ["scores", "value"] (defScope s_holds_all) := ⟨rfl, rfl, rfl, by decide +kernel, rfl, by decide +kernel, by decide +kernel⟩
theorem okG_holds_all {f : Addr} {fd : FuncData} (F : Fun K "holds_all" "holds_all" s_holds_all f fd) (T : Bn mg) (h_is_integer : Has P w K mg base CX0 "is_integer" ["value", "least", "most"] 1 (spD K [false, false, false] F_is_integer)) : FnG P w K mg base CX0 2 f fd ["scores", "value"] (spD K [false, false] F_holds_all) := by
  unfold F_holds_all
  rw [DL.wax_is]
  refine okD F sc_holds_all rfl rfl (fun cdv A outer s H E hr => ?_)
  exact (b_cons (s_if (PW.pt (t_or (t_not (e_test (e_cB d_isiA (c_isiA (K := K) rfl) (by rfl) T.b_isinstance (by decide +kernel) (a_cons (e_var (pv 1)) (a_cons (e_c (pe_bltn (v := .ty "list") rfl T.b_list (by decide +kernel) rfl) fun _ => .ty _) a_nil))))) (pw_or1 (t_cmp (op_neA (K := K) rfl hr.u64) d_neA (e_cB d_lenA (c_lenA (K := K) rfl) (by rfl) T.b_len (by decide +kernel) (a_cons (e_var (pv 1)) a_nil)) (e_cB d_lenA (c_lenA (K := K) rfl) (by rfl) T.b_len (by decide +kernel) (a_cons (e_var (pv 0)) a_nil)) (nomark _))))) (b_one (s_ret (e_c pe_bl fun _ => .bl _))) b_nil)
      (b_one (s_ret (e_and (e_cB d_all (k_all (K := K) rfl rfl) (by rfl) T.b_all (by decide +kernel) (a_cons (e_zlc (e_lc (own := [("entry", 2)]) (vs := [2]) rfl (by decide) (by rfl) sc_holds_all.nd (i_A (K := K) rfl (e_var (pv 1))) (blkOk_by (own := [("entry", 2)]) (N := ["scores", "value", "entry"]) (sc := defScope s_holds_all) (by decide +kernel)) (fun _ _ _ _ _ => (g_name (pg_name (i := 2) sc_holds_all.nd rfl (Or.inl rfl)))) (fun _ _ _ _ _ => l_nil) (fun _ _ _ _ _ => (e_call h_is_integer (hr.mono (by decide)) (by rfl) (a_cons (e_var (pv 2)) (a_cons (e_c pe_int fun _ => .int _) (a_cons (e_op op_sub d_sub (e_cB d_lenA (c_lenA (K := K) rfl) (by rfl) T.b_len (by decide +kernel) (a_cons (e_var (pv 0)) a_nil)) (e_c pe_int fun _ => .int _)) a_nil))))))) a_nil)) (pe_one (e_cmp (op_eqA (K := K) rfl hr.u64) d_eqA (e_cB d_sortedA (c_sortedA (K := K) rfl) (by rfl) T.b_sorted (by decide +kernel) (a_cons (e_var (pv 1)) a_nil)) (e_rg1 (pe_listRg rfl (by rfl) T.b_list (prg_1 (by rfl) T.b_range (e_cB d_lenA (c_lenA (K := K) rfl) (by rfl) T.b_len (by decide +kernel) (a_cons (e_var (pv 0)) a_nil))))) (nomark _)))))))
theorem ok_holds_all {f : Addr} {fd : FuncData} (F : Fun K "holds_all" "holds_all" s_holds_all f fd) (gm : mg "holds_all" = some (.ref f)) (T : Bn mg) (h_is_integer : Has P w K mg base CX0 "is_integer" ["value", "least", "most"] 1 (spD K [false, false, false] F_is_integer)) : Has P w K mg base CX0 "holds_all" ["scores", "value"] 2 (spD K [false, false] F_holds_all) := has_of F (okG_holds_all F T h_is_integer) gm (fun _ _ _ _ _ _ us hl => match us, hl with | [_, _], _ => rfl)
theorem sc_check_order : FnScope ["scores", "order"] ["scores", "order"] (defScope s_check_order) := ⟨rfl, rfl, rfl, by decide +kernel, rfl, by decide +kernel, by decide +kernel⟩
theorem okG_check_order {f : Addr} {fd : FuncData} (F : Fun K "check_order" "check_order" s_check_order f fd) (T : Bn mg) (h_holds_all : Has P w K mg base CX0 "holds_all" ["scores", "value"] 2 (spD K [false, false] F_holds_all)) : FnG P w K mg base CX0 3 f fd ["scores", "order"] (spD K [false, false] F_check_order) := by
  unfold F_check_order
  rw [DL.wax_is]
  refine okD F sc_check_order rfl rfl (fun cdv A outer s H E hr => ?_)
  exact (b_one (s_if (t_not (e_test (e_call h_holds_all (hr.mono (by decide)) (by rfl) (a_cons (e_var (pv 0)) (a_cons (e_var (pv 1)) a_nil))))) (b_one s_never) b_nil))
theorem ok_check_order {f : Addr} {fd : FuncData} (F : Fun K "check_order" "check_order" s_check_order f fd) (gm : mg "check_order" = some (.ref f)) (T : Bn mg) (h_holds_all : Has P w K mg base CX0 "holds_all" ["scores", "value"] 2 (spD K [false, false] F_holds_all)) : Has P w K mg base CX0 "check_order" ["scores", "order"] 3 (spD K [false, false] F_check_order) := has_of F (okG_check_order F T h_holds_all) gm (fun _ _ _ _ _ _ us hl => match us, hl with | [_, _], _ => rfl)
theorem sc_outleads : FnScope ["lead", "scores", "lower", "upper"] ["lead", "scores", "lower", "upper"] (defScope s_outleads) := ⟨rfl, rfl, rfl, by decide +kernel, rfl, by decide +kernel, by decide +kernel⟩
theorem okG_outleads {f : Addr} {fd : FuncData} (F : Fun K "outleads" "outleads" s_outleads f fd) (T : Bn mg)  : FnG P w K mg base CX0 1 f fd ["lead", "scores", "lower", "upper"] (spD K [false, false, false, false] F_outleads) := by
  unfold F_outleads
  rw [DL.wax_is]
  refine okD F sc_outleads rfl rfl (fun cdv A outer s H E hr => ?_)
  exact (b_one (s_ret (e_cmp op_ge d_ge (e_op op_sub d_sub (e_ix (ix_A (K := K) rfl) d_ixA (e_var (pv 1)) (e_var (pv 2)) (fun _ _ => rfl)) (e_ix (ix_A (K := K) rfl) d_ixA (e_var (pv 1)) (e_var (pv 3)) (fun _ _ => rfl))) (e_var (pv 0)) (nomark _))))
theorem ok_outleads {f : Addr} {fd : FuncData} (F : Fun K "outleads" "outleads" s_outleads f fd) (gm : mg "outleads" = some (.ref f)) (T : Bn mg)  : Has P w K mg base CX0 "outleads" ["lead", "scores", "lower", "upper"] 1 (spD K [false, false, false, false] F_outleads) := has_of F (okG_outleads F T ) gm (fun _ _ _ _ _ _ us hl => match us, hl with | [_, _, _, _], _ => rfl)
theorem sc_rise_of : FnScope ["lead", "scores", "above", "entry", "place"] ["lead", "scores", "above", "entry"] (defScope s_rise_of) := ⟨rfl, rfl, rfl, by decide +kernel, rfl, by decide +kernel, by decide +kernel⟩
theorem okG_rise_of {f : Addr} {fd : FuncData} (F : Fun K "rise_of" "rise_of" s_rise_of f fd) (T : Bn mg) (h_outleads : Has P w K mg base CX0 "outleads" ["lead", "scores", "lower", "upper"] 1 (spD K [false, false, false, false] F_outleads)) : FnG P w K mg base CX0 2 f fd ["lead", "scores", "above", "entry"] (spD K [false, false, false, false] F_rise_of) := by
  unfold F_rise_of
  rw [DL.wax_is]
  refine okD F sc_rise_of rfl rfl (fun cdv A outer s H E hr => ?_)
  exact (b_cons (s_set (i := 4) sc_rise_of.nd rfl (Or.inl rfl) (e_cB d_lenA (c_lenA (K := K) rfl) (by rfl) T.b_len (by decide +kernel) (a_cons (e_var (pv 2)) a_nil)))
      (b_cons (s_while PassesOwn.never (PW.pt (t_and (t_cmp op_gt d_gt (e_var (pv 4)) (e_c pe_int fun _ => .int _) (nomark _)) (pw_and1 (e_test (e_call h_outleads (hr.mono (by decide)) (by rfl) (a_cons (e_var (pv 0)) (a_cons (e_var (pv 1)) (a_cons (e_var (pv 3)) (a_cons (e_ix (ix_A (K := K) rfl) d_ixA (e_var (pv 2)) (e_op op_sub d_sub (e_var (pv 4)) (e_c pe_int fun _ => .int _)) (fun _ _ => rfl)) a_nil))))))))) (b_one (s_aug (i := 4) sc_rise_of.nd rfl (Or.inl rfl) (e_c pe_int fun _ => .int _) ip_sub p_sub)))
      (b_one (s_ret (e_var (pv 4))))))
theorem ok_rise_of {f : Addr} {fd : FuncData} (F : Fun K "rise_of" "rise_of" s_rise_of f fd) (gm : mg "rise_of" = some (.ref f)) (T : Bn mg) (h_outleads : Has P w K mg base CX0 "outleads" ["lead", "scores", "lower", "upper"] 1 (spD K [false, false, false, false] F_outleads)) : Has P w K mg base CX0 "rise_of" ["lead", "scores", "above", "entry"] 2 (spD K [false, false, false, false] F_rise_of) := has_of F (okG_rise_of F T h_outleads) gm (fun _ _ _ _ _ _ us hl => match us, hl with | [_, _, _, _], _ => rfl)
theorem sc_left_order : FnScope ["lead", "scores", "order", "found", "entry", "place"] ["lead", "scores", "order"] (defScope s_left_order) := ⟨rfl, rfl, rfl, by decide +kernel, rfl, by decide +kernel, by decide +kernel⟩
theorem okG_left_order {f : Addr} {fd : FuncData} (F : Fun K "left_order" "left_order" s_left_order f fd) (T : Bn mg) (h_rise_of : Has P w K mg base CX0 "rise_of" ["lead", "scores", "above", "entry"] 2 (spD K [false, false, false, false] F_rise_of)) : FnG P w K mg base CX0 3 f fd ["lead", "scores", "order"] (spD K [false, false, false] F_left_order) := by
  unfold F_left_order
  rw [DL.wax_is]
  refine okD F sc_left_order rfl rfl (fun cdv A outer s H E hr => ?_)
  exact (b_cons (s_set (i := 3) sc_left_order.nd rfl (Or.inl rfl) (e_lst a_nil))
      (b_cons (s_zfor (s_for PassesOwn.never rfl (i_A (K := K) rfl (e_var (pv 2))) (g_name (pg_name (i := 4) sc_left_order.nd rfl (Or.inl rfl))) (b_cons (s_set (i := 5) sc_left_order.nd rfl (Or.inl rfl) (e_sc [1, 1, 0, 1, 1, 0] (e_call h_rise_of (hr.mono (by decide)) (by rfl) (a_cons (e_var (pv 0)) (a_cons (e_var (pv 1)) (a_cons (e_var (pv 3)) (a_cons (e_var (pv 4)) a_nil)))))))
      (b_one (s_set (i := 3) sc_left_order.nd rfl (Or.inl rfl) (e_sc [0, 0, 0, 1, 1, 1] (e_lst (a_star (K := K) rfl (e_slice (sl_A (K := K) rfl) d_slA (e_var (pv 3)) o_none (o_some (e_var (pv 5)))) (a_cons (e_var (pv 4)) (a_star (K := K) rfl (e_slice (sl_A (K := K) rfl) d_slA (e_var (pv 3)) (o_some (e_var (pv 5))) o_none) a_nil))))))))))
      (b_one (s_ret (e_mv (pv 3))))))
theorem ok_left_order {f : Addr} {fd : FuncData} (F : Fun K "left_order" "left_order" s_left_order f fd) (gm : mg "left_order" = some (.ref f)) (T : Bn mg) (h_rise_of : Has P w K mg base CX0 "rise_of" ["lead", "scores", "above", "entry"] 2 (spD K [false, false, false, false] F_rise_of)) : Has P w K mg base CX0 "left_order" ["lead", "scores", "order"] 3 (spD K [false, false, false] F_left_order) := has_of F (okG_left_order F T h_rise_of) gm (fun _ _ _ _ _ _ us hl => match us, hl with | [_, _, _], _ => rfl)
theorem sc_left_by_lead : FnScope ["scores", "order", "differences", "found", "lead", "left", "one", "two", "number"] ["scores", "order"] (defScope s_left_by_lead) := ⟨rfl, rfl, rfl, by decide +kernel, rfl, by decide +kernel, by decide +kernel⟩
theorem okG_left_by_lead {f : Addr} {fd : FuncData} (F : Fun K "left_by_lead" "left_by_lead" s_left_by_lead f fd) (T : Bn mg) (h_left_order : Has P w K mg base CX0 "left_order" ["lead", "scores", "order"] 3 (spD K [false, false, false] F_left_order)) : FnG P w K mg base CX0 4 f fd ["scores", "order"] (spD K [false, false] F_left_by_lead) := by
  unfold F_left_by_lead
  rw [DL.wax_is]
  refine okD F sc_left_by_lead rfl rfl (fun cdv A outer s H E hr => ?_)
  exact (b_cons (s_zlc2 (s_setLc2 (i := 2) (own := [("one", 6), ("two", 7)]) (vs := [6, 7]) (vs1 := [7]) rfl (by decide) (by decide) (by decide) (by rfl) sc_left_by_lead.nd rfl rfl (sw_true rfl rfl rfl (by decide +kernel)) (i_A (K := K) rfl (e_var (pv 0))) (blkOk_by (own := [("one", 6), ("two", 7)]) (N := ["scores", "order", "differences", "found", "lead", "left", "one", "two", "number"]) (sc := defScope s_left_by_lead) (by decide +kernel)) (fun _ _ _ _ _ => (g_name (pg_name (i := 6) sc_left_by_lead.nd rfl (Or.inl rfl)))) (fun _ _ _ _ _ => l_nil) (fun _ _ _ _ _ => (i_A (K := K) rfl (e_var (pv 0)))) (fun _ _ _ _ _ => (g_name (pg_name (i := 7) sc_left_by_lead.nd rfl (Or.inl rfl)))) (fun _ _ _ _ _ => (l_one (t_cmp op_gt d_gt (e_var (pv 6)) (e_var (pv 7)) (nomark _)))) (fun _ _ _ _ _ => (e_op op_sub d_sub (e_var (pv 6)) (e_var (pv 7)))) [1, 0, 0, 0, 0, 0, 1, 1, 0]))
      (b_cons (s_set (i := 3) sc_left_by_lead.nd rfl (Or.inl rfl) (e_lst a_nil))
      (b_cons (s_zfor (s_for PassesOwn.never rfl (i_A (K := K) rfl (e_sc [0, 0, 1, 0, 0, 0, 0, 0, 1] (e_ssetA (K := K) rfl rfl rfl T.b_sorted rfl T.b_set (e_op (op_addA (K := K) rfl) d_addA (e_lst (a_cons (e_c pe_int fun _ => .int _) a_nil)) (e_zlc (e_lc (own := [("number", 8)]) (vs := [8]) rfl (by decide) (by rfl) sc_left_by_lead.nd (i_A (K := K) rfl (e_var (pv 2))) (blkOk_by (own := [("number", 8)]) (N := ["scores", "order", "differences", "found", "lead", "left", "one", "two", "number"]) (sc := defScope s_left_by_lead) (by decide +kernel)) (fun _ _ _ _ _ => (g_name (pg_name (i := 8) sc_left_by_lead.nd rfl (Or.inl rfl)))) (fun _ _ _ _ _ => l_nil) (fun _ _ _ _ _ => (e_op (op_addA (K := K) rfl) d_addA (e_var (pv 8)) (e_c pe_int fun _ => .int _))))))))) (g_name (pg_name (i := 4) sc_left_by_lead.nd rfl (Or.inl rfl))) (b_cons (s_set (i := 5) sc_left_by_lead.nd rfl (Or.inl rfl) (e_call h_left_order (hr.mono (by decide)) (by rfl) (a_cons (e_var (pv 4)) (a_cons (e_var (pv 0)) (a_cons (e_var (pv 1)) a_nil)))))
      (b_one (s_if (PW.pt (t_or (t_sc [0, 0, 0, 1, 0, 0, 0, 0, 0] (t_cmp (op_eqA (K := K) rfl hr.u64) d_eqA (e_var (pv 3)) (e_lst a_nil) (nomark _))) (pw_or1 (t_sc [0, 0, 0, 1, 0, 1, 0, 0, 0] (t_cmp (op_neA (K := K) rfl hr.u64) d_neA (e_var (pv 5)) (e_ix (ix_A (K := K) rfl) d_ixA (e_ix (ix_A (K := K) rfl) d_ixA (e_var (pv 3)) (e_c (pe_negC (pe_int) (v := -1) rfl) fun _ => .int _) (fun _ _ => rfl)) (e_c pe_int fun _ => .int _) (fun _ _ => rfl)) (nomark _)))))) (b_one (s_expr (e_mt (k_bm (K := K) rfl PySem.F.plainAttrs_list PySem.F.slot_list_append PySem.F.type_list_append mt_append (pv 3) (a_cons (e_tup (a_cons (e_var (pv 4)) (a_cons (e_mv (pv 5)) a_nil))) a_nil)) m_append))) b_nil)))))
      (b_one (s_ret (e_mv (pv 3)))))))
theorem ok_left_by_lead {f : Addr} {fd : FuncData} (F : Fun K "left_by_lead" "left_by_lead" s_left_by_lead f fd) (gm : mg "left_by_lead" = some (.ref f)) (T : Bn mg) (h_left_order : Has P w K mg base CX0 "left_order" ["lead", "scores", "order"] 3 (spD K [false, false, false] F_left_order)) : Has P w K mg base CX0 "left_by_lead" ["scores", "order"] 4 (spD K [false, false] F_left_by_lead) := has_of F (okG_left_by_lead F T h_left_order) gm (fun _ _ _ _ _ _ us hl => match us, hl with | [_, _], _ => rfl)
theorem sc_orders_by_lead : FnScope ["scores", "order"] ["scores", "order"] (defScope s_orders_by_lead) := ⟨rfl, rfl, rfl, by decide +kernel, rfl, by decide +kernel, by decide +kernel⟩
theorem okG_orders_by_lead {f : Addr} {fd : FuncData} (F : Fun K "orders_by_lead" "orders_by_lead" s_orders_by_lead f fd) (T : Bn mg) (h_check_scores : Has P w K mg base CX0 "check_scores" ["scores"] 3 (spD K [false] F_check_scores)) (h_check_order : Has P w K mg base CX0 "check_order" ["scores", "order"] 3 (spD K [false, false] F_check_order)) (h_left_by_lead : Has P w K mg base CX0 "left_by_lead" ["scores", "order"] 4 (spD K [false, false] F_left_by_lead)) : FnG P w K mg base CX0 5 f fd ["scores", "order"] (spD K [false, false] F_orders_by_lead) := by
  unfold F_orders_by_lead
  rw [DL.wax_is]
  refine okD F sc_orders_by_lead rfl rfl (fun cdv A outer s H E hr => ?_)
  exact (b_cons (s_expr (e_call h_check_scores (hr.mono (by decide)) (by rfl) (a_cons (e_var (pv 0)) a_nil)))
      (b_cons (s_expr (e_call h_check_order (hr.mono (by decide)) (by rfl) (a_cons (e_var (pv 0)) (a_cons (e_var (pv 1)) a_nil))))
      (b_one (s_ret (e_call h_left_by_lead (hr.mono (by decide)) (by rfl) (a_cons (e_var (pv 0)) (a_cons (e_var (pv 1)) a_nil)))))))
theorem ok_orders_by_lead {f : Addr} {fd : FuncData} (F : Fun K "orders_by_lead" "orders_by_lead" s_orders_by_lead f fd) (gm : mg "orders_by_lead" = some (.ref f)) (T : Bn mg) (h_check_scores : Has P w K mg base CX0 "check_scores" ["scores"] 3 (spD K [false] F_check_scores)) (h_check_order : Has P w K mg base CX0 "check_order" ["scores", "order"] 3 (spD K [false, false] F_check_order)) (h_left_by_lead : Has P w K mg base CX0 "left_by_lead" ["scores", "order"] 4 (spD K [false, false] F_left_by_lead)) : Has P w K mg base CX0 "orders_by_lead" ["scores", "order"] 5 (spD K [false, false] F_orders_by_lead) := has_of F (okG_orders_by_lead F T h_check_scores h_check_order h_left_by_lead) gm (fun _ _ _ _ _ _ us hl => match us, hl with | [_, _], _ => rfl)
theorem sc__law_any : FnScope ["source", "wide"] ["source", "wide"] (defScope s__law_any) := ⟨rfl, rfl, rfl, by decide +kernel, rfl, by decide +kernel, by decide +kernel⟩
theorem okG__law_any {f : Addr} {fd : FuncData} (F : Fun K "_law_any" "_law_any" s__law_any f fd) (T : Bn mg) (h__law_draw : Has P w K mg base CX0 "_law_draw" ["source", "limit"] 1 (spD K [true, false] F__law_draw)) : FnG P w K mg base CX0 2 f fd ["source", "wide"] (spD K [true, false] F__law_any) := by
  unfold F__law_any
  rw [DL.wax_is]
  refine okD F sc__law_any rfl rfl (fun cdv A outer s H E hr => ?_)
  exact (b_cons (s_if (t_cmp op_lt d_lt (e_var (pv 1)) (e_c (pe_powC (pe_int) (pe_int) (midp (by decide)) (v := 1000000000000000) (by decide)) fun _ => .int _) (nomark _)) (b_one (s_ret (e_call h__law_draw (hr.mono (by decide)) (by rfl) (a_io (i := 0) (pv 0) (a_cons (e_var (pv 1)) a_nil))))) b_nil)
      (b_one (s_ret (e_op op_mod d_mod (e_op (op_addA (K := K) rfl) d_addA (e_op (op_mulA (K := K) rfl) d_mulA (e_call h__law_draw (hr.mono (by decide)) (by rfl) (a_io (i := 0) (pv 0) (a_cons (e_c (pe_powC (pe_int) (pe_int) (midp (by decide)) (v := 1000000000000000) (by decide)) fun _ => .int _) a_nil))) (e_c (pe_powC (pe_int) (pe_int) (midp (by decide)) (v := 10000000000000000) (by decide)) fun _ => .int _)) (e_call h__law_draw (hr.mono (by decide)) (by rfl) (a_io (i := 0) (pv 0) (a_cons (e_c (pe_powC (pe_int) (pe_int) (midp (by decide)) (v := 10000000000000000) (by decide)) fun _ => .int _) a_nil)))) (e_var (pv 1))))))
theorem ok__law_any {f : Addr} {fd : FuncData} (F : Fun K "_law_any" "_law_any" s__law_any f fd) (gm : mg "_law_any" = some (.ref f)) (T : Bn mg) (h__law_draw : Has P w K mg base CX0 "_law_draw" ["source", "limit"] 1 (spD K [true, false] F__law_draw)) : Has P w K mg base CX0 "_law_any" ["source", "wide"] 2 (spD K [true, false] F__law_any) := has_of F (okG__law_any F T h__law_draw) gm (fun _ _ _ _ _ _ us hl => match us, hl with | [_, _], _ => rfl)
theorem sc__law_wrong : FnScope ["margin", "tallies", "line", "pairs", "spot", "pair"] ["margin", "tallies", "line"] (defScope s__law_wrong) := ⟨rfl, rfl, rfl, by decide +kernel, rfl, by decide +kernel, by decide +kernel⟩
theorem okG__law_wrong {f : Addr} {fd : FuncData} (F : Fun K "_law_wrong" "_law_wrong" s__law_wrong f fd) (T : Bn mg)  : FnG P w K mg base CX0 1 f fd ["margin", "tallies", "line"] (spD K [false, false, false] F__law_wrong) := by
  unfold F__law_wrong
  rw [DL.wax_is]
  refine okD F sc__law_wrong rfl rfl (fun cdv A outer s H E hr => ?_)
  exact (b_cons (s_set (i := 3) sc__law_wrong.nd rfl (Or.inl rfl) (e_listZip (K := K) rfl rfl (by rfl) T.b_list (by rfl) T.b_zip (a_cons (e_var (pv 2)) (a_cons (e_slice (sl_A (K := K) rfl) d_slA (e_var (pv 2)) (o_some (e_c pe_int fun _ => .int _)) o_none) a_nil))))
      (b_one (s_ret (e_sc [1, 1, 0, 1, 1, 1] (e_zlc (e_lc (own := [("spot", 4), ("pair", 5)]) (vs := [4, 5]) rfl (by decide) (by rfl) sc__law_wrong.nd (i_enum (K := K) rfl (by rfl) T.b_enumerate (a_cons (e_var (pv 3)) a_nil)) (blkOk_by (own := [("spot", 4), ("pair", 5)]) (N := ["margin", "tallies", "line", "pairs", "spot", "pair"]) (sc := defScope s__law_wrong) (by decide +kernel)) (fun _ _ _ _ _ => (g_A (K := K) (n := 2) rfl rfl (gs_cons (g_name (pg_name (i := 4) sc__law_wrong.nd rfl (Or.inl rfl))) (gs_cons (g_name (pg_name (i := 5) sc__law_wrong.nd rfl (Or.inl rfl))) (gs_nil pgs_nil))))) (fun _ _ _ _ _ => (l_one (t_cmp op_ge d_ge (e_ix (ix_A (K := K) rfl) d_ixA (e_var (pv 1)) (e_ix (ix_A (K := K) rfl) d_ixA (e_var (pv 5)) (e_c pe_int fun _ => .int _) (fun _ _ => rfl)) (fun _ _ => rfl)) (e_op (op_addA (K := K) rfl) d_addA (e_ix (ix_A (K := K) rfl) d_ixA (e_var (pv 1)) (e_ix (ix_A (K := K) rfl) d_ixA (e_var (pv 5)) (e_c pe_int fun _ => .int _) (fun _ _ => rfl)) (fun _ _ => rfl)) (e_var (pv 0))) (nomark _)))) (fun _ _ _ _ _ => (e_var (pv 4)))))))))
theorem ok__law_wrong {f : Addr} {fd : FuncData} (F : Fun K "_law_wrong" "_law_wrong" s__law_wrong f fd) (gm : mg "_law_wrong" = some (.ref f)) (T : Bn mg)  : Has P w K mg base CX0 "_law_wrong" ["margin", "tallies", "line"] 1 (spD K [false, false, false] F__law_wrong) := has_of F (okG__law_wrong F T ) gm (fun _ _ _ _ _ _ us hl => match us, hl with | [_, _, _], _ => rfl)
theorem sc__law_left : FnScope ["margin", "tallies", "line", "found", "wrong_here", "spot"] ["margin", "tallies", "line"] (defScope s__law_left) := ⟨rfl, rfl, rfl, by decide +kernel, rfl, by decide +kernel, by decide +kernel⟩
theorem okG__law_left {f : Addr} {fd : FuncData} (F : Fun K "_law_left" "_law_left" s__law_left f fd) (T : Bn mg) (h__law_wrong : Has P w K mg base CX0 "_law_wrong" ["margin", "tallies", "line"] 1 (spD K [false, false, false] F__law_wrong)) : FnG P w K mg base CX0 2 f fd ["margin", "tallies", "line"] (spD K [false, false, false] F__law_left) := by
  unfold F__law_left
  rw [DL.wax_is]
  refine okD F sc__law_left rfl rfl (fun cdv A outer s H E hr => ?_)
  exact (b_cons (s_par (i := 3) (j := 4) rfl sc__law_left.nd rfl rfl (by decide) rfl rfl (a_cons (e_cT d_list (c_list (K := K) rfl) (by rfl) T.b_list (by decide +kernel) (a_cons (e_var (pv 2)) a_nil)) (a_cons (e_call h__law_wrong (hr.mono (by decide)) (by rfl) (a_cons (e_var (pv 0)) (a_cons (e_var (pv 1)) (a_cons (e_var (pv 2)) a_nil)))) a_nil)) (by rfl))
      (b_cons (s_while PassesOwn.never (t_sc [0, 0, 0, 0, 1, 0] (t_cmp (op_neA (K := K) rfl hr.u64) d_neA (e_var (pv 4)) (e_lst a_nil) (nomark _))) (b_cons (s_set (i := 5) sc__law_left.nd rfl (Or.inl rfl) (e_sc [0, 0, 0, 0, 1, 0] (e_ix (ix_A (K := K) rfl) d_ixA (e_var (pv 4)) (e_c (pe_negC (pe_int) (v := -1) rfl) fun _ => .int _) (fun _ _ => rfl))))
      (b_cons (s_set (i := 3) sc__law_left.nd rfl (Or.inl rfl) (e_sc [0, 0, 0, 1, 0, 1] (e_op (op_addA (K := K) rfl) d_addA (e_op (op_addA (K := K) rfl) d_addA (e_slice (sl_A (K := K) rfl) d_slA (e_var (pv 3)) o_none (o_some (e_var (pv 5)))) (e_lst (a_cons (e_ix (ix_A (K := K) rfl) d_ixA (e_var (pv 3)) (e_op (op_addA (K := K) rfl) d_addA (e_var (pv 5)) (e_c pe_int fun _ => .int _)) (fun _ _ => rfl)) (a_cons (e_ix (ix_A (K := K) rfl) d_ixA (e_var (pv 3)) (e_var (pv 5)) (fun _ _ => rfl)) a_nil)))) (e_slice (sl_A (K := K) rfl) d_slA (e_var (pv 3)) (o_some (e_op (op_addA (K := K) rfl) d_addA (e_var (pv 5)) (e_c pe_int fun _ => .int _))) o_none))))
      (b_one (s_set (i := 4) sc__law_left.nd rfl (Or.inl rfl) (e_sc [1, 1, 0, 1, 0, 0] (e_call h__law_wrong (hr.mono (by decide)) (by rfl) (a_cons (e_var (pv 0)) (a_cons (e_var (pv 1)) (a_cons (e_var (pv 3)) a_nil))))))))))
      (b_one (s_ret (e_mv (pv 3))))))
theorem ok__law_left {f : Addr} {fd : FuncData} (F : Fun K "_law_left" "_law_left" s__law_left f fd) (gm : mg "_law_left" = some (.ref f)) (T : Bn mg) (h__law_wrong : Has P w K mg base CX0 "_law_wrong" ["margin", "tallies", "line"] 1 (spD K [false, false, false] F__law_wrong)) : Has P w K mg base CX0 "_law_left" ["margin", "tallies", "line"] 2 (spD K [false, false, false] F__law_left) := has_of F (okG__law_left F T h__law_wrong) gm (fun _ _ _ _ _ _ us hl => match us, hl with | [_, _, _], _ => rfl)
theorem sc__law_large_right : FnScope ["source", "tallies", "line", "told", "one", "two", "far", "stops", "at", "spot", "first", "stop", "margin", "row"] ["source", "tallies", "line"] (defScope s__law_large_right) := ⟨rfl, rfl, rfl, by decide +kernel, rfl, by decide +kernel, by decide +kernel⟩
theorem okG__law_large_right {f : Addr} {fd : FuncData} (F : Fun K "_law_large_right" "_law_large_right" s__law_large_right f fd) (T : Bn mg) (h_orders_by_lead : Has P w K mg base CX0 "orders_by_lead" ["scores", "order"] 5 (spD K [false, false] F_orders_by_lead)) (h__law_draw : Has P w K mg base CX0 "_law_draw" ["source", "limit"] 1 (spD K [true, false] F__law_draw)) (h__law_any : Has P w K mg base CX0 "_law_any" ["source", "wide"] 2 (spD K [true, false] F__law_any)) (h__law_left : Has P w K mg base CX0 "_law_left" ["margin", "tallies", "line"] 2 (spD K [false, false, false] F__law_left)) : FnG P w K mg base CX0 6 f fd ["source", "tallies", "line"] (spD K [true, false, false] F__law_large_right) := by
  unfold F__law_large_right
  rw [DL.wax_is]
  refine okD F sc__law_large_right rfl rfl (fun cdv A outer s H E hr => ?_)
  exact (b_cons (s_set (i := 3) sc__law_large_right.nd rfl (Or.inl rfl) (e_call h_orders_by_lead (hr.mono (by decide)) (by rfl) (a_cons (e_var (pv 1)) (a_cons (e_var (pv 2)) a_nil))))
      (b_cons (s_if (PW.pt (t_or (t_sc [0, 0, 0, 1, 0, 0, 0, 0, 0, 0, 0, 0, 0, 0] (t_cmp (op_neA (K := K) rfl hr.u64) d_neA (e_ix (ix_A (K := K) rfl) d_ixA (e_ix (ix_A (K := K) rfl) d_ixA (e_var (pv 3)) (e_c pe_int fun _ => .int _) (fun _ _ => rfl)) (e_c pe_int fun _ => .int _) (fun _ _ => rfl)) (e_c pe_int fun _ => .int _) (nomark _))) (pw_or1 (t_sc [0, 0, 1, 1, 0, 0, 0, 0, 0, 0, 0, 0, 0, 0] (t_cmp (op_neA (K := K) rfl hr.u64) d_neA (e_ix (ix_A (K := K) rfl) d_ixA (e_ix (ix_A (K := K) rfl) d_ixA (e_var (pv 3)) (e_c (pe_negC (pe_int) (v := -1) rfl) fun _ => .int _) (fun _ _ => rfl)) (e_c pe_int fun _ => .int _) (fun _ _ => rfl)) (e_var (pv 2)) (nomark _)))))) (b_one (s_ret (e_c pe_bl fun _ => .bl _))) b_nil)
      (b_cons (s_zfor (s_for PassesOwn.never rfl (i_zip (K := K) rfl (by rfl) T.b_zip (a_cons (e_sc [0, 0, 0, 1, 0, 0, 0, 0, 0, 0, 0, 0, 0, 0] (e_var (pv 3))) (a_cons (e_sc [0, 0, 0, 1, 0, 0, 0, 0, 0, 0, 0, 0, 0, 0] (e_slice (sl_A (K := K) rfl) d_slA (e_var (pv 3)) (o_some (e_c pe_int fun _ => .int _)) o_none)) a_nil))) (g_A (K := K) (n := 2) rfl rfl (gs_cons (g_name (pg_name (i := 4) sc__law_large_right.nd rfl (Or.inl rfl))) (gs_cons (g_name (pg_name (i := 5) sc__law_large_right.nd rfl (Or.inl rfl))) (gs_nil pgs_nil)))) (b_one (s_if (PW.pt (t_or (t_not (t_cmp op_lt d_lt (e_ix (ix_A (K := K) rfl) d_ixA (e_var (pv 4)) (e_c pe_int fun _ => .int _) (fun _ _ => rfl)) (e_ix (ix_A (K := K) rfl) d_ixA (e_var (pv 5)) (e_c pe_int fun _ => .int _) (fun _ _ => rfl)) (nomark _))) (pw_or1 (t_cmp (op_eqA (K := K) rfl hr.u64) d_eqA (e_ix (ix_A (K := K) rfl) d_ixA (e_var (pv 4)) (e_c pe_int fun _ => .int _) (fun _ _ => rfl)) (e_ix (ix_A (K := K) rfl) d_ixA (e_var (pv 5)) (e_c pe_int fun _ => .int _) (fun _ _ => rfl)) (nomark _))))) (b_one (s_ret (e_c pe_bl fun _ => .bl _))) b_nil))))
      (b_cons (s_set (i := 6) sc__law_large_right.nd rfl (Or.inl rfl) (e_sc [2, 0, 0, 1, 0, 0, 0, 0, 0, 0, 0, 0, 0, 0] (e_op (op_addA (K := K) rfl) d_addA (e_op (op_addA (K := K) rfl) d_addA (e_ix (ix_A (K := K) rfl) d_ixA (e_ix (ix_A (K := K) rfl) d_ixA (e_var (pv 3)) (e_c (pe_negC (pe_int) (v := -1) rfl) fun _ => .int _) (fun _ _ => rfl)) (e_c pe_int fun _ => .int _) (fun _ _ => rfl)) (e_c pe_int fun _ => .int _)) (e_call h__law_any (hr.mono (by decide)) (by rfl) (a_io (i := 0) (pv 0) (a_cons (e_c (pe_powC (pe_int) (pe_int) (midp (by decide)) (v := 100000000000000000000) (by decide)) fun _ => .int _) a_nil))))))
      (b_cons (s_set (i := 7) sc__law_large_right.nd rfl (Or.inl rfl) (e_sc [0, 0, 0, 1, 0, 0, 1, 0, 0, 0, 0, 0, 0, 1] (e_op (op_addA (K := K) rfl) d_addA (e_zlc (e_lc (own := [("row", 13)]) (vs := [13]) rfl (by decide) (by rfl) sc__law_large_right.nd (i_A (K := K) rfl (e_slice (sl_A (K := K) rfl) d_slA (e_var (pv 3)) (o_some (e_c pe_int fun _ => .int _)) o_none)) (blkOk_by (own := [("row", 13)]) (N := ["source", "tallies", "line", "told", "one", "two", "far", "stops", "at", "spot", "first", "stop", "margin", "row"]) (sc := defScope s__law_large_right) (by decide +kernel)) (fun _ _ _ _ _ => (g_name (pg_name (i := 13) sc__law_large_right.nd rfl (Or.inl rfl)))) (fun _ _ _ _ _ => l_nil) (fun _ _ _ _ _ => (e_ix (ix_A (K := K) rfl) d_ixA (e_var (pv 13)) (e_c pe_int fun _ => .int _) (fun _ _ => rfl))))) (e_lst (a_cons (e_var (pv 6)) a_nil)))))
      (b_cons (s_set (i := 8) sc__law_large_right.nd rfl (Or.inl rfl) (e_sc [2, 0, 0, 1, 0, 0, 0, 0, 0, 0, 0, 0, 0, 0] (e_call h__law_draw (hr.mono (by decide)) (by rfl) (a_io (i := 0) (pv 0) (a_cons (e_cB d_lenA (c_lenA (K := K) rfl) (by rfl) T.b_len (by decide +kernel) (a_cons (e_var (pv 3)) a_nil)) a_nil)))))
      (b_cons (s_zfor (s_for PassesOwn.never rfl (i_A (K := K) rfl (e_sc [0, 0, 0, 1, 0, 0, 0, 0, 1, 0, 0, 0, 0, 0] (e_ssetA (K := K) rfl rfl rfl T.b_sorted rfl T.b_set (e_lst (a_cons (e_c pe_int fun _ => .int _) (a_cons (e_var (pv 8)) (a_cons (e_op op_sub d_sub (e_cB d_lenA (c_lenA (K := K) rfl) (by rfl) T.b_len (by decide +kernel) (a_cons (e_var (pv 3)) a_nil)) (e_c pe_int fun _ => .int _)) a_nil))))))) (g_name (pg_name (i := 9) sc__law_large_right.nd rfl (Or.inl rfl))) (b_cons (s_par (i := 10) (j := 11) rfl sc__law_large_right.nd rfl rfl (by decide) rfl rfl (a_cons (e_sc [0, 0, 0, 1, 0, 0, 0, 0, 0, 1, 0, 0, 0, 0] (e_ix (ix_A (K := K) rfl) d_ixA (e_ix (ix_A (K := K) rfl) d_ixA (e_var (pv 3)) (e_var (pv 9)) (fun _ _ => rfl)) (e_c pe_int fun _ => .int _) (fun _ _ => rfl))) (a_cons (e_sc [0, 0, 0, 0, 0, 0, 0, 1, 0, 1, 0, 0, 0, 0] (e_ix (ix_A (K := K) rfl) d_ixA (e_var (pv 7)) (e_var (pv 9)) (fun _ _ => rfl))) a_nil)) (by rfl))
      (b_one (s_zfor (s_for PassesOwn.never rfl (i_A (K := K) rfl (e_sc [2, 0, 0, 0, 0, 0, 0, 0, 0, 0, 1, 1, 0, 0] (e_lst (a_cons (e_var (pv 10)) (a_cons (e_op op_sub d_sub (e_var (pv 11)) (e_c pe_int fun _ => .int _)) (a_cons (e_op (op_addA (K := K) rfl) d_addA (e_var (pv 10)) (e_call h__law_any (hr.mono (by decide)) (by rfl) (a_io (i := 0) (pv 0) (a_cons (e_op op_sub d_sub (e_var (pv 11)) (e_var (pv 10))) a_nil)))) a_nil)))))) (g_name (pg_name (i := 12) sc__law_large_right.nd rfl (Or.inl rfl))) (b_one (s_if (t_sc [0, 1, 1, 1, 0, 0, 0, 0, 0, 1, 0, 0, 1, 0] (t_cmp (op_neA (K := K) rfl hr.u64) d_neA (e_call h__law_left (hr.mono (by decide)) (by rfl) (a_cons (e_var (pv 12)) (a_cons (e_var (pv 1)) (a_cons (e_var (pv 2)) a_nil)))) (e_ix (ix_A (K := K) rfl) d_ixA (e_ix (ix_A (K := K) rfl) d_ixA (e_var (pv 3)) (e_var (pv 9)) (fun _ _ => rfl)) (e_c pe_int fun _ => .int _) (fun _ _ => rfl)) (nomark _))) (b_one (s_ret (e_c pe_bl fun _ => .bl _))) b_nil))))))))
      (b_one (s_ret (e_c pe_bl fun _ => .bl _))))))))))
theorem ok__law_large_right {f : Addr} {fd : FuncData} (F : Fun K "_law_large_right" "_law_large_right" s__law_large_right f fd) (gm : mg "_law_large_right" = some (.ref f)) (T : Bn mg) (h_orders_by_lead : Has P w K mg base CX0 "orders_by_lead" ["scores", "order"] 5 (spD K [false, false] F_orders_by_lead)) (h__law_draw : Has P w K mg base CX0 "_law_draw" ["source", "limit"] 1 (spD K [true, false] F__law_draw)) (h__law_any : Has P w K mg base CX0 "_law_any" ["source", "wide"] 2 (spD K [true, false] F__law_any)) (h__law_left : Has P w K mg base CX0 "_law_left" ["margin", "tallies", "line"] 2 (spD K [false, false, false] F__law_left)) : Has P w K mg base CX0 "_law_large_right" ["source", "tallies", "line"] 6 (spD K [true, false, false] F__law_large_right) := has_of F (okG__law_large_right F T h_orders_by_lead h__law_draw h__law_any h__law_left) gm (fun _ _ _ _ _ _ us hl => match us, hl with | [_, _, _], _ => rfl)
theorem sc__law_line : FnScope ["source", "many", "left", "way", "spot"] ["source", "many"] (defScope s__law_line) := ⟨rfl, rfl, rfl, by decide +kernel, rfl, by decide +kernel, by decide +kernel⟩
theorem okG__law_line {f : Addr} {fd : FuncData} (F : Fun K "_law_line" "_law_line" s__law_line f fd) (T : Bn mg) (h__law_draw : Has P w K mg base CX0 "_law_draw" ["source", "limit"] 1 (spD K [true, false] F__law_draw)) : FnG P w K mg base CX0 2 f fd ["source", "many"] (spD K [true, false] F__law_line) := by
  unfold F__law_line
  rw [DL.wax_is]
  refine okD F sc__law_line rfl rfl (fun cdv A outer s H E hr => ?_)
  exact (b_cons (s_asg (e_tup (a_cons (e_rg1 (pe_listRg rfl (by rfl) T.b_list (prg_1 (by rfl) T.b_range (e_var (pv 1))))) (a_cons (e_call h__law_draw (hr.mono (by decide)) (by rfl) (a_io (i := 0) (pv 0) (a_cons (e_c pe_int fun _ => .int _) a_nil))) a_nil))) (g_A (K := K) (n := 2) rfl rfl (gs_cons (g_name (pg_name (i := 2) sc__law_line.nd rfl (Or.inr rfl))) (gs_cons (g_name (pg_name (i := 3) sc__law_line.nd rfl (Or.inl rfl))) (gs_nil pgs_nil)))))
      (b_cons (s_if (t_sc [0, 0, 0, 1, 0] (t_cmp op_lt d_lt (e_var (pv 3)) (e_c pe_int fun _ => .int _) (nomark _))) (b_one (s_ret (e_sc [0, 0, 1, 1, 0] (e_step (K := K) rfl (e_var (pv 2)) (e_op op_sub d_sub (e_c pe_int fun _ => .int _) (e_op (op_mulA (K := K) rfl) d_mulA (e_c pe_int fun _ => .int _) (e_var (pv 3)))))))) b_nil)
      (b_one (s_ret (e_zlc (e_lc (own := [("spot", 4)]) (vs := [4]) rfl (by decide) (by rfl) sc__law_line.nd (i_range1 (by rfl) T.b_range (a_cons (e_var (pv 1)) a_nil)) (blkOk_by (own := [("spot", 4)]) (N := ["source", "many", "left", "way", "spot"]) (sc := defScope s__law_line) (by decide +kernel)) (fun _ _ _ _ _ => (g_name (pg_name (i := 4) sc__law_line.nd rfl (Or.inl rfl)))) (fun _ _ _ _ _ => l_nil) (fun _ _ _ _ _ => (e_mt (k_bm (K := K) rfl PySem.F.plainAttrs_list PySem.F.slot_list_pop PySem.F.type_list_pop mt_popAt (pv 2) (a_cons (e_sc [2, 0, 1, 0, 0] (e_call h__law_draw (hr.mono (by decide)) (by rfl) (a_io (i := 0) (pv 0) (a_cons (e_cB d_lenA (c_lenA (K := K) rfl) (by rfl) T.b_len (by decide +kernel) (a_cons (e_var (pv 2)) a_nil)) a_nil)))) a_nil)) m_popAt))))))))
theorem ok__law_line {f : Addr} {fd : FuncData} (F : Fun K "_law_line" "_law_line" s__law_line f fd) (gm : mg "_law_line" = some (.ref f)) (T : Bn mg) (h__law_draw : Has P w K mg base CX0 "_law_draw" ["source", "limit"] 1 (spD K [true, false] F__law_draw)) : Has P w K mg base CX0 "_law_line" ["source", "many"] 2 (spD K [true, false] F__law_line) := has_of F (okG__law_line F T h__law_draw) gm (fun _ _ _ _ _ _ us hl => match us, hl with | [_, _], _ => rfl)
theorem sc__law_same : FnScope ["result", "expected", "one", "two"] ["result", "expected"] (defScope s__law_same) := ⟨rfl, rfl, rfl, by decide +kernel, rfl, by decide +kernel, by decide +kernel⟩
theorem okG__law_same {f : Addr} {fd : FuncData} (F : Fun K "_law_same" "_law_same" s__law_same f fd) (gm : mg "_law_same" = some (.ref f)) (T : Bn mg)  : ∀ m : Nat, FnG P w K mg base CX0 (1 + m) f fd ["result", "expected"] (spD K [false, false] (F__law_same m)) := by
  intro m
  induction m with
  | zero => exact fn0
  | succ n_ ih =>
    have h__law_same : Has P w K mg base CX0 "_law_same" ["result", "expected"] (1 + n_) (spD K [false, false] (F__law_same n_)) := has_of F ih gm (fun _ _ _ _ _ _ us hl => match us, hl with | [_, _], _ => rfl)
    rw [F__law_same]
    rw [DL.wax_is]
    show FnG P w K mg base CX0 ((1 + n_) + 1) f fd _ _
    refine okD F sc__law_same rfl rfl (fun cdv A outer s H E hr => ?_)
    exact (b_cons (s_if (e_test (e_cB d_isiA (c_isiA (K := K) rfl) (by rfl) T.b_isinstance (by decide +kernel) (a_cons (e_var (pv 1)) (a_cons (e_tup (a_cons (e_c (pe_bltn (v := .ty "list") rfl T.b_list (by decide +kernel) rfl) fun _ => .ty _) (a_cons (e_c (pe_bltn (v := .ty "tuple") rfl T.b_tuple (by decide +kernel) rfl) fun _ => .ty _) a_nil))) a_nil)))) (b_cons (s_if (PW.pt (t_or (t_cmp (op_neA (K := K) rfl hr.u64) d_neA (e_cB d_isiA (c_isiA (K := K) rfl) (by rfl) T.b_isinstance (by decide +kernel) (a_cons (e_var (pv 0)) (a_cons (e_c (pe_bltn (v := .ty "list") rfl T.b_list (by decide +kernel) rfl) fun _ => .ty _) a_nil))) (e_cB d_isiA (c_isiA (K := K) rfl) (by rfl) T.b_isinstance (by decide +kernel) (a_cons (e_var (pv 1)) (a_cons (e_c (pe_bltn (v := .ty "list") rfl T.b_list (by decide +kernel) rfl) fun _ => .ty _) a_nil))) (nomark _)) (pw_or1 (t_not (e_test (e_cB d_isiA (c_isiA (K := K) rfl) (by rfl) T.b_isinstance (by decide +kernel) (a_cons (e_var (pv 0)) (a_cons (e_tup (a_cons (e_c (pe_bltn (v := .ty "list") rfl T.b_list (by decide +kernel) rfl) fun _ => .ty _) (a_cons (e_c (pe_bltn (v := .ty "tuple") rfl T.b_tuple (by decide +kernel) rfl) fun _ => .ty _) a_nil))) a_nil)))))))) (b_one (s_ret (e_c pe_bl fun _ => .bl _))) b_nil)
      (b_one (s_ret (e_and (e_cmp (op_eqA (K := K) rfl hr.u64) d_eqA (e_cB d_lenA (c_lenA (K := K) rfl) (by rfl) T.b_len (by decide +kernel) (a_cons (e_var (pv 0)) a_nil)) (e_cB d_lenA (c_lenA (K := K) rfl) (by rfl) T.b_len (by decide +kernel) (a_cons (e_var (pv 1)) a_nil)) (nomark _)) (pe_one (e_cB d_all (k_all (K := K) rfl rfl) (by rfl) T.b_all (by decide +kernel) (a_cons (e_zlc (e_lc (own := [("one", 2), ("two", 3)]) (vs := [2, 3]) rfl (by decide) (by rfl) sc__law_same.nd (i_zipA (K := K) rfl (by rfl) T.b_zip (a_cons (e_var (pv 0)) (a_cons (e_var (pv 1)) a_nil))) (blkOk_by (own := [("one", 2), ("two", 3)]) (N := ["result", "expected", "one", "two"]) (sc := defScope s__law_same) (by decide +kernel)) (fun _ _ _ _ _ => (g_A (K := K) (n := 2) rfl rfl (gs_cons (g_name (pg_name (i := 2) sc__law_same.nd rfl (Or.inl rfl))) (gs_cons (g_name (pg_name (i := 3) sc__law_same.nd rfl (Or.inl rfl))) (gs_nil pgs_nil))))) (fun _ _ _ _ _ => l_nil) (fun _ _ _ _ _ => (e_call h__law_same (hr.mono (by omega)) (by rfl) (a_cons (e_var (pv 2)) (a_cons (e_var (pv 3)) a_nil)))))) a_nil))))))) b_nil)
      (b_cons (s_if (PW.pt (t_or (t_cmp op_isN d_isN (e_var (pv 1)) (e_c pe_non fun _ => .non) (nomark _)) (pw_or1 (t_cmp op_isN d_isN (e_var (pv 0)) (e_c pe_non fun _ => .non) (nomark _))))) (b_one (s_ret (e_and (e_cmp op_isN d_isN (e_var (pv 1)) (e_c pe_non fun _ => .non) (nomark _)) (pe_one (e_cmp op_isN d_isN (e_var (pv 0)) (e_c pe_non fun _ => .non) (nomark _)))))) b_nil)
      (b_cons (s_if (PW.pt (t_or (e_test (e_cB d_isiA (c_isiA (K := K) rfl) (by rfl) T.b_isinstance (by decide +kernel) (a_cons (e_var (pv 1)) (a_cons (e_c (pe_bltn (v := .ty "bool") rfl T.b_bool (by decide +kernel) rfl) fun _ => .ty _) a_nil)))) (pw_or1 (e_test (e_cB d_isiA (c_isiA (K := K) rfl) (by rfl) T.b_isinstance (by decide +kernel) (a_cons (e_var (pv 0)) (a_cons (e_c (pe_bltn (v := .ty "bool") rfl T.b_bool (by decide +kernel) rfl) fun _ => .ty _) a_nil))))))) (b_one (s_ret (e_and (e_cB d_isiA (c_isiA (K := K) rfl) (by rfl) T.b_isinstance (by decide +kernel) (a_cons (e_var (pv 1)) (a_cons (e_c (pe_bltn (v := .ty "bool") rfl T.b_bool (by decide +kernel) rfl) fun _ => .ty _) a_nil))) (e_and (e_cB d_isiA (c_isiA (K := K) rfl) (by rfl) T.b_isinstance (by decide +kernel) (a_cons (e_var (pv 0)) (a_cons (e_c (pe_bltn (v := .ty "bool") rfl T.b_bool (by decide +kernel) rfl) fun _ => .ty _) a_nil))) (pe_one (e_cmp (op_eqA (K := K) rfl hr.u64) d_eqA (e_var (pv 0)) (e_var (pv 1)) (nomark _))))))) b_nil)
      (b_one (s_ret (e_and (e_cmp (op_eqA (K := K) rfl hr.u64) d_eqA (e_cB d_isiA (c_isiA (K := K) rfl) (by rfl) T.b_isinstance (by decide +kernel) (a_cons (e_var (pv 0)) (a_cons (e_c (pe_bltn (v := .ty "str") rfl T.b_str (by decide +kernel) rfl) fun _ => .ty _) a_nil))) (e_cB d_isiA (c_isiA (K := K) rfl) (by rfl) T.b_isinstance (by decide +kernel) (a_cons (e_var (pv 1)) (a_cons (e_c (pe_bltn (v := .ty "str") rfl T.b_str (by decide +kernel) rfl) fun _ => .ty _) a_nil))) (nomark _)) (pe_one (e_cmp (op_eqA (K := K) rfl hr.u64) d_eqA (e_var (pv 0)) (e_var (pv 1)) (nomark _)))))))))
theorem ok__law_same {f : Addr} {fd : FuncData} (F : Fun K "_law_same" "_law_same" s__law_same f fd) (gm : mg "_law_same" = some (.ref f)) (T : Bn mg)  : Has P w K mg base CX0 "_law_same" ["result", "expected"] 5 (spD K [false, false] (F__law_same 4)) := has_of F (okG__law_same F gm T  4) gm (fun _ _ _ _ _ _ us hl => match us, hl with | [_, _], _ => rfl)
theorem sc__law_small_right : FnScope ["tallies", "line", "kept", "due", "margin", "later", "told", "last"] ["tallies", "line"] (defScope s__law_small_right) := ⟨rfl, rfl, rfl, by decide +kernel, rfl, by decide +kernel, by decide +kernel⟩
theorem okG__law_small_right {f : Addr} {fd : FuncData} (F : Fun K "_law_small_right" "_law_small_right" s__law_small_right f fd) (T : Bn mg) (h_orders_by_lead : Has P w K mg base CX0 "orders_by_lead" ["scores", "order"] 5 (spD K [false, false] F_orders_by_lead)) (h__law_left : Has P w K mg base CX0 "_law_left" ["margin", "tallies", "line"] 2 (spD K [false, false, false] F__law_left)) (h__law_same : Has P w K mg base CX0 "_law_same" ["result", "expected"] 5 (spD K [false, false] (F__law_same 4))) : FnG P w K mg base CX0 6 f fd ["tallies", "line"] (spD K [false, false] F__law_small_right) := by
  unfold F__law_small_right
  rw [DL.wax_is]
  refine okD F sc__law_small_right rfl rfl (fun cdv A outer s H E hr => ?_)
  exact (b_cons (s_par (i := 2) (j := 3) rfl sc__law_small_right.nd rfl rfl (by decide) rfl rfl (a_cons (e_lst (a_cons (e_cT d_list (c_list (K := K) rfl) (by rfl) T.b_list (by decide +kernel) (a_cons (e_var (pv 0)) a_nil)) (a_cons (e_cT d_list (c_list (K := K) rfl) (by rfl) T.b_list (by decide +kernel) (a_cons (e_var (pv 1)) a_nil)) a_nil))) (a_cons (e_lst a_nil) a_nil)) (by rfl))
      (b_cons (s_zfor (s_for PassesOwn.never rfl (i_range2 (by rfl) T.b_range (a_cons (e_c pe_int fun _ => .int _) (a_cons (e_op (op_addA (K := K) rfl) d_addA (e_op op_sub d_sub (e_cB d_maxL (k_max (K := K) rfl rfl) (by rfl) T.b_max (by decide +kernel) (a_cons (e_var (pv 0)) a_nil)) (e_cB d_minL (k_min (K := K) rfl rfl) (by rfl) T.b_min (by decide +kernel) (a_cons (e_var (pv 0)) a_nil))) (e_c pe_int fun _ => .int _)) a_nil))) (g_name (pg_name (i := 4) sc__law_small_right.nd rfl (Or.inl rfl))) (b_cons (s_set (i := 5) sc__law_small_right.nd rfl (Or.inl rfl) (e_call h__law_left (hr.mono (by decide)) (by rfl) (a_cons (e_var (pv 4)) (a_cons (e_var (pv 0)) (a_cons (e_var (pv 1)) a_nil)))))
      (b_one (s_if (PW.pt (t_or (t_sc [0, 0, 0, 1, 0, 0, 0, 0] (t_cmp (op_eqA (K := K) rfl hr.u64) d_eqA (e_var (pv 3)) (e_lst a_nil) (nomark _))) (pw_or1 (t_sc [0, 0, 0, 1, 0, 1, 0, 0] (t_cmp (op_neA (K := K) rfl hr.u64) d_neA (e_ix (ix_A (K := K) rfl) d_ixA (e_ix (ix_A (K := K) rfl) d_ixA (e_var (pv 3)) (e_c (pe_negC (pe_int) (v := -1) rfl) fun _ => .int _) (fun _ _ => rfl)) (e_c pe_int fun _ => .int _) (fun _ _ => rfl)) (e_var (pv 5)) (nomark _)))))) (b_one (s_expr (e_sc [0, 0, 0, 2, 1, 1, 0, 0] (e_mt (k_bm (K := K) rfl PySem.F.plainAttrs_list PySem.F.slot_list_append PySem.F.type_list_append mt_append (pv 3) (a_cons (e_tup (a_cons (e_var (pv 4)) (a_cons (e_var (pv 5)) a_nil))) a_nil)) m_append)))) b_nil)))))
      (b_cons (s_set (i := 6) sc__law_small_right.nd rfl (Or.inl rfl) (e_call h_orders_by_lead (hr.mono (by decide)) (by rfl) (a_cons (e_var (pv 0)) (a_cons (e_var (pv 1)) a_nil))))
      (b_cons (s_if (PW.pt (t_or (t_not (e_test (e_sc [0, 0, 0, 1, 0, 0, 1, 0] (e_call h__law_same (hr.mono (by decide)) (by rfl) (a_cons (e_var (pv 6)) (a_cons (e_var (pv 3)) a_nil)))))) (pw_or1 (t_sc [1, 1, 1, 0, 0, 0, 0, 0] (t_cmp (op_neA (K := K) rfl hr.u64) d_neA (e_lst (a_cons (e_var (pv 0)) (a_cons (e_var (pv 1)) a_nil))) (e_var (pv 2)) (nomark _)))))) (b_one (s_ret (e_c pe_bl fun _ => .bl _))) b_nil)
      (b_cons (s_set (i := 7) sc__law_small_right.nd rfl (Or.inl rfl) (e_mt0 (k_bm0 (K := K) rfl PySem.F.plainAttrs_list PySem.F.slot_list_pop PySem.F.type_list_pop mt_pop (pv 6)) m_pop))
      (b_cons (s_expr (e_mtT (k_bm (K := K) rfl PySem.F.plainAttrs_list PySem.F.slot_list_append PySem.F.type_list_append mt_append (pe_ix (k_ixT (K := K) rfl) (pv 7) (pe_int) (fun _ _ => rfl)) (pa_cons (st_c pe_non fun _ => .non) pa_nil)) (st_ok_c _) m_append))
      (b_one (s_ret (e_sc [1, 1, 0, 1, 0, 0, 0, 0] (e_cmp (op_eqA (K := K) rfl hr.u64) d_eqA (e_call h_orders_by_lead (hr.mono (by decide)) (by rfl) (a_cons (e_var (pv 0)) (a_cons (e_var (pv 1)) a_nil))) (e_var (pv 3)) (nomark _)))))))))))
theorem ok__law_small_right {f : Addr} {fd : FuncData} (F : Fun K "_law_small_right" "_law_small_right" s__law_small_right f fd) (gm : mg "_law_small_right" = some (.ref f)) (T : Bn mg) (h_orders_by_lead : Has P w K mg base CX0 "orders_by_lead" ["scores", "order"] 5 (spD K [false, false] F_orders_by_lead)) (h__law_left : Has P w K mg base CX0 "_law_left" ["margin", "tallies", "line"] 2 (spD K [false, false, false] F__law_left)) (h__law_same : Has P w K mg base CX0 "_law_same" ["result", "expected"] 5 (spD K [false, false] (F__law_same 4))) : Has P w K mg base CX0 "_law_small_right" ["tallies", "line"] 6 (spD K [false, false] F__law_small_right) := has_of F (okG__law_small_right F T h_orders_by_lead h__law_left h__law_same) gm (fun _ _ _ _ _ _ us hl => match us, hl with | [_, _], _ => rfl)
theorem sc__law_tallies : FnScope ["source", "many", "margin", "way", "found", "last", "wide", "spot", "some"] ["source", "many", "margin"] (defScope s__law_tallies) := ⟨rfl, rfl, rfl, by decide +kernel, rfl, by decide +kernel, by decide +kernel⟩
theorem okG__law_tallies {f : Addr} {fd : FuncData} (F : Fun K "_law_tallies" "_law_tallies" s__law_tallies f fd) (T : Bn mg) (h__law_draw : Has P w K mg base CX0 "_law_draw" ["source", "limit"] 1 (spD K [true, false] F__law_draw)) (h__law_any : Has P w K mg base CX0 "_law_any" ["source", "wide"] 2 (spD K [true, false] F__law_any)) : FnG P w K mg base CX0 3 f fd ["source", "many", "margin"] (spD K [true, false, false] F__law_tallies) := by
  unfold F__law_tallies
  rw [DL.wax_is]
  refine okD F sc__law_tallies rfl rfl (fun cdv A outer s H E hr => ?_)
  exact (b_cons (s_asg (e_tup (a_cons (e_call h__law_draw (hr.mono (by decide)) (by rfl) (a_io (i := 0) (pv 0) (a_cons (e_c pe_int fun _ => .int _) a_nil))) (a_cons (e_lst a_nil) (a_cons (e_c pe_int fun _ => .int _) (a_cons (e_cB d_min2 (c_min2 rfl) (by rfl) T.b_min (by decide +kernel) (a_cons (e_var (pv 2)) (a_cons (e_c (pe_powC (pe_int) (pe_int) (midp (by decide)) (v := 100000000000000000000000000000) (by decide)) fun _ => .int _) a_nil))) a_nil))))) (g_A (K := K) (n := 4) rfl rfl (gs_cons (g_name (pg_name (i := 3) sc__law_tallies.nd rfl (Or.inl rfl))) (gs_cons (g_name (pg_name (i := 4) sc__law_tallies.nd rfl (Or.inl rfl))) (gs_cons (g_name (pg_name (i := 5) sc__law_tallies.nd rfl (Or.inl rfl))) (gs_cons (g_name (pg_name (i := 6) sc__law_tallies.nd rfl (Or.inl rfl))) (gs_nil pgs_nil)))))))
      (b_cons (s_zfor (s_for PassesOwn.never rfl (i_range1 (by rfl) T.b_range (a_cons (e_var (pv 1)) a_nil)) (g_name (pg_name (i := 7) sc__law_tallies.nd rfl (Or.inl rfl))) (b_cons (s_set (i := 5) sc__law_tallies.nd rfl (Or.inl rfl) (e_sc [2, 0, 0, 0, 0, 1, 1, 0, 0] (e_op (op_addA (K := K) rfl) d_addA (e_var (pv 5)) (e_call h__law_any (hr.mono (by decide)) (by rfl) (a_io (i := 0) (pv 0) (a_cons (e_var (pv 6)) a_nil))))))
      (b_cons (s_set (i := 8) sc__law_tallies.nd rfl (Or.inl rfl) (e_sc [2, 0, 0, 0, 0, 1, 1, 0, 0] (e_lst (a_cons (e_call h__law_any (hr.mono (by decide)) (by rfl) (a_io (i := 0) (pv 0) (a_cons (e_op (op_addA (K := K) rfl) d_addA (e_op (op_mulA (K := K) rfl) d_mulA (e_c pe_int fun _ => .int _) (e_var (pv 6))) (e_c pe_int fun _ => .int _)) a_nil))) (a_cons (e_call h__law_draw (hr.mono (by decide)) (by rfl) (a_io (i := 0) (pv 0) (a_cons (e_c pe_int fun _ => .int _) a_nil))) (a_cons (e_var (pv 5)) (a_cons (e_op (op_mulA (K := K) rfl) d_mulA (e_op (op_mulA (K := K) rfl) d_mulA (e_c pe_int fun _ => .int _) (e_var (pv 6))) (e_call h__law_draw (hr.mono (by decide)) (by rfl) (a_io (i := 0) (pv 0) (a_cons (e_c pe_int fun _ => .int _) a_nil)))) a_nil)))))))
      (b_cons (s_expr (e_sc [2, 0, 0, 0, 0, 0, 1, 0, 2] (e_mt (k_bm (K := K) rfl PySem.F.plainAttrs_list PySem.F.slot_list_append PySem.F.type_list_append mt_append (pv 8) (a_cons (e_op op_sub d_sub (e_c pe_int fun _ => .int _) (e_call h__law_any (hr.mono (by decide)) (by rfl) (a_io (i := 0) (pv 0) (a_cons (e_op (op_addA (K := K) rfl) d_addA (e_op (op_mulA (K := K) rfl) d_mulA (e_c pe_int fun _ => .int _) (e_var (pv 6))) (e_c pe_int fun _ => .int _)) a_nil)))) a_nil)) m_append)))
      (b_one (s_expr (e_sc [2, 0, 0, 1, 2, 0, 0, 0, 1] (e_mt (k_bm (K := K) rfl PySem.F.plainAttrs_list PySem.F.slot_list_append PySem.F.type_list_append mt_append (pv 4) (a_cons (e_op (op_addA (K := K) rfl) d_addA (e_ix (ix_A (K := K) rfl) d_ixA (e_var (pv 8)) (e_var (pv 3)) (fun _ _ => rfl)) (e_call h__law_draw (hr.mono (by decide)) (by rfl) (a_io (i := 0) (pv 0) (a_cons (e_c pe_int fun _ => .int _) a_nil)))) a_nil)) m_append)))))))))
      (b_one (s_ret (e_mv (pv 4))))))
theorem ok__law_tallies {f : Addr} {fd : FuncData} (F : Fun K "_law_tallies" "_law_tallies" s__law_tallies f fd) (gm : mg "_law_tallies" = some (.ref f)) (T : Bn mg) (h__law_draw : Has P w K mg base CX0 "_law_draw" ["source", "limit"] 1 (spD K [true, false] F__law_draw)) (h__law_any : Has P w K mg base CX0 "_law_any" ["source", "wide"] 2 (spD K [true, false] F__law_any)) : Has P w K mg base CX0 "_law_tallies" ["source", "many", "margin"] 3 (spD K [true, false, false] F__law_tallies) := has_of F (okG__law_tallies F T h__law_draw h__law_any) gm (fun _ _ _ _ _ _ us hl => match us, hl with | [_, _, _], _ => rfl)
theorem sc__law_margin : FnScope ["source", "some"] ["source"] (defScope s__law_margin) := ⟨rfl, rfl, rfl, by decide +kernel, rfl, by decide +kernel, by decide +kernel⟩
theorem okG__law_margin {f : Addr} {fd : FuncData} (F : Fun K "_law_margin" "_law_margin" s__law_margin f fd) (T : Bn mg) (h__law_draw : Has P w K mg base CX0 "_law_draw" ["source", "limit"] 1 (spD K [true, false] F__law_draw)) (h__law_any : Has P w K mg base CX0 "_law_any" ["source", "wide"] 2 (spD K [true, false] F__law_any)) : FnG P w K mg base CX0 3 f fd ["source"] (spD K [true] F__law_margin) := by
  unfold F__law_margin
  rw [DL.wax_is]
  refine okD F sc__law_margin rfl rfl (fun cdv A outer s H E hr => ?_)
  exact (b_cons (s_set (i := 1) sc__law_margin.nd rfl (Or.inl rfl) (e_lst (a_cons (e_c pe_int fun _ => .int _) (a_cons (e_op (op_addA (K := K) rfl) d_addA (e_c pe_int fun _ => .int _) (e_call h__law_draw (hr.mono (by decide)) (by rfl) (a_io (i := 0) (pv 0) (a_cons (e_c pe_int fun _ => .int _) a_nil)))) (a_cons (e_op (op_addA (K := K) rfl) d_addA (e_c pe_int fun _ => .int _) (e_call h__law_any (hr.mono (by decide)) (by rfl) (a_io (i := 0) (pv 0) (a_cons (e_c (pe_powC (pe_int) (pe_int) (midp (by decide)) (v := 100000000000000000000000000000) (by decide)) fun _ => .int _) a_nil)))) (a_cons (e_op (op_addA (K := K) rfl) d_addA (e_c pe_int fun _ => .int _) (e_call h__law_any (hr.mono (by decide)) (by rfl) (a_io (i := 0) (pv 0) (a_cons (e_c (pe_subC (pe_powC (pe_int) (pe_int) (midp (by decide)) (v := 10000000000000000000000000000000) (by decide)) (pe_int) (v := 9999999999999999999999999999998) (by decide)) fun _ => .int _) a_nil)))) a_nil))))))
      (b_one (s_ret (e_sc [2, 1] (e_ix (ix_A (K := K) rfl) d_ixA (e_var (pv 1)) (e_call h__law_draw (hr.mono (by decide)) (by rfl) (a_io (i := 0) (pv 0) (a_cons (e_c pe_int fun _ => .int _) a_nil))) (fun _ _ => rfl))))))
theorem ok__law_margin {f : Addr} {fd : FuncData} (F : Fun K "_law_margin" "_law_margin" s__law_margin f fd) (gm : mg "_law_margin" = some (.ref f)) (T : Bn mg) (h__law_draw : Has P w K mg base CX0 "_law_draw" ["source", "limit"] 1 (spD K [true, false] F__law_draw)) (h__law_any : Has P w K mg base CX0 "_law_any" ["source", "wide"] 2 (spD K [true, false] F__law_any)) : Has P w K mg base CX0 "_law_margin" ["source"] 3 (spD K [true] F__law_margin) := has_of F (okG__law_margin F T h__law_draw h__law_any) gm (fun _ _ _ _ _ _ us hl => match us, hl with | [_], _ => rfl)
theorem sc_law : FnScope ["script", "k", "source", "turn_here", "many", "wide", "tallies", "line", "due", "spot"] ["script"] (defScope s_law) := ⟨rfl, rfl, rfl, by decide +kernel, rfl, by decide +kernel, by decide +kernel⟩
theorem okG_law {f : Addr} {fd : FuncData} (F : Fun K "law" "law" s_law f fd) (T : Bn mg) (h__law_open_source : Has P w K mg base CX0 "_law_open_source" ["script", "k"] 1 (spD K [false, false] F__law_open_source)) (h__law_many : Has P w K mg base CX0 "_law_many" ["source", "script", "most"] 2 (spD K [true, false, false] F__law_many)) (h__law_large_right : Has P w K mg base CX0 "_law_large_right" ["source", "tallies", "line"] 6 (spD K [true, false, false] F__law_large_right)) (h_orders_by_lead : Has P w K mg base CX0 "orders_by_lead" ["scores", "order"] 5 (spD K [false, false] F_orders_by_lead)) (h__law_line : Has P w K mg base CX0 "_law_line" ["source", "many"] 2 (spD K [true, false] F__law_line)) (h__law_small_right : Has P w K mg base CX0 "_law_small_right" ["tallies", "line"] 6 (spD K [false, false] F__law_small_right)) (h__law_tallies : Has P w K mg base CX0 "_law_tallies" ["source", "many", "margin"] 3 (spD K [true, false, false] F__law_tallies)) (h__law_draw : Has P w K mg base CX0 "_law_draw" ["source", "limit"] 1 (spD K [true, false] F__law_draw)) (h__law_margin : Has P w K mg base CX0 "_law_margin" ["source"] 3 (spD K [true] F__law_margin)) : FnG P w K mg base CX0 7 f fd ["script"] (spD K [false] F_law) := by
  unfold F_law
  rw [DL.wax_is]
  refine okD F sc_law rfl rfl (fun cdv A outer s H E hr => ?_)
  exact (b_cons (s_zfor (s_for PassesOwn.never rfl (i_range1 (by rfl) T.b_range (a_cons (e_cB d_max2 (c_max2 rfl) (by rfl) T.b_max (by decide +kernel) (a_cons (e_c pe_int fun _ => .int _) (a_cons (e_cB d_min2 (c_min2 rfl) (by rfl) T.b_min (by decide +kernel) (a_cons (e_c pe_int fun _ => .int _) (a_cons (e_cB d_lenA (c_lenA (K := K) rfl) (by rfl) T.b_len (by decide +kernel) (a_cons (e_var (pv 0)) a_nil)) a_nil))) a_nil))) a_nil)) (g_name (pg_name (i := 1) sc_law.nd rfl (Or.inl rfl))) (b_cons (s_set (i := 2) sc_law.nd rfl (Or.inr rfl) (e_call h__law_open_source (hr.mono (by decide)) (by rfl) (a_cons (e_var (pv 0)) (a_cons (e_var (pv 1)) a_nil))))
      (b_cons (s_zfor (s_for PassesOwn.never rfl (i_range1 (by rfl) T.b_range (a_cons (e_c pe_int fun _ => .int _) a_nil)) (g_name (pg_name (i := 3) sc_law.nd rfl (Or.inl rfl))) (b_cons (s_asg (e_tup (a_cons (e_call h__law_many (hr.mono (by decide)) (by rfl) (a_io (i := 2) (pv 2) (a_cons (e_var (pv 0)) (a_cons (e_c pe_int fun _ => .int _) a_nil)))) (a_cons (e_ix (ix_A (K := K) rfl) d_ixA (e_lst (a_cons (e_c pe_int fun _ => .int _) (a_cons (e_c pe_int fun _ => .int _) (a_cons (e_c pe_int fun _ => .int _) a_nil)))) (e_call h__law_draw (hr.mono (by decide)) (by rfl) (a_io (i := 2) (pv 2) (a_cons (e_c pe_int fun _ => .int _) a_nil))) (fun _ _ => rfl)) a_nil))) (g_A (K := K) (n := 2) rfl rfl (gs_cons (g_name (pg_name (i := 4) sc_law.nd rfl (Or.inl rfl))) (gs_cons (g_name (pg_name (i := 5) sc_law.nd rfl (Or.inr rfl))) (gs_nil pgs_nil)))))
      (b_cons (s_par (i := 6) (j := 7) rfl sc_law.nd rfl rfl (by decide) rfl rfl (a_cons (e_sc [0, 0, 2, 0, 1, 1, 0, 0, 0, 0] (e_zlc (e_lc (own := [("spot", 9)]) (vs := [9]) rfl (by decide) (by rfl) sc_law.nd (i_range1 (by rfl) T.b_range (a_cons (e_var (pv 4)) a_nil)) (blkOk_by (own := [("spot", 9)]) (N := ["script", "k", "source", "turn_here", "many", "wide", "tallies", "line", "due", "spot"]) (sc := defScope s_law) (by decide +kernel)) (fun _ _ _ _ _ => (g_name (pg_name (i := 9) sc_law.nd rfl (Or.inl rfl)))) (fun _ _ _ _ _ => l_nil) (fun _ _ _ _ _ => (e_op op_sub d_sub (e_call h__law_draw (hr.mono (by decide)) (by rfl) (a_io (i := 2) (pv 2) (a_cons (e_var (pv 5)) a_nil))) (e_c pe_int fun _ => .int _)))))) (a_cons (e_sc [0, 0, 2, 0, 1, 0, 0, 0, 0, 0] (e_call h__law_line (hr.mono (by decide)) (by rfl) (a_io (i := 2) (pv 2) (a_cons (e_var (pv 4)) a_nil)))) a_nil)) (by rfl))
      (b_cons (s_if (t_not (e_test (e_sc [0, 0, 0, 0, 0, 0, 1, 1, 0, 0] (e_call h__law_small_right (hr.mono (by decide)) (by rfl) (a_cons (e_var (pv 6)) (a_cons (e_var (pv 7)) a_nil)))))) (b_one (s_ret (e_c pe_bl fun _ => .bl _))) b_nil)
      (b_cons (s_expr (e_mt0 (k_bm0 (K := K) rfl PySem.F.plainAttrs_list PySem.F.slot_list_reverse PySem.F.type_list_reverse mt_reverse (pv 6)) m_reverse))
      (b_one (s_if (t_not (e_test (e_sc [0, 0, 0, 0, 0, 0, 1, 1, 0, 0] (e_call h__law_small_right (hr.mono (by decide)) (by rfl) (a_cons (e_var (pv 6)) (a_cons (e_var (pv 7)) a_nil)))))) (b_one (s_ret (e_c pe_bl fun _ => .bl _))) b_nil))))))))
      (b_cons (s_set (i := 4) sc_law.nd rfl (Or.inl rfl) (e_call h__law_many (hr.mono (by decide)) (by rfl) (a_io (i := 2) (pv 2) (a_cons (e_var (pv 0)) (a_cons (e_ix (ix_A (K := K) rfl) d_ixA (e_lst (a_cons (e_c pe_int fun _ => .int _) (a_cons (e_c pe_int fun _ => .int _) a_nil))) (e_cB d_min2 (c_min2 rfl) (by rfl) T.b_min (by decide +kernel) (a_cons (e_var (pv 1)) (a_cons (e_c pe_int fun _ => .int _) a_nil))) (fun _ _ => rfl)) a_nil)))))
      (b_one (s_if (t_not (e_test (e_sc [0, 0, 2, 0, 1, 0, 0, 0, 0, 0] (e_call h__law_large_right (hr.mono (by decide)) (by rfl) (a_io (i := 2) (pv 2) (a_cons (e_call h__law_tallies (hr.mono (by decide)) (by rfl) (a_io (i := 2) (pv 2) (a_cons (e_var (pv 4)) (a_cons (e_call h__law_margin (hr.mono (by decide)) (by rfl) (a_io (i := 2) (pv 2) a_nil)) a_nil)))) (a_cons (e_call h__law_line (hr.mono (by decide)) (by rfl) (a_io (i := 2) (pv 2) (a_cons (e_var (pv 4)) a_nil))) a_nil))))))) (b_one (s_ret (e_c pe_bl fun _ => .bl _))) b_nil)))))))
      (b_cons (s_set (i := 8) sc_law.nd rfl (Or.inl rfl) (e_lst (a_cons (e_tup (a_cons (e_c pe_int fun _ => .int _) (a_cons (e_lst (a_cons (e_c pe_int fun _ => .int _) (a_cons (e_c pe_int fun _ => .int _) (a_cons (e_c pe_int fun _ => .int _) (a_cons (e_c pe_int fun _ => .int _) a_nil))))) a_nil))) (a_cons (e_tup (a_cons (e_c pe_int fun _ => .int _) (a_cons (e_lst (a_cons (e_c pe_int fun _ => .int _) (a_cons (e_c pe_int fun _ => .int _) (a_cons (e_c pe_int fun _ => .int _) (a_cons (e_c pe_int fun _ => .int _) a_nil))))) a_nil))) (a_cons (e_tup (a_cons (e_c pe_int fun _ => .int _) (a_cons (e_lst (a_cons (e_c pe_int fun _ => .int _) (a_cons (e_c pe_int fun _ => .int _) (a_cons (e_c pe_int fun _ => .int _) (a_cons (e_c pe_int fun _ => .int _) a_nil))))) a_nil))) (a_cons (e_tup (a_cons (e_c pe_int fun _ => .int _) (a_cons (e_lst (a_cons (e_c pe_int fun _ => .int _) (a_cons (e_c pe_int fun _ => .int _) (a_cons (e_c pe_int fun _ => .int _) (a_cons (e_c pe_int fun _ => .int _) a_nil))))) a_nil))) (a_cons (e_tup (a_cons (e_c pe_int fun _ => .int _) (a_cons (e_lst (a_cons (e_c pe_int fun _ => .int _) (a_cons (e_c pe_int fun _ => .int _) (a_cons (e_c pe_int fun _ => .int _) (a_cons (e_c pe_int fun _ => .int _) a_nil))))) a_nil))) a_nil)))))))
      (b_one (s_ret (e_sc [0, 0, 0, 0, 0, 0, 0, 0, 1, 0] (e_and (e_cmp (op_eqA (K := K) rfl hr.u64) d_eqA (e_call h_orders_by_lead (hr.mono (by decide)) (by rfl) (a_cons (e_lst (a_cons (e_c pe_int fun _ => .int _) (a_cons (e_c pe_int fun _ => .int _) (a_cons (e_c pe_int fun _ => .int _) (a_cons (e_c pe_int fun _ => .int _) a_nil))))) (a_cons (e_lst (a_cons (e_c pe_int fun _ => .int _) (a_cons (e_c pe_int fun _ => .int _) (a_cons (e_c pe_int fun _ => .int _) (a_cons (e_c pe_int fun _ => .int _) a_nil))))) a_nil))) (e_var (pv 8)) (nomark _)) (pe_one (e_cmp (op_eqA (K := K) rfl hr.u64) d_eqA (e_call h_orders_by_lead (hr.mono (by decide)) (by rfl) (a_cons (e_lst (a_cons (e_c pe_int fun _ => .int _) a_nil)) (a_cons (e_lst (a_cons (e_c pe_int fun _ => .int _) a_nil)) a_nil))) (e_lst (a_cons (e_tup (a_cons (e_c pe_int fun _ => .int _) (a_cons (e_lst (a_cons (e_c pe_int fun _ => .int _) a_nil)) a_nil))) a_nil)) (nomark _)))))))))
end
theorem all_mk {l : PySem.W.OpenLaw} {w : World} {K : PySem.W.Frag} {h : Heap} {mg : Str → Option Value} {fa : Addr} (X : K.In h) (G : h.Ns mainGlobals mg) (hfa : mg "law" = some (.ref fa))
    {f__law_open_source : Addr} {od__law_open_source an__law_open_source : Option Addr} {sl__law_open_source : Array (Option Value)} {oc__law_open_source kV__law_open_source dc__law_open_source pm__law_open_source cd__law_open_source ct__law_open_source : Value} {f__law_draw : Addr} {od__law_draw an__law_draw : Option Addr} {sl__law_draw : Array (Option Value)} {oc__law_draw kV__law_draw dc__law_draw pm__law_draw cd__law_draw ct__law_draw : Value} {f__law_many : Addr} {od__law_many an__law_many : Option Addr} {sl__law_many : Array (Option Value)} {oc__law_many kV__law_many dc__law_many pm__law_many cd__law_many ct__law_many : Value} {f_is_integer : Addr} {od_is_integer an_is_integer : Option Addr} {sl_is_integer : Array (Option Value)} {oc_is_integer kV_is_integer dc_is_integer pm_is_integer cd_is_integer ct_is_integer : Value} {f_is_scores : Addr} {od_is_scores an_is_scores : Option Addr} {sl_is_scores : Array (Option Value)} {oc_is_scores kV_is_scores dc_is_scores pm_is_scores cd_is_scores ct_is_scores : Value} {f_check_scores : Addr} {od_check_scores an_check_scores : Option Addr} {sl_check_scores : Array (Option Value)} {oc_check_scores kV_check_scores dc_check_scores pm_check_scores cd_check_scores ct_check_scores : Value} {f_holds_all : Addr} {od_holds_all an_holds_all : Option Addr} {sl_holds_all : Array (Option Value)} {oc_holds_all kV_holds_all dc_holds_all pm_holds_all cd_holds_all ct_holds_all : Value} {f_check_order : Addr} {od_check_order an_check_order : Option Addr} {sl_check_order : Array (Option Value)} {oc_check_order kV_check_order dc_check_order pm_check_order cd_check_order ct_check_order : Value} {f_outleads : Addr} {od_outleads an_outleads : Option Addr} {sl_outleads : Array (Option Value)} {oc_outleads kV_outleads dc_outleads pm_outleads cd_outleads ct_outleads : Value} {f_rise_of : Addr} {od_rise_of an_rise_of : Option Addr} {sl_rise_of : Array (Option Value)} {oc_rise_of kV_rise_of dc_rise_of pm_rise_of cd_rise_of ct_rise_of : Value} {f_left_order : Addr} {od_left_order an_left_order : Option Addr} {sl_left_order : Array (Option Value)} {oc_left_order kV_left_order dc_left_order pm_left_order cd_left_order ct_left_order : Value} {f_left_by_lead : Addr} {od_left_by_lead an_left_by_lead : Option Addr} {sl_left_by_lead : Array (Option Value)} {oc_left_by_lead kV_left_by_lead dc_left_by_lead pm_left_by_lead cd_left_by_lead ct_left_by_lead : Value} {f_orders_by_lead : Addr} {od_orders_by_lead an_orders_by_lead : Option Addr} {sl_orders_by_lead : Array (Option Value)} {oc_orders_by_lead kV_orders_by_lead dc_orders_by_lead pm_orders_by_lead cd_orders_by_lead ct_orders_by_lead : Value} {f__law_any : Addr} {od__law_any an__law_any : Option Addr} {sl__law_any : Array (Option Value)} {oc__law_any kV__law_any dc__law_any pm__law_any cd__law_any ct__law_any : Value} {f__law_wrong : Addr} {od__law_wrong an__law_wrong : Option Addr} {sl__law_wrong : Array (Option Value)} {oc__law_wrong kV__law_wrong dc__law_wrong pm__law_wrong cd__law_wrong ct__law_wrong : Value} {f__law_left : Addr} {od__law_left an__law_left : Option Addr} {sl__law_left : Array (Option Value)} {oc__law_left kV__law_left dc__law_left pm__law_left cd__law_left ct__law_left : Value} {f__law_large_right : Addr} {od__law_large_right an__law_large_right : Option Addr} {sl__law_large_right : Array (Option Value)} {oc__law_large_right kV__law_large_right dc__law_large_right pm__law_large_right cd__law_large_right ct__law_large_right : Value} {f__law_line : Addr} {od__law_line an__law_line : Option Addr} {sl__law_line : Array (Option Value)} {oc__law_line kV__law_line dc__law_line pm__law_line cd__law_line ct__law_line : Value} {f__law_same : Addr} {od__law_same an__law_same : Option Addr} {sl__law_same : Array (Option Value)} {oc__law_same kV__law_same dc__law_same pm__law_same cd__law_same ct__law_same : Value} {f__law_small_right : Addr} {od__law_small_right an__law_small_right : Option Addr} {sl__law_small_right : Array (Option Value)} {oc__law_small_right kV__law_small_right dc__law_small_right pm__law_small_right cd__law_small_right ct__law_small_right : Value} {f__law_tallies : Addr} {od__law_tallies an__law_tallies : Option Addr} {sl__law_tallies : Array (Option Value)} {oc__law_tallies kV__law_tallies dc__law_tallies pm__law_tallies cd__law_tallies ct__law_tallies : Value} {f__law_margin : Addr} {od__law_margin an__law_margin : Option Addr} {sl__law_margin : Array (Option Value)} {oc__law_margin kV__law_margin dc__law_margin pm__law_margin cd__law_margin ct__law_margin : Value} {f_law : Addr} {od_law an_law : Option Addr} {sl_law : Array (Option Value)} {oc_law kV_law dc_law pm_law cd_law ct_law : Value}
    (c_MOST_ENTRIES : ∃ t, PySem.W.nsIn K mainGlobals "MOST_ENTRIES" = some (some (.int 28 t)))
    (a__law_open_source : PySem.W.nsIn K mainGlobals "_law_open_source" = some (some (.ref f__law_open_source))) (l__law_open_source : K.lookup f__law_open_source = some ⟨oc__law_open_source, od__law_open_source, .func (PySem.W.fnOf "_law_open_source" "_law_open_source" (defArgs s__law_open_source) (defBody s__law_open_source) (defScope s__law_open_source) .none kV__law_open_source dc__law_open_source pm__law_open_source an__law_open_source cd__law_open_source ct__law_open_source), sl__law_open_source⟩) (d__law_open_source : PySem.W.codeIn K cd__law_open_source "_law_open_source" = true) (k__law_open_source : PySem.W.keepIn K (.ref f__law_open_source) = true)
    (a__law_draw : PySem.W.nsIn K mainGlobals "_law_draw" = some (some (.ref f__law_draw))) (l__law_draw : K.lookup f__law_draw = some ⟨oc__law_draw, od__law_draw, .func (PySem.W.fnOf "_law_draw" "_law_draw" (defArgs s__law_draw) (defBody s__law_draw) (defScope s__law_draw) .none kV__law_draw dc__law_draw pm__law_draw an__law_draw cd__law_draw ct__law_draw), sl__law_draw⟩) (d__law_draw : PySem.W.codeIn K cd__law_draw "_law_draw" = true) (k__law_draw : PySem.W.keepIn K (.ref f__law_draw) = true)
    (a__law_many : PySem.W.nsIn K mainGlobals "_law_many" = some (some (.ref f__law_many))) (l__law_many : K.lookup f__law_many = some ⟨oc__law_many, od__law_many, .func (PySem.W.fnOf "_law_many" "_law_many" (defArgs s__law_many) (defBody s__law_many) (defScope s__law_many) .none kV__law_many dc__law_many pm__law_many an__law_many cd__law_many ct__law_many), sl__law_many⟩) (d__law_many : PySem.W.codeIn K cd__law_many "_law_many" = true) (k__law_many : PySem.W.keepIn K (.ref f__law_many) = true)
    (a_is_integer : PySem.W.nsIn K mainGlobals "is_integer" = some (some (.ref f_is_integer))) (l_is_integer : K.lookup f_is_integer = some ⟨oc_is_integer, od_is_integer, .func (PySem.W.fnOf "is_integer" "is_integer" (defArgs s_is_integer) (defBody s_is_integer) (defScope s_is_integer) .none kV_is_integer dc_is_integer pm_is_integer an_is_integer cd_is_integer ct_is_integer), sl_is_integer⟩) (d_is_integer : PySem.W.codeIn K cd_is_integer "is_integer" = true) (k_is_integer : PySem.W.keepIn K (.ref f_is_integer) = true)
    (a_is_scores : PySem.W.nsIn K mainGlobals "is_scores" = some (some (.ref f_is_scores))) (l_is_scores : K.lookup f_is_scores = some ⟨oc_is_scores, od_is_scores, .func (PySem.W.fnOf "is_scores" "is_scores" (defArgs s_is_scores) (defBody s_is_scores) (defScope s_is_scores) .none kV_is_scores dc_is_scores pm_is_scores an_is_scores cd_is_scores ct_is_scores), sl_is_scores⟩) (d_is_scores : PySem.W.codeIn K cd_is_scores "is_scores" = true) (k_is_scores : PySem.W.keepIn K (.ref f_is_scores) = true)
    (a_check_scores : PySem.W.nsIn K mainGlobals "check_scores" = some (some (.ref f_check_scores))) (l_check_scores : K.lookup f_check_scores = some ⟨oc_check_scores, od_check_scores, .func (PySem.W.fnOf "check_scores" "check_scores" (defArgs s_check_scores) (defBody s_check_scores) (defScope s_check_scores) .none kV_check_scores dc_check_scores pm_check_scores an_check_scores cd_check_scores ct_check_scores), sl_check_scores⟩) (d_check_scores : PySem.W.codeIn K cd_check_scores "check_scores" = true) (k_check_scores : PySem.W.keepIn K (.ref f_check_scores) = true)
    (a_holds_all : PySem.W.nsIn K mainGlobals "holds_all" = some (some (.ref f_holds_all))) (l_holds_all : K.lookup f_holds_all = some ⟨oc_holds_all, od_holds_all, .func (PySem.W.fnOf "holds_all" "holds_all" (defArgs s_holds_all) (defBody s_holds_all) (defScope s_holds_all) .none kV_holds_all dc_holds_all pm_holds_all an_holds_all cd_holds_all ct_holds_all), sl_holds_all⟩) (d_holds_all : PySem.W.codeIn K cd_holds_all "holds_all" = true) (k_holds_all : PySem.W.keepIn K (.ref f_holds_all) = true)
    (a_check_order : PySem.W.nsIn K mainGlobals "check_order" = some (some (.ref f_check_order))) (l_check_order : K.lookup f_check_order = some ⟨oc_check_order, od_check_order, .func (PySem.W.fnOf "check_order" "check_order" (defArgs s_check_order) (defBody s_check_order) (defScope s_check_order) .none kV_check_order dc_check_order pm_check_order an_check_order cd_check_order ct_check_order), sl_check_order⟩) (d_check_order : PySem.W.codeIn K cd_check_order "check_order" = true) (k_check_order : PySem.W.keepIn K (.ref f_check_order) = true)
    (a_outleads : PySem.W.nsIn K mainGlobals "outleads" = some (some (.ref f_outleads))) (l_outleads : K.lookup f_outleads = some ⟨oc_outleads, od_outleads, .func (PySem.W.fnOf "outleads" "outleads" (defArgs s_outleads) (defBody s_outleads) (defScope s_outleads) .none kV_outleads dc_outleads pm_outleads an_outleads cd_outleads ct_outleads), sl_outleads⟩) (d_outleads : PySem.W.codeIn K cd_outleads "outleads" = true) (k_outleads : PySem.W.keepIn K (.ref f_outleads) = true)
    (a_rise_of : PySem.W.nsIn K mainGlobals "rise_of" = some (some (.ref f_rise_of))) (l_rise_of : K.lookup f_rise_of = some ⟨oc_rise_of, od_rise_of, .func (PySem.W.fnOf "rise_of" "rise_of" (defArgs s_rise_of) (defBody s_rise_of) (defScope s_rise_of) .none kV_rise_of dc_rise_of pm_rise_of an_rise_of cd_rise_of ct_rise_of), sl_rise_of⟩) (d_rise_of : PySem.W.codeIn K cd_rise_of "rise_of" = true) (k_rise_of : PySem.W.keepIn K (.ref f_rise_of) = true)
    (a_left_order : PySem.W.nsIn K mainGlobals "left_order" = some (some (.ref f_left_order))) (l_left_order : K.lookup f_left_order = some ⟨oc_left_order, od_left_order, .func (PySem.W.fnOf "left_order" "left_order" (defArgs s_left_order) (defBody s_left_order) (defScope s_left_order) .none kV_left_order dc_left_order pm_left_order an_left_order cd_left_order ct_left_order), sl_left_order⟩) (d_left_order : PySem.W.codeIn K cd_left_order "left_order" = true) (k_left_order : PySem.W.keepIn K (.ref f_left_order) = true)
    (a_left_by_lead : PySem.W.nsIn K mainGlobals "left_by_lead" = some (some (.ref f_left_by_lead))) (l_left_by_lead : K.lookup f_left_by_lead = some ⟨oc_left_by_lead, od_left_by_lead, .func (PySem.W.fnOf "left_by_lead" "left_by_lead" (defArgs s_left_by_lead) (defBody s_left_by_lead) (defScope s_left_by_lead) .none kV_left_by_lead dc_left_by_lead pm_left_by_lead an_left_by_lead cd_left_by_lead ct_left_by_lead), sl_left_by_lead⟩) (d_left_by_lead : PySem.W.codeIn K cd_left_by_lead "left_by_lead" = true) (k_left_by_lead : PySem.W.keepIn K (.ref f_left_by_lead) = true)
    (a_orders_by_lead : PySem.W.nsIn K mainGlobals "orders_by_lead" = some (some (.ref f_orders_by_lead))) (l_orders_by_lead : K.lookup f_orders_by_lead = some ⟨oc_orders_by_lead, od_orders_by_lead, .func (PySem.W.fnOf "orders_by_lead" "orders_by_lead" (defArgs s_orders_by_lead) (defBody s_orders_by_lead) (defScope s_orders_by_lead) .none kV_orders_by_lead dc_orders_by_lead pm_orders_by_lead an_orders_by_lead cd_orders_by_lead ct_orders_by_lead), sl_orders_by_lead⟩) (d_orders_by_lead : PySem.W.codeIn K cd_orders_by_lead "orders_by_lead" = true) (k_orders_by_lead : PySem.W.keepIn K (.ref f_orders_by_lead) = true)
    (a__law_any : PySem.W.nsIn K mainGlobals "_law_any" = some (some (.ref f__law_any))) (l__law_any : K.lookup f__law_any = some ⟨oc__law_any, od__law_any, .func (PySem.W.fnOf "_law_any" "_law_any" (defArgs s__law_any) (defBody s__law_any) (defScope s__law_any) .none kV__law_any dc__law_any pm__law_any an__law_any cd__law_any ct__law_any), sl__law_any⟩) (d__law_any : PySem.W.codeIn K cd__law_any "_law_any" = true) (k__law_any : PySem.W.keepIn K (.ref f__law_any) = true)
    (a__law_wrong : PySem.W.nsIn K mainGlobals "_law_wrong" = some (some (.ref f__law_wrong))) (l__law_wrong : K.lookup f__law_wrong = some ⟨oc__law_wrong, od__law_wrong, .func (PySem.W.fnOf "_law_wrong" "_law_wrong" (defArgs s__law_wrong) (defBody s__law_wrong) (defScope s__law_wrong) .none kV__law_wrong dc__law_wrong pm__law_wrong an__law_wrong cd__law_wrong ct__law_wrong), sl__law_wrong⟩) (d__law_wrong : PySem.W.codeIn K cd__law_wrong "_law_wrong" = true) (k__law_wrong : PySem.W.keepIn K (.ref f__law_wrong) = true)
    (a__law_left : PySem.W.nsIn K mainGlobals "_law_left" = some (some (.ref f__law_left))) (l__law_left : K.lookup f__law_left = some ⟨oc__law_left, od__law_left, .func (PySem.W.fnOf "_law_left" "_law_left" (defArgs s__law_left) (defBody s__law_left) (defScope s__law_left) .none kV__law_left dc__law_left pm__law_left an__law_left cd__law_left ct__law_left), sl__law_left⟩) (d__law_left : PySem.W.codeIn K cd__law_left "_law_left" = true) (k__law_left : PySem.W.keepIn K (.ref f__law_left) = true)
    (a__law_large_right : PySem.W.nsIn K mainGlobals "_law_large_right" = some (some (.ref f__law_large_right))) (l__law_large_right : K.lookup f__law_large_right = some ⟨oc__law_large_right, od__law_large_right, .func (PySem.W.fnOf "_law_large_right" "_law_large_right" (defArgs s__law_large_right) (defBody s__law_large_right) (defScope s__law_large_right) .none kV__law_large_right dc__law_large_right pm__law_large_right an__law_large_right cd__law_large_right ct__law_large_right), sl__law_large_right⟩) (d__law_large_right : PySem.W.codeIn K cd__law_large_right "_law_large_right" = true) (k__law_large_right : PySem.W.keepIn K (.ref f__law_large_right) = true)
    (a__law_line : PySem.W.nsIn K mainGlobals "_law_line" = some (some (.ref f__law_line))) (l__law_line : K.lookup f__law_line = some ⟨oc__law_line, od__law_line, .func (PySem.W.fnOf "_law_line" "_law_line" (defArgs s__law_line) (defBody s__law_line) (defScope s__law_line) .none kV__law_line dc__law_line pm__law_line an__law_line cd__law_line ct__law_line), sl__law_line⟩) (d__law_line : PySem.W.codeIn K cd__law_line "_law_line" = true) (k__law_line : PySem.W.keepIn K (.ref f__law_line) = true)
    (a__law_same : PySem.W.nsIn K mainGlobals "_law_same" = some (some (.ref f__law_same))) (l__law_same : K.lookup f__law_same = some ⟨oc__law_same, od__law_same, .func (PySem.W.fnOf "_law_same" "_law_same" (defArgs s__law_same) (defBody s__law_same) (defScope s__law_same) .none kV__law_same dc__law_same pm__law_same an__law_same cd__law_same ct__law_same), sl__law_same⟩) (d__law_same : PySem.W.codeIn K cd__law_same "_law_same" = true) (k__law_same : PySem.W.keepIn K (.ref f__law_same) = true)
    (a__law_small_right : PySem.W.nsIn K mainGlobals "_law_small_right" = some (some (.ref f__law_small_right))) (l__law_small_right : K.lookup f__law_small_right = some ⟨oc__law_small_right, od__law_small_right, .func (PySem.W.fnOf "_law_small_right" "_law_small_right" (defArgs s__law_small_right) (defBody s__law_small_right) (defScope s__law_small_right) .none kV__law_small_right dc__law_small_right pm__law_small_right an__law_small_right cd__law_small_right ct__law_small_right), sl__law_small_right⟩) (d__law_small_right : PySem.W.codeIn K cd__law_small_right "_law_small_right" = true) (k__law_small_right : PySem.W.keepIn K (.ref f__law_small_right) = true)
    (a__law_tallies : PySem.W.nsIn K mainGlobals "_law_tallies" = some (some (.ref f__law_tallies))) (l__law_tallies : K.lookup f__law_tallies = some ⟨oc__law_tallies, od__law_tallies, .func (PySem.W.fnOf "_law_tallies" "_law_tallies" (defArgs s__law_tallies) (defBody s__law_tallies) (defScope s__law_tallies) .none kV__law_tallies dc__law_tallies pm__law_tallies an__law_tallies cd__law_tallies ct__law_tallies), sl__law_tallies⟩) (d__law_tallies : PySem.W.codeIn K cd__law_tallies "_law_tallies" = true) (k__law_tallies : PySem.W.keepIn K (.ref f__law_tallies) = true)
    (a__law_margin : PySem.W.nsIn K mainGlobals "_law_margin" = some (some (.ref f__law_margin))) (l__law_margin : K.lookup f__law_margin = some ⟨oc__law_margin, od__law_margin, .func (PySem.W.fnOf "_law_margin" "_law_margin" (defArgs s__law_margin) (defBody s__law_margin) (defScope s__law_margin) .none kV__law_margin dc__law_margin pm__law_margin an__law_margin cd__law_margin ct__law_margin), sl__law_margin⟩) (d__law_margin : PySem.W.codeIn K cd__law_margin "_law_margin" = true) (k__law_margin : PySem.W.keepIn K (.ref f__law_margin) = true)
    (a_law : PySem.W.nsIn K mainGlobals "law" = some (some (.ref f_law))) (l_law : K.lookup f_law = some ⟨oc_law, od_law, .func (PySem.W.fnOf "law" "law" (defArgs s_law) (defBody s_law) (defScope s_law) .none kV_law dc_law pm_law an_law cd_law ct_law), sl_law⟩) (d_law : PySem.W.codeIn K cd_law "law" = true) (k_law : PySem.W.keepIn K (.ref f_law) = true)
    (z_isinstance : PySem.W.nsIn K mainGlobals "isinstance" = some none)
    (z_bool : PySem.W.nsIn K mainGlobals "bool" = some none)
    (z_int : PySem.W.nsIn K mainGlobals "int" = some none)
    (z_all : PySem.W.nsIn K mainGlobals "all" = some none)
    (z_list : PySem.W.nsIn K mainGlobals "list" = some none)
    (z_len : PySem.W.nsIn K mainGlobals "len" = some none)
    (z_sorted : PySem.W.nsIn K mainGlobals "sorted" = some none)
    (z_range : PySem.W.nsIn K mainGlobals "range" = some none)
    (z_set : PySem.W.nsIn K mainGlobals "set" = some none)
    (z_max : PySem.W.nsIn K mainGlobals "max" = some none)
    (z_tuple : PySem.W.nsIn K mainGlobals "tuple" = some none)
    (z_str : PySem.W.nsIn K mainGlobals "str" = some none)
    (z_zip : PySem.W.nsIn K mainGlobals "zip" = some none)
    (z_min : PySem.W.nsIn K mainGlobals "min" = some none)
    (z_enumerate : PySem.W.nsIn K mainGlobals "enumerate" = some none)
    : ∃ fd : FuncData, (∀ (s : Shared) (v : Value), BindsTo s fd ⟨[v], []⟩ [("script", v)]) ∧ ∀ base : Heap, K.In base → base.Ns mainGlobals mg → FnG l.prog w K mg base CX0 7 fa fd ["script"] (spD K [false] F_law) := by
  have T : Bn mg := ⟨PySem.W.mg_none_of X G z_isinstance, PySem.W.mg_none_of X G z_bool, PySem.W.mg_none_of X G z_int, PySem.W.mg_none_of X G z_all, PySem.W.mg_none_of X G z_list, PySem.W.mg_none_of X G z_len, PySem.W.mg_none_of X G z_sorted, PySem.W.mg_none_of X G z_range, PySem.W.mg_none_of X G z_set, PySem.W.mg_none_of X G z_max, PySem.W.mg_none_of X G z_tuple, PySem.W.mg_none_of X G z_str, PySem.W.mg_none_of X G z_zip, PySem.W.mg_none_of X G z_min, PySem.W.mg_none_of X G z_enumerate, (let ⟨t, e⟩ := c_MOST_ENTRIES; ⟨t, PySem.W.mg_of X G e⟩)⟩
  have e := hfa.symm.trans (PySem.W.mg_of X G a_law)
  cases e
  have F__law_open_source := fun_mk (st := s__law_open_source) l__law_open_source d__law_open_source k__law_open_source
  have F__law_draw := fun_mk (st := s__law_draw) l__law_draw d__law_draw k__law_draw
  have F__law_many := fun_mk (st := s__law_many) l__law_many d__law_many k__law_many
  have F_is_integer := fun_mk (st := s_is_integer) l_is_integer d_is_integer k_is_integer
  have F_is_scores := fun_mk (st := s_is_scores) l_is_scores d_is_scores k_is_scores
  have F_check_scores := fun_mk (st := s_check_scores) l_check_scores d_check_scores k_check_scores
  have F_holds_all := fun_mk (st := s_holds_all) l_holds_all d_holds_all k_holds_all
  have F_check_order := fun_mk (st := s_check_order) l_check_order d_check_order k_check_order
  have F_outleads := fun_mk (st := s_outleads) l_outleads d_outleads k_outleads
  have F_rise_of := fun_mk (st := s_rise_of) l_rise_of d_rise_of k_rise_of
  have F_left_order := fun_mk (st := s_left_order) l_left_order d_left_order k_left_order
  have F_left_by_lead := fun_mk (st := s_left_by_lead) l_left_by_lead d_left_by_lead k_left_by_lead
  have F_orders_by_lead := fun_mk (st := s_orders_by_lead) l_orders_by_lead d_orders_by_lead k_orders_by_lead
  have F__law_any := fun_mk (st := s__law_any) l__law_any d__law_any k__law_any
  have F__law_wrong := fun_mk (st := s__law_wrong) l__law_wrong d__law_wrong k__law_wrong
  have F__law_left := fun_mk (st := s__law_left) l__law_left d__law_left k__law_left
  have F__law_large_right := fun_mk (st := s__law_large_right) l__law_large_right d__law_large_right k__law_large_right
  have F__law_line := fun_mk (st := s__law_line) l__law_line d__law_line k__law_line
  have F__law_same := fun_mk (st := s__law_same) l__law_same d__law_same k__law_same
  have F__law_small_right := fun_mk (st := s__law_small_right) l__law_small_right d__law_small_right k__law_small_right
  have F__law_tallies := fun_mk (st := s__law_tallies) l__law_tallies d__law_tallies k__law_tallies
  have F__law_margin := fun_mk (st := s__law_margin) l__law_margin d__law_margin k__law_margin
  have F_law := fun_mk (st := s_law) l_law d_law k_law
  refine ⟨PySem.W.fnOf "law" "law" (defArgs s_law) (defBody s_law) (defScope s_law) .none kV_law dc_law pm_law an_law cd_law ct_law, fun s v => .of_eq rfl, fun base hb hn => ?_⟩
  have h__law_open_source := ok__law_open_source (P := l.prog) (w := w) (base := base) F__law_open_source (PySem.W.mg_of X G a__law_open_source) T 
  have h__law_draw := ok__law_draw (P := l.prog) (w := w) (base := base) F__law_draw (PySem.W.mg_of X G a__law_draw) T 
  have h__law_many := ok__law_many (P := l.prog) (w := w) (base := base) F__law_many (PySem.W.mg_of X G a__law_many) T h__law_draw
  have h_is_integer := ok_is_integer (P := l.prog) (w := w) (base := base) F_is_integer (PySem.W.mg_of X G a_is_integer) T 
  have h_is_scores := ok_is_scores (P := l.prog) (w := w) (base := base) F_is_scores (PySem.W.mg_of X G a_is_scores) T h_is_integer
  have h_check_scores := ok_check_scores (P := l.prog) (w := w) (base := base) F_check_scores (PySem.W.mg_of X G a_check_scores) T h_is_scores
  have h_holds_all := ok_holds_all (P := l.prog) (w := w) (base := base) F_holds_all (PySem.W.mg_of X G a_holds_all) T h_is_integer
  have h_check_order := ok_check_order (P := l.prog) (w := w) (base := base) F_check_order (PySem.W.mg_of X G a_check_order) T h_holds_all
  have h_outleads := ok_outleads (P := l.prog) (w := w) (base := base) F_outleads (PySem.W.mg_of X G a_outleads) T 
  have h_rise_of := ok_rise_of (P := l.prog) (w := w) (base := base) F_rise_of (PySem.W.mg_of X G a_rise_of) T h_outleads
  have h_left_order := ok_left_order (P := l.prog) (w := w) (base := base) F_left_order (PySem.W.mg_of X G a_left_order) T h_rise_of
  have h_left_by_lead := ok_left_by_lead (P := l.prog) (w := w) (base := base) F_left_by_lead (PySem.W.mg_of X G a_left_by_lead) T h_left_order
  have h_orders_by_lead := ok_orders_by_lead (P := l.prog) (w := w) (base := base) F_orders_by_lead (PySem.W.mg_of X G a_orders_by_lead) T h_check_scores h_check_order h_left_by_lead
  have h__law_any := ok__law_any (P := l.prog) (w := w) (base := base) F__law_any (PySem.W.mg_of X G a__law_any) T h__law_draw
  have h__law_wrong := ok__law_wrong (P := l.prog) (w := w) (base := base) F__law_wrong (PySem.W.mg_of X G a__law_wrong) T 
  have h__law_left := ok__law_left (P := l.prog) (w := w) (base := base) F__law_left (PySem.W.mg_of X G a__law_left) T h__law_wrong
  have h__law_large_right := ok__law_large_right (P := l.prog) (w := w) (base := base) F__law_large_right (PySem.W.mg_of X G a__law_large_right) T h_orders_by_lead h__law_draw h__law_any h__law_left
  have h__law_line := ok__law_line (P := l.prog) (w := w) (base := base) F__law_line (PySem.W.mg_of X G a__law_line) T h__law_draw
  have h__law_same := ok__law_same (P := l.prog) (w := w) (base := base) F__law_same (PySem.W.mg_of X G a__law_same) T 
  have h__law_small_right := ok__law_small_right (P := l.prog) (w := w) (base := base) F__law_small_right (PySem.W.mg_of X G a__law_small_right) T h_orders_by_lead h__law_left h__law_same
  have h__law_tallies := ok__law_tallies (P := l.prog) (w := w) (base := base) F__law_tallies (PySem.W.mg_of X G a__law_tallies) T h__law_draw h__law_any
  have h__law_margin := ok__law_margin (P := l.prog) (w := w) (base := base) F__law_margin (PySem.W.mg_of X G a__law_margin) T h__law_draw h__law_any
  exact okG_law F_law T h__law_open_source h__law_many h__law_large_right h_orders_by_lead h__law_line h__law_small_right h__law_tallies h__law_draw h__law_margin
end My
open PySem PySem.W PyProof.Rows
set_option maxRecDepth 100000 in
set_option maxHeartbeats 0 in
theorem PySem.Challenge.cw_leadboard_k45_orders_by_lead_holds : PySem.Challenge.rw_leadboard_k45_orders_by_lead.Holds := by
  w_on; o_law; k_head; (case hw => w_witness2)
  k_fill
  refine DL.walkD (l := PySem.Challenge.rw_leadboard_k45_orders_by_lead) (n := 63) (k := 7) (x := "script") (FD := My.F_law) rfl (by decide) rfl ⟨rfl, by decide, by decide⟩ (fun w h Y => PySem.W.kIn_of Y) ?F My.law_true
  case F =>
    intro w mg fa h KX G hmg
    refine' My.all_mk KX G hmg ?c_MOST_ENTRIES ?a__law_open_source ?l__law_open_source ?d__law_open_source ?k__law_open_source ?a__law_draw ?l__law_draw ?d__law_draw ?k__law_draw ?a__law_many ?l__law_many ?d__law_many ?k__law_many ?a_is_integer ?l_is_integer ?d_is_integer ?k_is_integer ?a_is_scores ?l_is_scores ?d_is_scores ?k_is_scores ?a_check_scores ?l_check_scores ?d_check_scores ?k_check_scores ?a_holds_all ?l_holds_all ?d_holds_all ?k_holds_all ?a_check_order ?l_check_order ?d_check_order ?k_check_order ?a_outleads ?l_outleads ?d_outleads ?k_outleads ?a_rise_of ?l_rise_of ?d_rise_of ?k_rise_of ?a_left_order ?l_left_order ?d_left_order ?k_left_order ?a_left_by_lead ?l_left_by_lead ?d_left_by_lead ?k_left_by_lead ?a_orders_by_lead ?l_orders_by_lead ?d_orders_by_lead ?k_orders_by_lead ?a__law_any ?l__law_any ?d__law_any ?k__law_any ?a__law_wrong ?l__law_wrong ?d__law_wrong ?k__law_wrong ?a__law_left ?l__law_left ?d__law_left ?k__law_left ?a__law_large_right ?l__law_large_right ?d__law_large_right ?k__law_large_right ?a__law_line ?l__law_line ?d__law_line ?k__law_line ?a__law_same ?l__law_same ?d__law_same ?k__law_same ?a__law_small_right ?l__law_small_right ?d__law_small_right ?k__law_small_right ?a__law_tallies ?l__law_tallies ?d__law_tallies ?k__law_tallies ?a__law_margin ?l__law_margin ?d__law_margin ?k__law_margin ?a_law ?l_law ?d_law ?k_law ?z_isinstance ?z_bool ?z_int ?z_all ?z_list ?z_len ?z_sorted ?z_range ?z_set ?z_max ?z_tuple ?z_str ?z_zip ?z_min ?z_enumerate
    (case c_MOST_ENTRIES => exact ⟨_, by k_is⟩)
    (case a__law_open_source => k_is)
    (case l__law_open_source => k_is)
    (case d__law_open_source => k_is)
    (case k__law_open_source => k_is)
    (case a__law_draw => k_is)
    (case l__law_draw => k_is)
    (case d__law_draw => k_is)
    (case k__law_draw => k_is)
    (case a__law_many => k_is)
    (case l__law_many => k_is)
    (case d__law_many => k_is)
    (case k__law_many => k_is)
    (case a_is_integer => k_is)
    (case l_is_integer => k_is)
    (case d_is_integer => k_is)
    (case k_is_integer => k_is)
    (case a_is_scores => k_is)
    (case l_is_scores => k_is)
    (case d_is_scores => k_is)
    (case k_is_scores => k_is)
    (case a_check_scores => k_is)
    (case l_check_scores => k_is)
    (case d_check_scores => k_is)
    (case k_check_scores => k_is)
    (case a_holds_all => k_is)
    (case l_holds_all => k_is)
    (case d_holds_all => k_is)
    (case k_holds_all => k_is)
    (case a_check_order => k_is)
    (case l_check_order => k_is)
    (case d_check_order => k_is)
    (case k_check_order => k_is)
    (case a_outleads => k_is)
    (case l_outleads => k_is)
    (case d_outleads => k_is)
    (case k_outleads => k_is)
    (case a_rise_of => k_is)
    (case l_rise_of => k_is)
    (case d_rise_of => k_is)
    (case k_rise_of => k_is)
    (case a_left_order => k_is)
    (case l_left_order => k_is)
    (case d_left_order => k_is)
    (case k_left_order => k_is)
    (case a_left_by_lead => k_is)
    (case l_left_by_lead => k_is)
    (case d_left_by_lead => k_is)
    (case k_left_by_lead => k_is)
    (case a_orders_by_lead => k_is)
    (case l_orders_by_lead => k_is)
    (case d_orders_by_lead => k_is)
    (case k_orders_by_lead => k_is)
    (case a__law_any => k_is)
    (case l__law_any => k_is)
    (case d__law_any => k_is)
    (case k__law_any => k_is)
    (case a__law_wrong => k_is)
    (case l__law_wrong => k_is)
    (case d__law_wrong => k_is)
    (case k__law_wrong => k_is)
    (case a__law_left => k_is)
    (case l__law_left => k_is)
    (case d__law_left => k_is)
    (case k__law_left => k_is)
    (case a__law_large_right => k_is)
    (case l__law_large_right => k_is)
    (case d__law_large_right => k_is)
    (case k__law_large_right => k_is)
    (case a__law_line => k_is)
    (case l__law_line => k_is)
    (case d__law_line => k_is)
    (case k__law_line => k_is)
    (case a__law_same => k_is)
    (case l__law_same => k_is)
    (case d__law_same => k_is)
    (case k__law_same => k_is)
    (case a__law_small_right => k_is)
    (case l__law_small_right => k_is)
    (case d__law_small_right => k_is)
    (case k__law_small_right => k_is)
    (case a__law_tallies => k_is)
    (case l__law_tallies => k_is)
    (case d__law_tallies => k_is)
    (case k__law_tallies => k_is)
    (case a__law_margin => k_is)
    (case l__law_margin => k_is)
    (case d__law_margin => k_is)
    (case k__law_margin => k_is)
    (case a_law => k_is)
    (case l_law => k_is)
    (case d_law => k_is)
    (case k_law => k_is)
    (case z_isinstance => k_is)
    (case z_bool => k_is)
    (case z_int => k_is)
    (case z_all => k_is)
    (case z_list => k_is)
    (case z_len => k_is)
    (case z_sorted => k_is)
    (case z_range => k_is)
    (case z_set => k_is)
    (case z_max => k_is)
    (case z_tuple => k_is)
    (case z_str => k_is)
    (case z_zip => k_is)
    (case z_min => k_is)
    (case z_enumerate => k_is)
