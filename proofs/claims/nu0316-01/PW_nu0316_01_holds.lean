import PyProof.Rows.All
import Wide.All
import OpenK.AllK
import Wide.FinOn
import Lean
import PySem.Challenge.RW_nu0316_01
open PySem PySem.W PySem.Calls PyProof.Rows PySem.Spec
set_option Elab.async false
set_option maxRecDepth 100000
set_option maxHeartbeats 8000000
set_option linter.unusedVariables false
set_option linter.unusedSimpArgs false
set_option compiler.extract_closed false
namespace Mine
set_option synthInstance.maxSize 1 in
open_top hd for PySem.Challenge.rw_nu0316_01.row

/-- what a body's end says: the frame, and what is said of the heap and the value handed back -/
def Fin (g : Heap) (L : Addr) (s : Shared) (Out : Heap → Value → Prop) (fl : Flow) (s' : Shared) : Prop :=
  ∃ m' h' tk, s' = { s with heap := h', toks := tk } ∧ Fr g L h' m' ∧ Out h' (match fl with | .ret v => v | _ => .none)

section
variable {prog : Program} {w : World} {A₀ A : Around} {E : Value → Shared → Prop} {s : Shared} {base h₀ : Heap} {outer : List Env} {L : Addr} {m : Str → Option Value} {env : Env} {news : List (Addr × Obj)}
theorem code_B {K : Frag} {p : Program} {loose : List Str} {mean : ExcName → Option Value} {mg mb : Str → Option Value} {Q : Value → Shared → Prop} {name qual : Str} {params : Arguments} {body : List Stmt} {scope : Scope} {dV kV doc pm cdv ct oc : Value} {an od : Option Addr} {osl : Array (Option Value)} {f : Addr} {args : Args} {binds : List (Str × Value)}
    (Out : Heap → Value → Prop)
    (B : Below A₀ base outer h₀) (F : Fr h₀ L s.heap m) (X₀ : K.In h₀) (N : News h₀ L s.heap news) (T : Top p loose mean mg mb h₀) (hA : A.frames = some (env :: outer)) (hf : env.frame = some L) (hke : env.scope.kind = .function)
    (ho : K.lookup f = some ⟨oc, od, .func (fnOf name qual params body scope dV kV doc pm an cdv ct), osl⟩) (hcd : codeIn K cdv qual = true) (hroom : A.depth < recursionLimit)
    (hbind : BindsTo s (fnOf name qual params body scope dV kV doc pm an cdv ct) args binds) (hloc : ∀ y ∈ binds, scope.names.lookup y.1 = some .local)
    (ret : ∀ r h' tk, (∀ b o, s.heap.get? b = some o → b ∉ news.map (·.1) → h'.get? b = some o) → Out h' r → Q r { s with heap := h', toks := tk })
    (h : ∀ g L' h₁, GSub s.heap g (news.map (·.1)) → Fr g L' h₁ (fun y => binds.reverse.lookup y) → News g L' h₁ news → Below A base (env :: outer) g → K.In g → Top p loose mean mg mb g →
      wpAny (model prog w) (A.deeper (envOf qual scope L' f cdv)) (execs body (envOf qual scope L' f cdv))
        (Fin g L' s Out)
        (fun e s' => wpAny (model prog w) (A.deeper (envOf qual scope L' f cdv)) (leaving (envOf qual scope L' f cdv) e) (fun _ s'' => E e s'') (fun e' s'' => E e' s'') s')
        { s with heap := h₁, toks := s.toks + binds.length })
    (hco : scope.isCoroutine = false) (hgen : scope.isGenerator = false) (hk : scope.kind = .function)
    (hcell : ∀ x ∈ scope.names, x.2 ≠ .cell) :
    codeAny (model prog w) A (.call (.ref f) args) (fun r s' => match r with | .ok (.ret v) => Q v s' | .ok _ => False | .error e => E e s') s := by
  refine code_defG B F X₀ N T hA hf hke ho hcd hroom hbind hloc (fun g L' h₁ FG F' N' B' X' T' sub => ?_) hco hgen hk hcell
  refine wpAny_mono (h g L' h₁ sub F' N' B' X' T') (fun fl s' hf => ?_) fun _ _ e => e
  obtain ⟨m', h', tk, rfl, Fe, O⟩ := hf
  exact ⟨L', m', [], Fe, News.nil, fun _ _ => ret _ h' tk (fun b o e hb => Fe.keep b o (sub b o e hb)) O⟩
end
section
variable {P Q : Prop} {c : Prop} [Decidable c] {x y : Int} {b : Bool}
theorem m_ieq_no (h : x ≠ y) (q : Q) : if (x == y) = true then P else Q := by rw [if_neg (by simpa using h)]; exact q
theorem m_ieq_yes (h : x = y) (q : P) : if (x == y) = true then P else Q := by rw [if_pos (by simpa using h)]; exact q
theorem m_ine_no (h : x ≠ y) (q : P) : if (x != y) = true then P else Q := by rw [if_pos (by simpa using h)]; exact q
theorem m_ine_yes (h : x = y) (q : Q) : if (x != y) = true then P else Q := by rw [if_neg (by simpa using h)]; exact q
theorem m_dec_no (h : ¬ c) (q : Q) : if decide c = true then P else Q := by rw [if_neg (by simpa using h)]; exact q
theorem m_dec_yes (h : c) (q : P) : if decide c = true then P else Q := by rw [if_pos (by simpa using h)]; exact q
theorem m_b_no (h : b = false) (q : Q) : if b = true then P else Q := by rw [if_neg (by simp [h])]; exact q
theorem m_b_yes (h : b = true) (q : P) : if b = true then P else Q := by rw [if_pos h]; exact q
end

mutual
/-- a value reads as a datum over the objects that are known -/
inductive DI (G : Addr → Obj → Prop) : Value → Dat → Prop
  | none : DI G Value.none Dat.none
  | bool (b : Bool) : DI G (Value.bool b) (Dat.bool b)
  | int (i : Int) (t : Tok) : DI G (Value.int i t) (Dat.int i)
  | str (x : Str) (t : Tok) : DI G (Value.str x t) (Dat.str x)
  | tuple {a : Addr} {o : Obj} {vs : List Value} {n : Nat} {ds : List Dat} : G a o → o.cls = .type "tuple" → o.data = .seq (List.toArray vs) n → DIs G vs ds → DI G (Value.ref a) (Dat.tuple ds)
  | list {a : Addr} {o : Obj} {vs : List Value} {n : Nat} {ds : List Dat} : G a o → o.cls = .type "list" → o.data = .seq (List.toArray vs) n → DIs G vs ds → DI G (Value.ref a) (Dat.list ds)
inductive DIs (G : Addr → Obj → Prop) : List Value → List Dat → Prop
  | nil : DIs G [] []
  | cons {v : Value} {vs : List Value} {d : Dat} {ds : List Dat} : DI G v d → DIs G vs ds → DIs G (v :: vs) (d :: ds)
end
mutual
theorem DI.mono {G G' : Addr → Obj → Prop} (hs : ∀ a o, G a o → G' a o) : ∀ {v : Value} {d : Dat}, DI G v d → DI G' v d
  | _, _, .none => .none
  | _, _, .bool b => .bool b
  | _, _, .int i t => .int i t
  | _, _, .str x t => .str x t
  | _, _, .tuple h c e r => .tuple (hs _ _ h) c e (DIs.mono hs r)
  | _, _, .list h c e r => .list (hs _ _ h) c e (DIs.mono hs r)
theorem DIs.mono {G G' : Addr → Obj → Prop} (hs : ∀ a o, G a o → G' a o) : ∀ {vs : List Value} {ds : List Dat}, DIs G vs ds → DIs G' vs ds
  | _, _, .nil => .nil
  | _, _, .cons h r => .cons (DI.mono hs h) (DIs.mono hs r)
end
section
variable {G : Addr → Obj → Prop} {v : Value} {d : Dat} {vs ws : List Value} {ds es : List Dat}
theorem DI.handed (h : DI G v d) : handedIn v = true := by cases h <;> rfl
theorem DIs.length (h : DIs G vs ds) : vs.length = ds.length := by
  induction vs generalizing ds with
  | nil => cases h; rfl
  | cons v vs ih =>
    cases h with
    | cons _ r => rw [List.length_cons, List.length_cons, ih r]
theorem DIs.append (h : DIs G vs ds) (k : DIs G ws es) : DIs G (vs ++ ws) (ds ++ es) := by
  induction vs generalizing ds with
  | nil => cases h; exact k
  | cons v vs ih =>
    cases h with
    | cons h r => exact .cons h (ih r)
theorem DIs.snoc (h : DIs G vs ds) (k : DI G v d) : DIs G (vs ++ [v]) (ds ++ [d]) := h.append (.cons k .nil)
theorem DIs.at (h : DIs G vs ds) {k : Nat} {v : Value} (hk : vs[k]? = some v) : ∃ d, ds[k]? = some d ∧ DI G v d := by
  induction vs generalizing ds k with
  | nil => cases hk
  | cons v vs ih =>
    cases h with
    | cons h r =>
      cases k with
      | zero => cases hk; exact ⟨_, rfl, h⟩
      | succ k => exact ih r hk
theorem DIs.get (h : DIs G vs ds) {k : Nat} {d : Dat} (hk : ds[k]? = some d) : ∃ v, vs[k]? = some v ∧ DI G v d := by
  induction vs generalizing ds k with
  | nil => cases h; cases hk
  | cons v vs ih =>
    cases h with
    | cons h r =>
      cases k with
      | zero => cases hk; exact ⟨_, rfl, h⟩
      | succ k => exact ih r hk
theorem DIs.ints : ∀ {vs : List Value} {ns : List Int}, IntsAre vs ns → DIs G vs (ns.map Dat.int)
  | _, _, .nil => .nil
  | _, _, .cons k t r => .cons (.int k t) (DIs.ints r)
theorem DIs.intsAre : ∀ {vs : List Value} {ns : List Int}, DIs G vs (ns.map Dat.int) → IntsAre vs ns
  | [], [], _ => .nil
  | v :: vs, n :: ns, h => by
    cases h with
    | cons h r =>
      cases h with
      | int i t => exact .cons _ _ (DIs.intsAre r)
  | [], _ :: _, h => by cases h
  | _ :: _, [], h => by cases h
end

/-- what stands in a heap -/
def Hp (h : Heap) (a : Addr) (o : Obj) : Prop := h.get? a = some o
/-- what stands in the base, or on the ledger -/
def Kn (g : Heap) (l : List (Addr × Obj)) (a : Addr) (o : Obj) : Prop := g.get? a = some o ∨ (a, o) ∈ l
theorem Kn.hp {g h : Heap} {L : Addr} {m : Str → Option Value} {l l' : List (Addr × Obj)} (F : Fr g L h m) (N : News g L h l') (hs : ∀ p ∈ l, p ∈ l') : ∀ a o, Kn g l a o → Hp h a o := fun a o k => k.elim (F.keep a o) fun hm => (N _ (hs _ hm)).1
theorem Kn.sub {g : Heap} {l l' : List (Addr × Obj)} (hs : ∀ p ∈ l, p ∈ l') : ∀ a o, Kn g l a o → Kn g l' a o := fun _ _ k => k.imp id (hs _)
theorem Kn.base {g : Heap} {l : List (Addr × Obj)} : ∀ a o, Hp g a o → Kn g l a o := fun _ _ h => .inl h

/-- what is read of a heap stands in the base or can be put on the ledger -/
def Led (T : Obj → Prop) (g : Heap) (L : Addr) (h : Heap) (P : List (Addr × Obj) → Prop) : Prop := ∃ tl, News g L h tl ∧ (∀ p ∈ tl, T p.2) ∧ P tl
def SeqO (o : Obj) : Prop := ∃ xs n, o.data = .seq xs n
def TupO (o : Obj) : Prop := o.cls = .type "tuple" ∧ SeqO o
theorem frame_not {g h : Heap} {L : Addr} {m : Str → Option Value} (F : Fr g L h m) {o : Obj} (e : h.get? L = some o) : ¬ SeqO o := by
  obtain ⟨o', es, ep, e', hd, _⟩ := F.ns
  rw [e] at e'
  cases e'
  rintro ⟨xs, n, hq⟩
  rw [hd] at hq
  cases hq
theorem absorb1 {T : Obj → Prop} {g h : Heap} {L : Addr} {m : Str → Option Value} (F : Fr g L h m) {a : Addr} {o : Obj} (e : h.get? a = some o) (hs : SeqO o) (ht : T o) : Led T g L h fun tl => Kn g tl a o := by
  have hn : a ≠ L := fun z => by subst z; exact frame_not F e hs
  cases q : g.get? a with
  | some o' =>
    have := F.keep a o' q
    rw [e] at this
    cases this
    exact ⟨[], News.nil, fun _ h => (nomatch h), .inl q⟩
  | none => exact ⟨[(a, o)], fun p hp => by rw [List.mem_singleton.mp hp]; exact ⟨e, hn, q⟩, fun p hp => by rw [List.mem_singleton.mp hp]; exact ht, .inr (.head _)⟩
theorem Led.both {T : Obj → Prop} {g h : Heap} {L : Addr} {P P' R : List (Addr × Obj) → Prop} (x : Led T g L h P) (y : Led T g L h P') (r : ∀ t t', P t → P' t' → R (t ++ t')) : Led T g L h R := by
  obtain ⟨t, N, s, p⟩ := x
  obtain ⟨t', N', s', p'⟩ := y
  exact ⟨t ++ t', fun q hq => (List.mem_append.mp hq).elim (N q) (N' q), fun q hq => (List.mem_append.mp hq).elim (s q) (s' q), r _ _ p p'⟩
theorem Led.none {T : Obj → Prop} {g h : Heap} {L : Addr} {P : List (Addr × Obj) → Prop} (p : P []) : Led T g L h P := ⟨[], News.nil, fun _ h => (nomatch h), p⟩
theorem kn_left {g : Heap} {t t' : List (Addr × Obj)} : ∀ a o, Kn g t a o → Kn g (t ++ t') a o := Kn.sub fun _ h => List.mem_append.mpr (.inl h)
theorem kn_right {g : Heap} {t t' : List (Addr × Obj)} : ∀ a o, Kn g t' a o → Kn g (t ++ t') a o := Kn.sub fun _ h => List.mem_append.mpr (.inr h)
mutual
theorem absorb {g h : Heap} {L : Addr} {m : Str → Option Value} (F : Fr g L h m) : ∀ {v : Value} {d : Dat}, DI (Hp h) v d → Led SeqO g L h fun tl => DI (Kn g tl) v d
  | _, _, .none => .none .none
  | _, _, .bool b => .none (.bool b)
  | _, _, .int i t => .none (.int i t)
  | _, _, .str x t => .none (.str x t)
  | _, _, .tuple e c q r => (absorb1 F e ⟨_, _, q⟩ ⟨_, _, q⟩).both (absorbs F r) fun _ _ k k' => .tuple (kn_left _ _ k) c q (k'.mono kn_right)
  | _, _, .list e c q r => (absorb1 F e ⟨_, _, q⟩ ⟨_, _, q⟩).both (absorbs F r) fun _ _ k k' => .list (kn_left _ _ k) c q (k'.mono kn_right)
theorem absorbs {g h : Heap} {L : Addr} {m : Str → Option Value} (F : Fr g L h m) : ∀ {vs : List Value} {ds : List Dat}, DIs (Hp h) vs ds → Led SeqO g L h fun tl => DIs (Kn g tl) vs ds
  | _, _, .nil => .none .nil
  | _, _, .cons h r => (absorb F h).both (absorbs F r) fun _ _ k k' => .cons (k.mono kn_left) (k'.mono kn_right)
end
/-- tuples of plain values -/
def scal : Dat → Bool
  | .int _ => true
  | .str _ => true
  | _ => false
def flatT : Dat → Bool
  | .tuple ds => ds.all scal
  | _ => false
theorem scal_any {G G' : Addr → Obj → Prop} : ∀ {vs : List Value} {ds : List Dat}, DIs G vs ds → ds.all scal = true → DIs G' vs ds
  | _, _, .nil, _ => .nil
  | _, _, .cons (d := d) h r, e => by
    rw [List.all_cons, Bool.and_eq_true] at e
    refine .cons ?_ (scal_any r e.2)
    cases h with
    | int i t => exact .int i t
    | str x t => exact .str x t
    | _ => exact absurd e.1 (by simp [scal])
theorem absorbF {g h : Heap} {L : Addr} {m : Str → Option Value} (F : Fr g L h m) : ∀ {vs : List Value} {ds : List Dat}, DIs (Hp h) vs ds → (∀ d ∈ ds, flatT d = true) → Led TupO g L h fun tl => DIs (Kn g tl) vs ds
  | _, _, .nil, _ => .none .nil
  | _, _, .cons (d := d) h r, e => by
    have e1 := e d (.head _)
    have e2 := absorbF F r fun d hd => e d (.tail _ hd)
    cases h with
    | tuple ha hc hq hr => exact (absorb1 F ha ⟨_, _, hq⟩ ⟨hc, _, _, hq⟩).both e2 fun _ _ k k' => .cons (.tuple (kn_left _ _ k) hc hq (scal_any hr e1)) (k'.mono kn_right)
    | _ => exact absurd e1 (by simp [flatT])
theorem off_tup {g h : Heap} {L a : Addr} {o : Obj} {tl : List (Addr × Obj)} (N : News g L h tl) (ht : ∀ p ∈ tl, TupO p.2) (ha : h.get? a = some o) (hc : o.cls ≠ .type "tuple") : ∀ p ∈ tl, p.1 ≠ a := fun p hp e => by
  have h1 := (N p hp).1
  rw [e, ha] at h1
  exact hc ((Option.some.inj h1) ▸ (ht p hp).1)
theorem off_seq {g h : Heap} {L a : Addr} {o : Obj} {tl : List (Addr × Obj)} (N : News g L h tl) (ht : ∀ p ∈ tl, SeqO p.2) (ha : h.get? a = some o) (hc : ¬ SeqO o) : ∀ p ∈ tl, p.1 ≠ a := fun p hp e => by
  have h1 := (N p hp).1
  rw [e, ha] at h1
  exact hc ((Option.some.inj h1) ▸ (ht p hp))
mutual
theorem di_reads {h : Heap} : ∀ {v : Value} {d : Dat} (n : Nat), DI (Hp h) v d → kqdOk n d = true → ∃ as, Reads h v (kqdP d) as
  | _, _, _, .none, _ => ⟨_, Reads.none⟩
  | _, _, _, .bool b, _ => ⟨_, Reads.bool b⟩
  | _, _, _, .int i t, _ => ⟨_, Reads.int i t⟩
  | _, _, _, .str x t, _ => ⟨_, Reads.str x t⟩
  | _, _, 0, .tuple _ _ _ _, hk => by simp [kqdOk] at hk
  | _, _, 0, .list _ _ _ _, hk => by simp [kqdOk] at hk
  | _, _, n + 1, .tuple hm c e r, hk => by
    obtain ⟨as, q⟩ := dis_reads n r (by simpa [kqdOk] using hk)
    rw [kqdP]
    exact ⟨as, reads_tuple_at hm c e (by simpa using q)⟩
  | _, _, n + 1, .list hm c e r, hk => by
    obtain ⟨as, q⟩ := dis_reads n r (by simpa [kqdOk] using hk)
    rw [kqdP]
    exact ⟨_, reads_list_at hm c e (by simpa using q)⟩
theorem dis_reads {h : Heap} : ∀ {vs : List Value} {ds : List Dat} (n : Nat), DIs (Hp h) vs ds → (∀ d ∈ ds, kqdOk n d = true) → ∃ as, ReadsAll h vs (kqdPs ds) as
  | _, _, _, .nil, _ => ⟨_, ReadsAll.nil⟩
  | _, _, n, .cons hd r, hk => by
    obtain ⟨as, q⟩ := di_reads n hd (hk _ (.head _))
    obtain ⟨bs, p⟩ := dis_reads n r fun d hm => hk d (.tail _ hm)
    rw [kqdPs]
    exact ⟨_, ReadsAll.cons q p⟩
end
section
variable {prog : Program} {w : World} {A : Around} {E : Value → Shared → Prop} {s : Shared} {va vb : Value} {da db : Dat} {Q : Value → Shared → Prop}
theorem di_shaped {d : Dat} (h : kqdOk 9 d = true) : SeqAt.shaped (kqdP d) = true := by
  have l := kqd_lay 9 d h
  unfold SeqAt.shaped; rw [l.1, Bool.true_and]; exact decide_eq_true (Nat.le_trans l.2 (by decide))
theorem di_eqv (ha : kqdOk 9 da = true) (hb : kqdOk 9 db = true) (e : da = db) : PyData.eqv (kqdP da) (kqdP db) = true := (kqd_eqv 9 da db 9 ha hb).mpr e
theorem eq_di (ra : DI (Hp s.heap) va da) (rb : DI (Hp s.heap) vb db) (ha : kqdOk 9 da = true) (hb : kqdOk 9 db = true) (hu : A.units + 64 < cLine) (e : da = db) (h : Q (.bool true) s) :
    wpAny (model prog w) A (compareOp .Eq va vb) Q E s := by
  obtain ⟨as, ra⟩ := di_reads 9 ra ha
  obtain ⟨bs, rb⟩ := di_reads 9 rb hb
  exact eq_dataH ra rb (di_shaped ha) (di_shaped hb) hu (by rw [di_eqv ha hb e]; exact h)
theorem ne_di (ra : DI (Hp s.heap) va da) (rb : DI (Hp s.heap) vb db) (ha : kqdOk 9 da = true) (hb : kqdOk 9 db = true) (hu : A.units + 64 < cLine) (e : da = db) (h : Q (.bool false) s) :
    wpAny (model prog w) A (compareOp .NotEq va vb) Q E s := by
  obtain ⟨as, ra⟩ := di_reads 9 ra ha
  obtain ⟨bs, rb⟩ := di_reads 9 rb hb
  exact ne_dataH ra rb (di_shaped ha) (di_shaped hb) hu (by rw [di_eqv ha hb e]; exact h)
end

/-- keys with their data -/
inductive KVs {K : Type} (G : Addr → Obj → Prop) : List (K × Value) → List (K × Dat) → Prop
  | nil : KVs G [] []
  | cons {k : K} {v : Value} {d : Dat} {kvs : List (K × Value)} {l : List (K × Dat)} : DI G v d → KVs G kvs l → KVs G ((k, v) :: kvs) ((k, d) :: l)
section
variable {K : Type} {G G' : Addr → Obj → Prop} {kvs : List (K × Value)} {l : List (K × Dat)}
theorem KVs.mono (hs : ∀ a o, G a o → G' a o) (h : KVs G kvs l) : KVs G' kvs l := by
  induction h with
  | nil => exact .nil
  | cons h _ ih => exact .cons (h.mono hs) ih
theorem KVs.keys (h : KVs G kvs l) : kvs.map (·.1) = l.map (·.1) := by
  induction h with
  | nil => rfl
  | cons h _ ih => rw [List.map_cons, List.map_cons, ih]
theorem KVs.length (h : KVs G kvs l) : kvs.length = l.length := by
  have := congrArg List.length h.keys
  simpa using this
theorem KVs.append {kvs' : List (K × Value)} {l' : List (K × Dat)} (h : KVs G kvs l) (h' : KVs G kvs' l') : KVs G (kvs ++ kvs') (l ++ l') := by
  induction h with
  | nil => exact h'
  | cons h _ ih => exact .cons h ih
theorem KVs.at [DecidableEq K] {k : K} {d : Dat} (h : KVs G kvs l) (e : (l.find? fun p => p.1 = k).map (·.2) = some d) : ∃ v, valueAt kvs k = some v ∧ DI G v d := by
  induction h with
  | nil => cases e
  | @cons k' v d' kvs l h r ih =>
    unfold valueAt at ih ⊢
    rw [List.find?_cons] at e ⊢
    by_cases q : k' = k
    · subst q
      simp only [decide_true, Option.map_some, Option.some.injEq] at e ⊢
      subst e
      exact ⟨v, rfl, h⟩
    · simp only [q, decide_false] at e ⊢
      exact ih e
end
theorem absorbKV {K : Type} {g h : Heap} {L : Addr} {m : Str → Option Value} (F : Fr g L h m) {kvs : List (K × Value)} {l : List (K × Dat)} (x : KVs (Hp h) kvs l) : Led SeqO g L h fun tl => KVs (Kn g tl) kvs l := by
  induction x with
  | nil => exact .none .nil
  | cons h _ ih => exact (absorb F h).both ih fun _ _ k k' => .cons (k.mono kn_left) (k'.mono kn_right)
section
variable {K : Heap} {v : Value} {P : Prop}
theorem di_fix {a c d : Int} {b : Str} (h : DI (Hp K) v (.tuple [.int a, .str b, .int c, .int d])) (k : ∀ x t1 t2 t3 t4, v = .ref x → IsTup K x #[.int a t1, .str b t2, .int c t3, .int d t4] → P) : P := by
  cases h with
  | tuple ha hc he hds =>
    cases hds with
    | cons x1 r1 => cases r1 with
      | cons x2 r2 => cases r2 with
        | cons x3 r3 => cases r3 with
          | cons x4 r4 =>
            cases r4; cases x1; cases x2; cases x3; cases x4
            exact k _ _ _ _ _ rfl ⟨_, ha, hc, _, he⟩
theorem di_rowB {c d : Int} {a b : Str} (h : DI (Hp K) v (.tuple [.str a, .str b, .int c, .int d])) (k : ∀ x t1 t2 t3 t4, v = .ref x → IsTup K x #[.str a t1, .str b t2, .int c t3, .int d t4] → P) : P := by
  cases h with
  | tuple ha hc he hds =>
    cases hds with
    | cons x1 r1 => cases r1 with
      | cons x2 r2 => cases r2 with
        | cons x3 r3 => cases r3 with
          | cons x4 r4 =>
            cases r4; cases x1; cases x2; cases x3; cases x4
            exact k _ _ _ _ _ rfl ⟨_, ha, hc, _, he⟩
theorem di_rowM {b c d : Int} {a : Str} (h : DI (Hp K) v (.tuple [.str a, .int b, .int c, .int d])) (k : ∀ x t1 t2 t3 t4, v = .ref x → IsTup K x #[.str a t1, .int b t2, .int c t3, .int d t4] → P) : P := by
  cases h with
  | tuple ha hc he hds =>
    cases hds with
    | cons x1 r1 => cases r1 with
      | cons x2 r2 => cases r2 with
        | cons x3 r3 => cases r3 with
          | cons x4 r4 =>
            cases r4; cases x1; cases x2; cases x3; cases x4
            exact k _ _ _ _ _ rfl ⟨_, ha, hc, _, he⟩
theorem di_last {a b c : Dat} {d : Int} (h : DI (Hp K) v (.tuple [a, b, c, .int d])) (k : ∀ x v1 v2 v3 t, v = .ref x → IsTup K x #[v1, v2, v3, .int d t] → P) : P := by
  cases h with
  | tuple ha hc he hds =>
    cases hds with
    | cons x1 r1 => cases r1 with
      | cons x2 r2 => cases r2 with
        | cons x3 r3 => cases r3 with
          | cons x4 r4 =>
            cases r4; cases x4
            exact k _ _ _ _ _ rfl ⟨_, ha, hc, _, he⟩
theorem di_pair {b : Int} {a : Str} (h : DI (Hp K) v (.tuple [.str a, .int b])) (k : ∀ x t1 t2, v = .ref x → IsTup K x #[.str a t1, .int b t2] → P) : P := by
  cases h with
  | tuple ha hc he hds =>
    cases hds with
    | cons x1 r1 => cases r1 with
      | cons x2 r2 =>
        cases r2; cases x1; cases x2
        exact k _ _ _ rfl ⟨_, ha, hc, _, he⟩
end

section
variable {prog : Program} {w : World} {A : Around} {E : Value → Shared → Prop} {s : Shared} {env : Env} {h₀ : Heap} {x : Str} {body : List Stmt} {Q : Flow → Shared → Prop}

/-- a for over a list of the base: a name, any items -/
theorem iterB {l : Addr} {vs : List Value} {m₀ : Str → Option Value} {news : List (Addr × Obj)} (J : Nat → (Str → Option Value) → List (Addr × Obj) → Prop)
    (hh : A.handled = none) (hl : h₀.IsList l vs.toArray) (F : Fr h₀ env.locals s.heap m₀) (N : News h₀ env.locals s.heap news) (hj : J 0 m₀ news)
    (turn : ∀ i v m₁ news₁ h tk own, vs[i]? = some v → OwnOff own (news₁.map (·.1)) → J i m₁ news₁ → Fr h₀ env.locals h (fun y => if y = x then some v else m₁ y) → News h₀ env.locals h (news₁ ++ own) →
      wpAny (model prog w) A (execs body env) (InvPostG h₀ env.locals (J (i + 1)) own { s with heap := h, toks := tk } Q) E { s with heap := h, toks := tk })
    (done : ∀ m₁ news₁ h tk, J vs.length m₁ news₁ → Fr h₀ env.locals h m₁ → News h₀ env.locals h news₁ → Q .next { s with heap := h, toks := tk }) :
    wpAny (model prog w) A (pyIter (.ref l)) (fun it s₂ => LoopAtV prog w A h₀ env x body Q E it s₂) E s := by
  have hls : s.heap.IsList l vs.toArray := hl.at fun o e => F.keep l o e
  obtain ⟨ol, hol, _⟩ := id hl
  have hlt : l < h₀.objs.size := Heap.lt_size hol
  have hne : l ≠ s.heap.objs.size := Nat.ne_of_lt (Nat.lt_trans (Nat.lt_of_lt_of_le hlt F.above) F.ns.lt)
  refine wpAny_pyIter_list hls ?_
  have W := Walks.list (prog := prog) (w := w) hh s.heap.objs.size l hne vs.toArray
  have hlen : vs.toArray.size = vs.length := by simp
  rw [hlen] at W
  refine ⟨_, _, _, vs.length, _, _, m₀, news, J, rfl, W, ?_, ?_, ?_, ⟨⟨_, Heap.get?_push_size _ rfl, rfl, rfl⟩, hls.at fun o e => Heap.get?_push_of_some _ e⟩, F.push _, (fun p hp => ⟨Heap.get?_push_of_some _ (N p hp).1, (N p hp).2⟩), hj, ?_, ?_⟩
  · intro hm
    rcases List.mem_cons.mp hm with e | hm
    · exact absurd F.ns.lt (e ▸ Nat.lt_irrefl _)
    · exact absurd (Nat.lt_of_lt_of_le hlt F.above) ((List.mem_singleton.mp hm) ▸ Nat.lt_irrefl _)
  · intro b hb
    rw [List.mem_singleton.mp hb]
    exact next_is_new F
  · intro p hp hI
    exact absurd (Heap.lt_size (N p hp).1) ((List.mem_singleton.mp hI) ▸ Nat.lt_irrefl _)
  · rintro i v m₁ news₁ s₁ own ⟨hh', tk', rfl⟩ hin hP hJ hoff hown _ hfp hst F₁ N₁
    have hI0 : h₀.get? s.heap.objs.size = none := next_is_new F
    obtain ⟨⟨oI, hoI, _⟩, _⟩ := id hst
    have hIown : (s.heap.objs.size, oI) ∈ own := hfp _ (List.mem_cons.mpr (.inl rfl)) hI0 _ hoI
    have hsep : OwnOff own (news₁.map (·.1)) := by
      intro p hp b hb e
      obtain ⟨q, hq, rfl⟩ := List.mem_map.mp hb
      rcases List.mem_cons.mp (hown p hp) with h1 | h1
      · exact hoff q hq (List.mem_singleton.mpr (e ▸ h1))
      · have h2 := List.mem_singleton.mp h1
        have h3 := (N₁ q (List.mem_append.mpr (.inr hq))).2.2
        rw [← e, h2, hol] at h3
        cases h3
    have hP' : vs[i]? = some v := by simpa using hP
    have N₂ : News h₀ env.locals hh' (news₁ ++ own) := fun p hp => N₁ p ((List.mem_append.mp hp).elim (fun h => List.mem_append.mpr (.inr h)) fun h => List.mem_append.mpr (.inl h))
    refine wpAny_mono (turn i v m₁ news₁ hh' tk' own hP' hsep hJ F₁ N₂) (fun f s₂ p => ?_) fun _ _ e => e
    have fin : InvEndG h₀ env.locals (J (i + 1)) own { s with heap := hh', toks := tk' } s₂ → LoopStepU h₀ env.locals [s.heap.objs.size] own (J (i + 1)) { s with heap := hh', toks := tk' } .next s₂ := by
      rintro ⟨h', tk, m', news', nx, e, F', N', hn, ho, ha, hm⟩
      refine ⟨rfl, h', tk, m', nx, e, F', fun p hp => N' p ((List.mem_append.mp hp).elim (ho p) (hn p)), fun p hp hq => ?_, hm⟩
      exact ha _ hIown p.1 (List.mem_map.mpr ⟨p, hp, rfl⟩) (List.mem_singleton.mp hq).symm
    cases f with
    | ret v => exact .ret p
    | brk => exact .brk p
    | next => exact .next (fin p)
    | cont => exact .cont (fin p)
  · rintro h' tk m' news' F' N' _ hJ
    exact done m' news' h' tk hJ F' N'

/-- a turn's end that only goes on -/
def OnG (h₀ : Heap) (L : Addr) (J : (Str → Option Value) → List (Addr × Obj) → Prop) (own : List (Addr × Obj)) (s₁ : Shared) (f : Flow) (s₂ : Shared) : Prop := f = .next ∧ InvEndG h₀ L J own s₁ s₂

/-- the same with a tuple of names -/
theorem iterBT {target : Expr} {l : Addr} {vs : List Value} {m₀ : Str → Option Value} {news : List (Addr × Obj)} (J : Nat → (Str → Option Value) → List (Addr × Obj) → Prop)
    (hh : A.handled = none) (hl : h₀.IsList l vs.toArray) (F : Fr h₀ env.locals s.heap m₀) (N : News h₀ env.locals s.heap news) (hj : J 0 m₀ news)
    (turn : ∀ i v m₁ news₁ s₁ own, vs[i]? = some v → OwnOff own (news₁.map (·.1)) → J i m₁ news₁ → Fr h₀ env.locals s₁.heap m₁ → News h₀ env.locals s₁.heap (news₁ ++ own) →
      wpAny (model prog w) A (assign target env v) (fun _ s₃ => wpAny (model prog w) A (execs body env) (OnG h₀ env.locals (J (i + 1)) own s₁) E s₃) E s₁)
    (done : ∀ m₁ news₁ h tk, J vs.length m₁ news₁ → Fr h₀ env.locals h m₁ → News h₀ env.locals h news₁ → Q .next { s with heap := h, toks := tk }) :
    wpAny (model prog w) A (pyIter (.ref l)) (fun it s₂ => LoopAtT prog w A h₀ env target body Q E it s₂) E s := by
  have hls : s.heap.IsList l vs.toArray := hl.at fun o e => F.keep l o e
  obtain ⟨ol, hol, _⟩ := id hl
  have hlt : l < h₀.objs.size := Heap.lt_size hol
  have hne : l ≠ s.heap.objs.size := Nat.ne_of_lt (Nat.lt_trans (Nat.lt_of_lt_of_le hlt F.above) F.ns.lt)
  refine wpAny_pyIter_list hls ?_
  have W := Walks.list (prog := prog) (w := w) hh s.heap.objs.size l hne vs.toArray
  have hlen : vs.toArray.size = vs.length := by simp
  rw [hlen] at W
  refine ⟨_, _, _, vs.length, _, _, m₀, news, J, rfl, W, ?_, ?_, ?_, ⟨⟨_, Heap.get?_push_size _ rfl, rfl, rfl⟩, hls.at fun o e => Heap.get?_push_of_some _ e⟩, F.push _, (fun p hp => ⟨Heap.get?_push_of_some _ (N p hp).1, (N p hp).2⟩), (fun i s' v Q' st hQ' => letGo_listiter st.1 hQ'), hj, ?_, ?_⟩
  · intro hm
    rcases List.mem_cons.mp hm with e | hm
    · exact absurd F.ns.lt (e ▸ Nat.lt_irrefl _)
    · exact absurd (Nat.lt_of_lt_of_le hlt F.above) ((List.mem_singleton.mp hm) ▸ Nat.lt_irrefl _)
  · intro b hb
    rw [List.mem_singleton.mp hb]
    exact next_is_new F
  · intro p hp hI
    exact absurd (Heap.lt_size (N p hp).1) ((List.mem_singleton.mp hI) ▸ Nat.lt_irrefl _)
  · intro i v m₁ news₁ s₁ own hin hP hJ hoff hown _ hfp hst F₁ N₁
    have hI0 : h₀.get? s.heap.objs.size = none := next_is_new F
    obtain ⟨⟨oI, hoI, _⟩, _⟩ := id hst
    have hIown : (s.heap.objs.size, oI) ∈ own := hfp _ (List.mem_cons.mpr (.inl rfl)) hI0 _ hoI
    have hsep : OwnOff own (news₁.map (·.1)) := by
      intro p hp b hb e
      obtain ⟨q, hq, rfl⟩ := List.mem_map.mp hb
      rcases List.mem_cons.mp (hown p hp) with h1 | h1
      · exact hoff q hq (List.mem_singleton.mpr (e ▸ h1))
      · have h2 := List.mem_singleton.mp h1
        have h3 := (N₁ q (List.mem_append.mpr (.inr hq))).2.2
        rw [← e, h2, hol] at h3
        cases h3
    have hP' : vs[i]? = some v := by simpa using hP
    have N₂ : News h₀ env.locals s₁.heap (news₁ ++ own) := fun p hp => N₁ p ((List.mem_append.mp hp).elim (fun h => List.mem_append.mpr (.inr h)) fun h => List.mem_append.mpr (.inl h))
    refine wpAny_mono (turn i v m₁ news₁ s₁ own hP' hsep hJ F₁ N₂) (fun _ s₃ p => wpAny_mono p (fun f s₂ q => ?_) fun _ _ e => e) fun _ _ e => e
    obtain ⟨rfl, h', tk, m', news', nx, e, F', N', hn, ho, ha, hm⟩ := q
    refine ⟨rfl, h', tk, m', nx, e, F', fun p hp => N' p ((List.mem_append.mp hp).elim (ho p) (hn p)), fun p hp hq => ?_, hm⟩
    exact ha _ hIown p.1 (List.mem_map.mpr ⟨p, hp, rfl⟩) (List.mem_singleton.mp hq).symm
  · rintro h' tk m' news' F' N' _ hJ
    exact done m' news' h' tk hJ F' N'

set_option maxHeartbeats 3200000 in
theorem loopB {σ : Type} {l : Addr} {vs : List Value} {m₀ : Str → Option Value} {news : List (Addr × Obj)} (Led : σ → List (Addr × Obj)) (cst : List (Addr × Obj)) (ps : σ → List (Str × Value)) (Facts : List (Addr × Obj) → σ → Prop) (stored : List Str) (P : Nat → σ → Prop) (adr : List Addr) (c₀ : σ)
    (hh : A.handled = none) (hl : h₀.IsList l vs.toArray) (F : Fr h₀ env.locals s.heap m₀) (N : News h₀ env.locals s.heap news) (hn : ∀ p ∈ Led c₀ ++ (cst ++ []), p ∈ news) (hadr : ∀ c, (Led c ++ cst).map (·.1) = adr) (hf : Facts (cst ++ []) c₀) (hk : ∀ p ∈ ps c₀, m₀ p.1 = some p.2) (hp : P 0 c₀)
    (turn : ∀ (c : σ) tl i v (u : Str → Option Value) h tk own, vs[i]? = some v → KdSep own tl adr → OwnOff (tl ++ own) adr → Facts (cst ++ tl) c → P i c →
      Fr h₀ env.locals h (fun y => if y = x then some v else kstB (fun z => if stored.contains z then u z else m₀ z) (ps c) y) → News h₀ env.locals h (Led c ++ (cst ++ (tl ++ own))) →
      wpAny (model prog w) A (execs body env) (InvPostG h₀ env.locals (KdS Led cst ps Facts x stored m₀ P adr (i + 1)) own { s with heap := h, toks := tk } Q) E { s with heap := h, toks := tk })
    (done : ∀ (c : σ) tl (u : Str → Option Value) h tk, OwnOff tl adr → Facts (cst ++ tl) c → P vs.length c → Fr h₀ env.locals h (fun y => if y = x then u y else kstB (fun z => if stored.contains z then u z else m₀ z) (ps c) y) → News h₀ env.locals h (Led c ++ (cst ++ tl)) → Q .next { s with heap := h, toks := tk }) :
    wpAny (model prog w) A (pyIter (.ref l)) (fun it s₂ => LoopAtV prog w A h₀ env x body Q E it s₂) E s := by
  refine iterB (fun i m nx => KdS Led cst ps Facts x stored m₀ P adr i m nx) hh hl F (fun p hp => N p (hn p hp)) ⟨c₀, [], rfl, fun _ hp => (nomatch hp), hf, hk, fun _ _ _ _ => rfl, hp⟩ ?_ ?_
  · rintro i v m₁ nx h tk own hv hoff ⟨c, tl, rfl, ht, hf', h1, h2, hp'⟩ F₁ N₁
    obtain ⟨o1, o2⟩ := kd_split (hadr c) hoff
    rw [List.append_assoc, List.append_assoc] at N₁
    exact turn c tl i v m₁ h tk own hv ⟨o1, o2, ht⟩ (kd_off o1 ht) hf' hp' (kst_fr h1 h2 F₁) N₁
  · rintro m₁ nx h tk ⟨c, tl, rfl, ht, hf', h1, h2, hp'⟩ F₁ N₁
    exact done c tl m₁ h tk ht hf' hp' (kst_frOut h1 h2 F₁) N₁

set_option maxHeartbeats 3200000 in
theorem loopBT {σ : Type} {target : Expr} {l : Addr} {vs : List Value} {m₀ : Str → Option Value} {news : List (Addr × Obj)} (x : Str) (Led : σ → List (Addr × Obj)) (cst : List (Addr × Obj)) (ps : σ → List (Str × Value)) (Facts : List (Addr × Obj) → σ → Prop) (stored : List Str) (P : Nat → σ → Prop) (adr : List Addr) (c₀ : σ)
    (hh : A.handled = none) (hl : h₀.IsList l vs.toArray) (F : Fr h₀ env.locals s.heap m₀) (N : News h₀ env.locals s.heap news) (hx : stored.contains x = true) (hn : ∀ p ∈ Led c₀ ++ (cst ++ []), p ∈ news) (hadr : ∀ c, (Led c ++ cst).map (·.1) = adr) (hf : Facts (cst ++ []) c₀) (hk : ∀ p ∈ ps c₀, m₀ p.1 = some p.2) (hp : P 0 c₀)
    (turn : ∀ (c : σ) tl i v (u : Str → Option Value) h gens drawn tk os own, vs[i]? = some v → KdSep own tl adr → OwnOff (tl ++ own) adr → Facts (cst ++ tl) c → P i c →
      Fr h₀ env.locals h (kstB (fun z => if stored.contains z then u z else m₀ z) (ps c)) → News h₀ env.locals h (Led c ++ (cst ++ (tl ++ own))) →
      wpAny (model prog w) A (assign target env v) (fun _ s₃ => wpAny (model prog w) A (execs body env) (OnG h₀ env.locals (KdS Led cst ps Facts x stored m₀ P adr (i + 1)) own ⟨h, gens, drawn, tk, os⟩) E s₃) E ⟨h, gens, drawn, tk, os⟩)
    (done : ∀ (c : σ) tl (u : Str → Option Value) h tk, OwnOff tl adr → Facts (cst ++ tl) c → P vs.length c → Fr h₀ env.locals h (kstB (fun z => if stored.contains z then u z else m₀ z) (ps c)) → News h₀ env.locals h (Led c ++ (cst ++ tl)) → Q .next { s with heap := h, toks := tk }) :
    wpAny (model prog w) A (pyIter (.ref l)) (fun it s₂ => LoopAtT prog w A h₀ env target body Q E it s₂) E s := by
  have hxz : ∀ z, stored.contains z = false → z ≠ x := fun z hz e => by rw [e, hx] at hz; cases hz
  refine iterBT (fun i m nx => KdS Led cst ps Facts x stored m₀ P adr i m nx) hh hl F (fun p hp => N p (hn p hp)) ⟨c₀, [], rfl, fun _ hp => (nomatch hp), hf, hk, fun _ _ _ _ => rfl, hp⟩ ?_ ?_
  · rintro i v m₁ nx ⟨h, gens, drawn, tk, os⟩ own hv hoff ⟨c, tl, rfl, ht, hf', h1, h2, hp'⟩ F₁ N₁
    obtain ⟨o1, o2⟩ := kd_split (hadr c) hoff
    rw [List.append_assoc, List.append_assoc] at N₁
    exact turn c tl i v m₁ h gens drawn tk os own hv ⟨o1, o2, ht⟩ (kd_off o1 ht) hf' hp' (ksw_fr h1 (fun z hz hs => h2 z (hxz z hs) hz hs) F₁) N₁
  · rintro m₁ nx h tk ⟨c, tl, rfl, ht, hf', h1, h2, hp'⟩ F₁ N₁
    exact done c tl m₁ h tk ht hf' hp' (ksw_fr h1 (fun z hz hs => h2 z (hxz z hs) hz hs) F₁) N₁

set_option maxHeartbeats 3200000 in
/-- a for over a list of the ledger that does not turn -/
theorem loopL {σ : Type} {l : Addr} {vs : List Value} {nn : Nat} {m₀ : Str → Option Value} {news : List (Addr × Obj)} (Led : σ → List (Addr × Obj)) (cst : List (Addr × Obj)) (ps : σ → List (Str × Value)) (Facts : List (Addr × Obj) → σ → Prop) (stored : List Str) (P : Nat → σ → Prop) (adr : List Addr) (c₀ : σ)
    (hh : A.handled = none) (hl : (l, listOf vs.toArray nn) ∈ cst) (F : Fr h₀ env.locals s.heap m₀) (N : News h₀ env.locals s.heap news) (hn : ∀ p ∈ Led c₀ ++ (cst ++ []), p ∈ news) (hadr : ∀ c, (Led c ++ cst).map (·.1) = adr) (hf : Facts (cst ++ []) c₀) (hk : ∀ p ∈ ps c₀, m₀ p.1 = some p.2) (hp : P 0 c₀)
    (turn : ∀ (c : σ) tl i v (u : Str → Option Value) h tk own, vs[i]? = some v → KdSep own tl adr → OwnOff (tl ++ own) adr → Facts (cst ++ tl) c → P i c →
      Fr h₀ env.locals h (fun y => if y = x then some v else kstB (fun z => if stored.contains z then u z else m₀ z) (ps c) y) → News h₀ env.locals h (Led c ++ (cst ++ (tl ++ own))) →
      wpAny (model prog w) A (execs body env) (InvPostG h₀ env.locals (KdS Led cst ps Facts x stored m₀ P adr (i + 1)) own { s with heap := h, toks := tk } Q) E { s with heap := h, toks := tk })
    (done : ∀ (c : σ) tl (u : Str → Option Value) h tk, OwnOff tl adr → Facts (cst ++ tl) c → P vs.length c → Fr h₀ env.locals h (fun y => if y = x then u y else kstB (fun z => if stored.contains z then u z else m₀ z) (ps c) y) → News h₀ env.locals h (Led c ++ (cst ++ tl)) → Q .next { s with heap := h, toks := tk }) :
    wpAny (model prog w) A (pyIter (.ref l)) (fun it s₂ => LoopAtV prog w A h₀ env x body Q E it s₂) E s := by
  refine kdl_iter (news := Led c₀ ++ (cst ++ [])) (fun i m nx => KdS Led cst ps Facts x stored m₀ P adr i m nx) hh (List.mem_append.mpr (.inr (List.mem_append.mpr (.inl hl)))) F (fun p hp => N p (hn p hp)) ⟨c₀, [], rfl, fun _ hp => (nomatch hp), hf, hk, fun _ _ _ _ => rfl, hp⟩ ?_ ?_
  · rintro i v m₁ nx h tk own hv hoff _ ⟨c, tl, rfl, ht, hf', h1, h2, hp'⟩ F₁ N₁
    obtain ⟨o1, o2⟩ := kd_split (hadr c) hoff
    rw [List.append_assoc, List.append_assoc] at N₁
    refine wpAny_mono (turn c tl i v m₁ h tk own hv ⟨o1, o2, ht⟩ (kd_off o1 ht) hf' hp' (kst_fr h1 h2 F₁) N₁) (fun f s₂ p => ?_) fun _ _ x => x
    have up : InvEndG h₀ env.locals (KdS Led cst ps Facts x stored m₀ P adr (i + 1)) own { s with heap := h, toks := tk } s₂ →
        InvEndG h₀ env.locals (fun m' nx => (l, listOf vs.toArray nn) ∈ nx ∧ KdS Led cst ps Facts x stored m₀ P adr (i + 1) m' nx) own { s with heap := h, toks := tk } s₂ := by
      rintro ⟨h', tk', m', news', nx', e', F', N', hn', ho', ha, hS⟩
      refine ⟨h', tk', m', news', nx', e', F', N', hn', ho', ha, ?_, hS⟩
      obtain ⟨c', tl', rfl, _⟩ := hS
      exact List.mem_append.mpr (.inr (List.mem_append.mpr (.inl hl)))
    cases f with
    | ret v => exact p
    | brk => exact p
    | next => exact up p
    | cont => exact up p
  · rintro m₁ nx h tk ⟨c, tl, rfl, ht, hf', h1, h2, hp'⟩ F₁ N₁
    exact done c tl m₁ h tk ht hf' hp' (kst_frOut h1 h2 F₁) N₁

theorem kds_of {σ τ τ' : Type} {Led : σ → List (Addr × Obj)} {cst : List (Addr × Obj)} {ps : σ → List (Str × Value)} {Facts : List (Addr × Obj) → σ → Prop} {x : Str} {stored : List Str} {m₀ : Str → Option Value} {P : τ → σ → Prop} {P' : τ' → σ → Prop} {adr : List Addr} {a : τ} {a' : τ'} (h : ∀ c, P a c → P' a' c)
    {m : Str → Option Value} {nx : List (Addr × Obj)} (k : KdS Led cst ps Facts x stored m₀ P adr a m nx) : KdS Led cst ps Facts x stored m₀ P' adr a' m nx := by
  obtain ⟨c, tl, e1, e2, e3, e4, e5, e6⟩ := k
  exact ⟨c, tl, e1, e2, e3, e4, e5, h c e6⟩
theorem invPostG_of {L : Addr} {J J' : (Str → Option Value) → List (Addr × Obj) → Prop} (h : ∀ m nx, J m nx → J' m nx) {own : List (Addr × Obj)} {s₁ s₂ : Shared} {f : Flow} (k : InvPostG h₀ L J own s₁ Q f s₂) : InvPostG h₀ L J' own s₁ Q f s₂ := by
  have up : InvEndG h₀ L J own s₁ s₂ → InvEndG h₀ L J' own s₁ s₂ := fun ⟨h', tk, m', news', nx, e1, e2, e3, e4, e5, e6, e7⟩ => ⟨h', tk, m', news', nx, e1, e2, e3, e4, e5, e6, h _ _ e7⟩
  cases f with
  | ret v => exact k
  | brk => exact k
  | next => exact up k
  | cont => exact up k
set_option maxHeartbeats 3200000 in
/-- a for over range(n) -/
theorem loopR {σ : Type} {r : Addr} {b₀ : Int} {t₀ u₀ v₀ : Tok} {n : Nat} {m₀ : Str → Option Value} {news : List (Addr × Obj)} (Led : σ → List (Addr × Obj)) (cst : List (Addr × Obj)) (ps : σ → List (Str × Value)) (Facts : List (Addr × Obj) → σ → Prop) (stored : List Str) (P : Nat → σ → Prop) (adr : List Addr) (c₀ : σ)
    (hh : A.handled = none) (hr : IsRange s.heap r 0 b₀ 1 t₀ u₀ v₀) (hb : b₀ = (n : Int)) (hsm : n ≤ 1000000) (F : Fr h₀ env.locals s.heap m₀) (N : News h₀ env.locals s.heap news) (hn : ∀ p ∈ Led c₀ ++ (cst ++ []), p ∈ news) (hadr : ∀ c, (Led c ++ cst).map (·.1) = adr) (hf : Facts (cst ++ []) c₀) (hk : ∀ p ∈ ps c₀, m₀ p.1 = some p.2) (hp : P 0 c₀)
    (turn : ∀ (c : σ) tl (i : Nat) t (u : Str → Option Value) h tk own, i < n → KdSep own tl adr → OwnOff (tl ++ own) adr → Facts (cst ++ tl) c → P i c →
      Fr h₀ env.locals h (fun y => if y = x then some (.int (i : Int) t) else kstB (fun z => if stored.contains z then u z else m₀ z) (ps c) y) → News h₀ env.locals h (Led c ++ (cst ++ (tl ++ own))) →
      wpAny (model prog w) A (execs body env) (InvPostG h₀ env.locals (KdS Led cst ps Facts x stored m₀ P adr (i + 1)) own { s with heap := h, toks := tk } Q) E { s with heap := h, toks := tk })
    (done : ∀ (c : σ) tl (u : Str → Option Value) h tk, OwnOff tl adr → Facts (cst ++ tl) c → P n c → Fr h₀ env.locals h (fun y => if y = x then u y else kstB (fun z => if stored.contains z then u z else m₀ z) (ps c) y) → News h₀ env.locals h (Led c ++ (cst ++ tl)) → Q .next { s with heap := h, toks := tk }) :
    wpAny (model prog w) A (pyIter (.ref r)) (fun it s₂ => LoopAtV prog w A h₀ env x body Q E it s₂) E s := by
  subst hb
  refine kd_range Led cst ps Facts stored (fun pre c => P pre.length c) adr c₀ hh hr (small_one (by omega) (by omega) (by omega) (by omega)) (n := n) (by rw [rangeSize_nat]; omega) F N hn hadr hf hk hp ?_ ?_
  · intro c tl pre k t u h tk own hk' hlt sep off hf' hp' F₁ N₁
    have e : k = (pre.length : Int) := by omega
    subst e
    refine wpAny_mono (turn c tl pre.length t u h tk own hlt sep off hf' hp' F₁ N₁) (fun f s₂ p => invPostG_of (fun m nx q => kds_of (fun c' q' => ?_) q) p) fun _ _ e => e
    rw [List.length_append, List.length_singleton]
    exact q'
  · intro c tl u h tk off hf' hp' F₁ N₁
    rw [rangeKs_length] at hp'
    exact done c tl u h tk off hf' hp' F₁ N₁
end

/-- an object of class ObjectFile and its attributes' entries -/
def ObjAt (h : Heap) (x : Addr) (es : List DictEntry) : Prop := ∃ ox n, W.InstAt h x ox 45 (some (dictOf es n))
theorem inst_keeps {h h' : Heap} {x C : Addr} {ox : Obj} {od : Option Obj} (I : W.InstAt h x ox C od) (k : ∀ b o, h.get? b = some o → h'.get? b = some o) : W.InstAt h' x ox C od := by
  obtain ⟨a, b, c, d⟩ := I
  refine ⟨k _ _ a, b, c, ?_⟩
  obtain ⟨oc, odi, oda, osl⟩ := ox
  cases odi with
  | none => cases od <;> exact d
  | some dx =>
    cases od with
    | none => exact d
    | some o => exact k _ _ d
theorem ObjAt.keeps {h h' : Heap} {x : Addr} {es : List DictEntry} (O : ObjAt h x es) (k : ∀ b o, h.get? b = some o → h'.get? b = some o) : ObjAt h' x es :=
  let ⟨ox, n, I⟩ := O; ⟨ox, n, inst_keeps I k⟩
section
variable {prog : Program} {w : World} {A : Around} {E : Value → Shared → Prop} {s : Shared} {K : Frag} {x L : Addr} {h₀ : Heap} {m : Str → Option Value} {es : List DictEntry} {name : Str} {v : Value}
theorem att_get {expr : Bool} {Q : Value → Shared → Prop} {attr : Option Value} (F : Fr h₀ L s.heap m) (X₀ : K.In h₀) (O : ObjAt h₀ x es) (hl : getL name es = some (some v)) (hg : plainGet K 45 name = true) (hh : hasDictIn K 45 = true)
    (ha : findIn K (.ref 45) name = some attr) (hn : noGet K attr = true) (hv : handedIn v = true) (h : Q v { s with toks := s.toks + 1 }) :
    wpAny (model prog w) A (getAttr (.ref x) name expr) Q E s := by
  obtain ⟨ox, n, I⟩ := O.keeps F.keep
  exact get_own F X₀ I hg hh ha hn hl hv h
end
theorem GSub.all {h g : Heap} (x : GSub h g (List.map (·.1) ([] : List (Addr × Obj)))) : ∀ b o, h.get? b = some o → g.get? b = some o := fun b o e => x b o e (by simp)
section
variable {prog : Program} {w : World} {A : Around} {E : Value → Shared → Prop} {s : Shared} {L l : Addr} {h₀ : Heap} {m : Str → Option Value} {us : List Value}
theorem b_len {n : Nat} {Q : Value → Shared → Prop} (F : Fr h₀ L s.heap m) (hl : h₀.IsList l us.toArray) (hn : us.length = n) (hfit : n ≤ 1000000) (h : Q (.int (n : Int) (s.toks + 1)) { s with toks := s.toks + 1 + 1 }) : wpAny (model prog w) A (call (.builtin "len") [.ref l]) Q E s := by
  have e : us.toArray.size = n := by rw [List.size_toArray, hn]
  exact len_list (hl.at fun o e => F.keep l o e) (by rw [e]; omega) (by rw [e]; exact h)
end
section
variable {prog : Program} {w : World} {A : Around} {E : Value → Shared → Prop} {s : Shared} {L l : Addr} {h₀ : Heap} {m : Str → Option Value} {us : List Value} {v : Value} {k : Int} {u : Tok}
theorem b_getItem {Q : Value → Shared → Prop} (F : Fr h₀ L s.heap m) (hl : h₀.IsList l us.toArray) (hx : us[k.toNat]? = some v) (h0 : 0 ≤ k) (hfit : k < 2 ^ 63) (h : Q v s) : wpAny (model prog w) A (getItem (.ref l) (.int k u)) Q E s :=
  wpAny_getItem_list (hl.at fun o e => F.keep l o e) h0 hfit (by simpa using hx) h
theorem n_item {value slice : PySem.Expr} {n : Nat} {news : List (Addr × Obj)} {Q : Value → Shared → Prop} (N : News h₀ L s.heap news) (hm : (l, listOf us.toArray n) ∈ news) (hx : us[k.toNat]? = some v) (h0 : 0 ≤ k) (hfit : k < 2 ^ 63) (h : Q v s)
    (hs : subscripted slice false (.ref l) (.int k u) = operate [.ref l, .int k u] (getItem (.ref l) (.int k u)) := by with_unfolding_all rfl) : wpAny (model prog w) A (subscriptTail value slice (.ref l) (.int k u)) Q E s :=
  have hl : s.heap.IsList l us.toArray := ⟨_, (N _ hm).1, rfl, n, rfl⟩
  tail_any hl.typeIs slot_list_getitem.lookup (wpAny_getItem_list hl h0 hfit (by simpa using hx) h) hs
theorem b_item {value slice : PySem.Expr} {Q : Value → Shared → Prop} (F : Fr h₀ L s.heap m) (hl : h₀.IsList l us.toArray) (hx : us[k.toNat]? = some v) (h0 : 0 ≤ k) (hfit : k < 2 ^ 63) (h : Q v s)
    (hs : subscripted slice false (.ref l) (.int k u) = operate [.ref l, .int k u] (getItem (.ref l) (.int k u)) := by with_unfolding_all rfl) : wpAny (model prog w) A (subscriptTail value slice (.ref l) (.int k u)) Q E s :=
  tail_any (hl.at fun o e => F.keep l o e).typeIs slot_list_getitem.lookup (b_getItem F hl hx h0 hfit h) hs
end
section
variable {h₀ : Heap} {L : Addr} {m : Str → Option Value} {s : Shared} {news : List (Addr × Obj)} {Q : Value → Shared → Prop} {Out : Heap → Value → Prop}
/-- a call that only makes: frame and ledger stand -/
theorem after (F : Fr h₀ L s.heap m) (N : News h₀ L s.heap news) (k : ∀ r h' tk, Fr h₀ L h' m → News h₀ L h' news → (∀ b o, s.heap.get? b = some o → h'.get? b = some o) → Out h' r → Q r { s with heap := h', toks := tk }) :
    ∀ r h' tk, (∀ b o, s.heap.get? b = some o → b ∉ ([] : List (Addr × Obj)).map (·.1) → h'.get? b = some o) → Out h' r → Q r { s with heap := h', toks := tk } :=
  fun r h' tk keep o => have k' : ∀ b o, s.heap.get? b = some o → h'.get? b = some o := fun b o e => keep b o e (by simp)
    k r h' tk (F.keeps k') (N.grown k') k' o
end
theorem fresh_of {h g : Heap} {d : Addr} (sub : ∀ b o, h.get? b = some o → g.get? b = some o) (hg : g.get? d = none) : h.get? d = none := by
  cases e : h.get? d with
  | none => rfl
  | some o => rw [sub _ _ e] at hg; cases hg
theorem adopt {g h h' : Heap} {L d : Addr} {m : Str → Option Value} {o : Obj} {news : List (Addr × Obj)} (F : Fr g L h m) (N : News g L h' news) (hnew : h.get? d = none) (ho : h'.get? d = some o) : News g L h' ((d, o) :: news) := by
  intro p hp
  rcases List.mem_cons.mp hp with rfl | hp
  · refine ⟨ho, fun e => ?_, fresh_of F.keep hnew⟩
    obtain ⟨oL, _, _, e', _⟩ := F.ns
    dsimp only at e
    rw [e, e'] at hnew
    cases hnew
  · exact N p hp
theorem adopt_lt {g h : Heap} {L d : Addr} {news : List (Addr × Obj)} (N : News g L h news) (hnew : h.get? d = none) : ∀ p ∈ news, p.1 ≠ d := fun p hp e => by
  have := (N p hp).1
  rw [e, hnew] at this
  cases this
theorem off1_of {d : Addr} : ∀ {l : List (Addr × Obj)}, (∀ p ∈ l, p.1 ≠ d) → LCg.Off1 d l
  | [], _ => trivial
  | p :: _, h => ⟨h p (.head _), off1_of fun q hq => h q (.tail _ hq)⟩
theorem off1_mem {d : Addr} : ∀ {l : List (Addr × Obj)}, LCg.Off1 d l → ∀ p ∈ l, p.1 ≠ d
  | [], _, _, h => nomatch h
  | _ :: _, x, p, h => by
    rcases List.mem_cons.mp h with rfl | h
    · exact x.1
    · exact off1_mem x.2 p h
theorem adopt_ne {g h : Heap} {L d : Addr} {news : List (Addr × Obj)} (N : News g L h news) (hnew : h.get? d = none) : LCg.Off1 d news := off1_of (adopt_lt N hnew)
theorem off1_lt {d : Addr} : ∀ {l : List (Addr × Obj)}, W.AllLt d l → LCg.Off1 d l
  | [], _ => trivial
  | _ :: _, h => ⟨Nat.ne_of_lt h.1, off1_lt h.2⟩
section
variable {h₀ : Heap} {x : Str}
/-- a turn's end that adds nothing to the pool -/
theorem end0 {σ τ : Type} {Led : σ → List (Addr × Obj)} {cst : List (Addr × Obj)} {ps : σ → List (Str × Value)} {Facts : List (Addr × Obj) → σ → Prop} {stored : List Str} {m₀ : Str → Option Value} {P : τ → σ → Prop} {adr : List Addr} {pre : τ} (c : σ) {tl : List (Addr × Obj)} {L : Addr} {m' : Str → Option Value} {own : List (Addr × Obj)} {s₁ : Shared} {h' : Heap} {tk : Nat}
    (h0 : KdSep own tl adr) (F : Fr h₀ L h' m') (N : News h₀ L h' (Led c ++ (cst ++ (tl ++ own)))) (hadr : (Led c ++ cst).map (·.1) = adr)
    (hk : ∀ p ∈ ps c, m' p.1 = some p.2) (hr : ∀ z, z ≠ x → (∀ p ∈ ps c, z ≠ p.1) → stored.contains z = false → m' z = m₀ z) (hf : Facts (cst ++ tl) c) (hp : P pre c) :
    InvEndG h₀ L (KdS Led cst ps Facts x stored m₀ P adr pre) own s₁ { s₁ with heap := h', toks := tk } :=
  kd_end c [] h0 F N (fun p hp => by
      rcases List.mem_append.mp hp with hp | hp
      · exact List.mem_append.mpr (.inl hp)
      · rcases List.mem_append.mp hp with hp | hp
        · exact List.mem_append.mpr (.inr (List.mem_append.mpr (.inl hp)))
        · exact List.mem_append.mpr (.inr (List.mem_append.mpr (.inr (List.mem_append.mpr (.inl hp))))))
    (fun p hp => List.mem_append.mpr (.inr (List.mem_append.mpr (.inr (List.mem_append.mpr (.inr hp)))))) hadr (fun q hq => nomatch hq) (fun q hq => nomatch hq) hk hr hf hp
/-- one that adds an object -/
theorem end1 {σ τ : Type} {Led : σ → List (Addr × Obj)} {cst : List (Addr × Obj)} {ps : σ → List (Str × Value)} {Facts : List (Addr × Obj) → σ → Prop} {stored : List Str} {m₀ : Str → Option Value} {P : τ → σ → Prop} {adr : List Addr} {pre : τ} (c : σ) {tl : List (Addr × Obj)} {L : Addr} {m' : Str → Option Value} {own : List (Addr × Obj)} {s₁ : Shared} {h' : Heap} {tk : Nat} {q : Addr × Obj} {c₁ : List (Addr × Obj)}
    (h0 : KdSep own tl adr) (F : Fr h₀ L h' m') (N : News h₀ L h' (q :: (Led c ++ (cst ++ (tl ++ own))))) (hadr : (Led c ++ cst).map (·.1) = adr) (h1 : LCg.Off1 q.1 (c₁ ++ (cst ++ (tl ++ own)))) (hc : c₁.map (·.1) = (Led c).map (·.1))
    (hk : ∀ p ∈ ps c, m' p.1 = some p.2) (hr : ∀ z, z ≠ x → (∀ p ∈ ps c, z ≠ p.1) → stored.contains z = false → m' z = m₀ z) (hf : Facts (cst ++ (q :: tl)) c) (hp : P pre c) :
    InvEndG h₀ L (KdS Led cst ps Facts x stored m₀ P adr pre) own s₁ { s₁ with heap := h', toks := tk } :=
  kd_end c [q] h0 F N (fun p hp => by
      rcases List.mem_append.mp hp with hp | hp
      · exact List.mem_cons_of_mem _ (List.mem_append.mpr (.inl hp))
      · rcases List.mem_append.mp hp with hp | hp
        · exact List.mem_cons_of_mem _ (List.mem_append.mpr (.inr (List.mem_append.mpr (.inl hp))))
        · rcases List.mem_append.mp hp with hp | hp
          · rw [List.mem_singleton.mp hp]; exact .head _
          · exact List.mem_cons_of_mem _ (List.mem_append.mpr (.inr (List.mem_append.mpr (.inr (List.mem_append.mpr (.inl hp)))))))
    (fun p hp => List.mem_cons_of_mem _ (List.mem_append.mpr (.inr (List.mem_append.mpr (.inr (List.mem_append.mpr (.inr hp))))))) hadr
    (fun q' hq b hb => by
      rw [List.mem_singleton.mp hq]
      rw [← hadr, List.map_append, ← hc, ← List.map_append] at hb
      obtain ⟨p, hp, rfl⟩ := List.mem_map.mp hb
      exact off1_mem h1 p ((List.mem_append.mp hp).elim (fun h => List.mem_append.mpr (.inl h)) fun h => List.mem_append.mpr (.inr (List.mem_append.mpr (.inl h)))))
    (fun q' hq p hp => by
      rw [List.mem_singleton.mp hq]
      exact off1_mem h1 p (List.mem_append.mpr (.inr (List.mem_append.mpr (.inr (List.mem_append.mpr (.inr hp)))))))
    hk hr hf hp
end
theorem pull {g h : Heap} {L : Addr} {l : List (Addr × Obj)} (k : Nat) {q : Addr × Obj} (N : News g L h l) (e : l[k]? = some q) : News g L h (q :: l.eraseIdx k) := fun p hp => by
  rcases List.mem_cons.mp hp with rfl | hp
  · exact N _ (List.mem_of_getElem? e)
  · exact N p (List.mem_of_mem_eraseIdx hp)
theorem split_head {g h : Heap} {L : Addr} {q : Addr × Obj} {l : List (Addr × Obj)} {P : Prop} (N : News g L h (q :: l)) (k : ∀ cst, cst = l → News g L h (q :: cst) → P) : P := k l rfl N
/-- all of these lie below -/
def LtAll (D : Nat) (l : List Nat) : Prop := ∀ a ∈ l, a < D
theorem ltAll_of {D : Addr} {l : List (Addr × Obj)} (h : ∀ p ∈ l, p.1 < D) : LtAll D (l.map (·.1)) := fun _ ha => let ⟨_, hp, e⟩ := List.mem_map.mp ha; e ▸ h _ hp
theorem LtAll.at {D a : Nat} {l : List Nat} (h : LtAll D l) (m : a ∈ l) : a < D := h a m
theorem off1_lts {D : Addr} {l : List (Addr × Obj)} (h : ∀ p ∈ l, p.1 < D) : LCg.Off1 D l := off1_of fun p hp => Nat.ne_of_lt (h p hp)
/-- none of these is it -/
def NeAll (D : Nat) (l : List Nat) : Prop := ∀ a ∈ l, a ≠ D
theorem NeAll.at {D a : Nat} {l : List Nat} (h : NeAll D l) (m : a ∈ l) : a ≠ D := h a m
theorem neAll_of {D : Addr} {l : List (Addr × Obj)} (h : LCg.Off1 D l) : NeAll D (l.map (·.1)) := fun _ ha => let ⟨p, hp, e⟩ := List.mem_map.mp ha; e ▸ off1_mem h p hp
theorem off3_mem {I C D : Addr} : ∀ {l : List (Addr × Obj)}, LCg.Off3 I C D l → ∀ p ∈ l, p.1 ≠ I ∧ p.1 ≠ C ∧ p.1 ≠ D
  | [], _, _, h => nomatch h
  | _ :: _, x, p, h => by
    rcases List.mem_cons.mp h with rfl | h
    · exact x.1
    · exact off3_mem x.2 p h
theorem neAll_3 {I C D : Addr} {l : List (Addr × Obj)} (h : LCg.Off3 I C D l) : NeAll I (l.map (·.1)) ∧ NeAll C (l.map (·.1)) ∧ NeAll D (l.map (·.1)) :=
  ⟨fun _ ha => let ⟨p, hp, e⟩ := List.mem_map.mp ha; e ▸ (off3_mem h p hp).1, fun _ ha => let ⟨p, hp, e⟩ := List.mem_map.mp ha; e ▸ (off3_mem h p hp).2.1, fun _ ha => let ⟨p, hp, e⟩ := List.mem_map.mp ha; e ▸ (off3_mem h p hp).2.2⟩

local macro_rules | `(tactic| walk_at "m:memA") => `(tactic| ((with_reducible (repeat' (first | exact List.mem_cons_self | refine List.mem_cons_of_mem _ ?_))); done))
local macro_rules | `(tactic| walk_at "m:ltA") => `(tactic| first | with_reducible assumption | exact LtAll.at (by with_reducible assumption) (by walk_at "m:memA"))
local macro_rules | `(tactic| walk_at "m:sub") => `(tactic| (intro p hp; first | (with_reducible (repeat' (first | exact hp | exact List.mem_append_left _ hp | exact List.mem_append_right _ hp | refine List.mem_cons_of_mem _ ?_)); done) | ((simp only [List.nil_append, List.cons_append, List.append_nil, List.append_assoc, List.mem_cons, List.mem_append, List.not_mem_nil, or_false, false_or] at hp ⊢); first | done | grind)))
local macro_rules | `(tactic| walk_at "m:size") => `(tactic| (rw [sizeLine_eq]; (simp only [List.size_toArray, List.length_append, List.length_cons, List.length_nil]); omega))
local macro_rules | `(tactic| walk_at "m:upd") => `(tactic| first | k_upd | (refine Upd.head (fun p hp => OwnOff.ne (by assumption) (by simp) p hp)))
local macro_rules | `(tactic| k_lt $h:ident) => `(tactic| (have l2 := ltAll_of $h; (try dsimp only [List.map] at l2); replace $h := allLt_of $h))
local macro_rules | `(tactic| k_ne) => `(tactic| (refine neN ?_; (try dsimp only); first | with_reducible assumption | with_reducible exact Ne.symm (by with_reducible assumption) | exact Nat.ne_of_lt (by walk_at "m:ltA") | exact Nat.ne_of_gt (by walk_at "m:ltA") | exact NeAll.at (by with_reducible assumption) (by walk_at "m:memA") | exact Ne.symm (NeAll.at (by with_reducible assumption) (by walk_at "m:memA")) | omega))
local macro_rules | `(tactic| walk_at "getAttr ref") => `(tactic| (k_here; k_dflt (refine att_get (by k_asm) (by k_asm) (by k_asm) (by k_asm) (by k_is) (by k_is) (by k_is) (by k_is) (by first | exact DI.handed (by assumption) | rfl | fail) ?_; k_whole)))
local macro_rules | `(tactic| walk_at "call builtin:list.append") => `(tactic| (k_here; (with_reducible show wpAny _ _ (call (Value.builtin _) [Value.ref _, _]) _ _ _); k_dflt (refine append_K (by k_asm) (by k_asm) (by walk_at "m:upd") ?_ (by walk_at "m:size"); k_whole); intro h' F' N'; (try k_sweep)))
local macro_rules | `(tactic| walk_at "ite") => `(tactic| (k_here; first
  | (with_reducible refine m_ieq_no (by with_reducible assumption) ?_) | (with_reducible refine m_ieq_yes (by with_reducible assumption) ?_)
  | (with_reducible refine m_ine_no (by with_reducible assumption) ?_) | (with_reducible refine m_ine_yes (by with_reducible assumption) ?_)
  | (with_reducible refine m_dec_no (by with_reducible assumption) ?_) | (with_reducible refine m_dec_yes (by with_reducible assumption) ?_)
  | (with_reducible refine m_b_no (by with_reducible assumption) ?_) | (with_reducible refine m_b_yes (by with_reducible assumption) ?_)
  | k_dflt (first | (with_reducible refine m_dec_yes ?hh ?_; (case hh => omega)) | (with_reducible refine m_dec_no ?hh ?_; (case hh => omega)))))
local macro_rules | `(tactic| walk_at "subscriptTail") => `(tactic| (k_here; (with_reducible show wpAny _ _ (subscriptTail _ _ (Value.ref _) (Value.int _ _)) _ _ _); k_dflt (first | (refine b_item (by k_asm) (by with_reducible assumption) (by with_reducible assumption) (by first | (with_reducible assumption) | omega | fail) (by first | (with_reducible assumption) | omega | fail) ?_ (by with_unfolding_all rfl); k_whole) | (refine item_tupleT (IsTup.keeps (by with_reducible assumption) (Fr.keep (by k_asm))) (by decide) (by decide) (by rfl) (by rfl) ?_; k_whole) | (refine n_item (by k_asm) (by k_mem) (by with_reducible assumption) (by first | (with_reducible assumption) | omega | fail) (by first | (with_reducible assumption) | omega | fail) ?_ (by with_unfolding_all rfl); k_whole) | (refine kdt_tail (knd := PySem.intKind _ _) (by k_asm) (by k_mem) (by with_reducible assumption) (kdt_getItem (knd := PySem.intKind _ _) (by k_asm) (by k_mem) (by with_reducible assumption) (intKind_is _ _ _ _) (by with_reducible assumption) ?_); k_whole))))
local macro_rules | `(tactic| walk_at "call builtin:len") => `(tactic| (k_here; (with_reducible show wpAny _ _ (call (Value.builtin "len") [Value.ref _]) _ _ _); k_dflt (refine b_len (by k_asm) (by with_reducible assumption) (by first | (with_reducible assumption) | rfl | fail) (by omega) ?_; k_whole)))
local macro_rules | `(tactic| walk_at "compareOp NotIn int ref") => `(tactic| (k_here; k_dflt (refine kdg_notin (knd := PySem.intKind _ _) (by k_asm) (by k_mem) (by with_reducible assumption) (by k_asm) (intKind_is _ _ _ _) _ (by with_reducible assumption) ?_; k_whole); (try dsimp only [Bool.not_true, Bool.not_false])))
local macro_rules | `(tactic| walk_at "compareOp In int ref") => `(tactic| (k_here; k_dflt (refine kda_in (knd := PySem.intKind _ _) (by k_asm) (by k_mem) (by with_reducible assumption) (by k_asm) (intKind_is _ _ _ _) _ (by with_reducible assumption) ?_; k_whole)))
local macro_rules | `(tactic| k_room) => `(tactic| ((try simp only [depth_under_make, depth_under_kw, depth_in1, depth_deeper]); (try dsimp only [ktrTop]); (try simp only [recursionLimit]); omega))
local macro_rules | `(tactic| walk_at "call type:list") => `(tactic| (k_here; (with_reducible show wpAny _ _ (call (Value.type "list") [Value.ref _]) _ _ _); k_dflt (refine list_copyK (by k_asm) (by k_asm) (stays_list (Fr.keep (by k_asm)) (by with_reducible assumption)) ?_ (by walk_at "m:size"); k_whole); intro D' c' h' F' N' l1; (try k_lt l1); (try k_sweep)))
theorem filled (w : World) (h : Heap) (hx : PySem.Challenge.rw_nu0316_01.row.prog = PySem.Challenge.rw_nu0316_01.row.prog → (Mine.hd.heap_1 w.params).In h) : PySem.Challenge.rw_nu0316_01.row.prog = PySem.Challenge.rw_nu0316_01.row.prog → (Mine.hd.heap_1 w.params).In h := by
  w_top off
  k_fill
  exact hx

/-- _law_draw -/
def DrawOut (fa : Addr) (k : Int) (ml : Nat) (h' : Heap) (r : Value) : Prop :=
  ∃ vs' n' ns' x t, h'.get? fa = some (listOf (List.toArray vs') n') ∧ IntsAre vs' ns' ∧ ns'.length ≤ ml ∧ r = .int x t ∧ 0 ≤ x ∧ x < k
theorem draw_ok {w : World} {mean : ExcName → Option Value} {mg mb : Str → Option Value} {dp un : Nat} {gd : Option (List Code)} {cn : Str} {cs : Scope} {L a : Addr} {ccd : Value} {cl : List (Str × Addr)} {outer : List Env} {A₀ : Around} {base h₀ : Heap} {m : Str → Option Value} {s : Shared} {Q E : Value → Shared → Prop}
    {fa : Addr} {vs : List Value} {ns : List Int} {n : Nat} {k : Int} {tk : Tok}
    (B : Below A₀ base outer h₀) (F : Fr h₀ L s.heap m) (X : (Mine.hd.heap_1 w.params).In h₀) (T : Top Mine.hd.view_1 (looseW Mine.hd.view_1 []) mean mg mb h₀) (hk : cs.kind = .function) (hd : dp ≤ 500) (hu : un ≤ 500)
    (N : News h₀ L s.heap [(fa, listOf vs.toArray n)]) (hi : IntsAre vs ns) (hl : ns.length ≤ 1000) (h0 : 0 < k) (h1 : k < 1000)
    (ret : ∀ r h' tk, (∀ b o, s.heap.get? b = some o → b ∉ [(fa, listOf vs.toArray n)].map (·.1) → h'.get? b = some o) → DrawOut fa k ns.length h' r → Q r { s with heap := h', toks := tk }) :
    wpAny (model PySem.Challenge.rw_nu0316_01.row.prog w) (ktrTop dp un gd cn cs L a ccd cl outer) (call (.ref 112) [.ref fa, .int k tk]) Q E s := by
  refine wpAny_call ?_
  w_top off
  k_dflt (first | (refine' code_B ?O ?k1 ?k2 ?k3 ?k10 ?k4 ?kA ?kF ?kK ?k6 ?k7 ?k8 ?k9 ?kB ?kr ?_ ?c2 ?c3 ?c4 ?c5; (case kA | kF => exact rfl); (case kK => assumption); (case k1 | k2 | k3 => k_asm); (case k10 => first | k_asm | exact News.nil); (case k4 => k_asm); (case k6 | k7 => k_is); (case k8 => ((try simp only [depth_deeper, depth_in1, recursionLimit]); (try dsimp only [ktrTop, recursionLimit]); omega)); (case k9 => exact BindsTo.of_eq rfl); (case c5 => decide); (case kB => exact locs rfl); (case c2 | c3 | c4 => exact rfl); (case kr => assumption)) | fail)
  intro g L' h₁ sub F' N' B' X' T'
  clear F N B X T ret

  (first | ((try k_unmd); (try k_fold); repeat' (first | (k_unfold; (try dsimp only)) | (fail "none") | ((first | (fail_if_success (with_reducible first | show wpAny _ _ (call (Value.ref _) _) _ _ _ | show wpAny _ _ (exec (Stmt.While _ _ _ _) _) _ _ _ | show wpAny _ _ (exec (Stmt.For _ _ _ _ _) _) _ _ _ | show wpAny _ _ (pyIter _) _ _ _ | show wpAny _ _ (setItem _ _ _) _ _ _ | show wpAny _ _ (eval (Expr.ListComp _ _ _ _) _) _ _ _ | show wpAny _ _ (exec (Stmt.Assign _ (Expr.ListComp _ _ _ _) _) _) _ _ _ | show InvPostG _ _ _ _ _ _ _ _ | show InvEndG _ _ _ _ _ _ | show OnG _ _ _ _ _ _ _ | show Fin _ _ _ _ _ _ | show KswEnd _ _ _ _ _ _ _ _ _ _ _ _ | show wpAny _ _ (call (Value.builtin "sorted") _) _ _ _ | show LCg.CompEnd _ _ _ _ _ _ _ _ _ _ _ _ _ _ | show LCg.CompSrc _ _ _ _ _ _ _ _ _ _ _ _ _ _ | show LCt.CompSrcT _ _ _ _ _ _ _ _ _ _ _ _ _ _ _)) | fail); first | walk1 | (dsimp only; (try k_fold); (first | (fail_if_success (with_reducible first | show wpAny _ _ (call (Value.ref _) _) _ _ _ | show wpAny _ _ (exec (Stmt.While _ _ _ _) _) _ _ _ | show wpAny _ _ (exec (Stmt.For _ _ _ _ _) _) _ _ _ | show wpAny _ _ (pyIter _) _ _ _ | show wpAny _ _ (setItem _ _ _) _ _ _ | show wpAny _ _ (eval (Expr.ListComp _ _ _ _) _) _ _ _ | show wpAny _ _ (exec (Stmt.Assign _ (Expr.ListComp _ _ _ _) _) _) _ _ _ | show InvPostG _ _ _ _ _ _ _ _ | show InvEndG _ _ _ _ _ _ | show OnG _ _ _ _ _ _ _ | show Fin _ _ _ _ _ _ | show KswEnd _ _ _ _ _ _ _ _ _ _ _ _ | show wpAny _ _ (call (Value.builtin "sorted") _) _ _ _ | show LCg.CompEnd _ _ _ _ _ _ _ _ _ _ _ _ _ _ | show LCg.CompSrc _ _ _ _ _ _ _ _ _ _ _ _ _ _ | show LCt.CompSrcT _ _ _ _ _ _ _ _ _ _ _ _ _ _ _)) | fail); walk1)) | (leave1; walk_say "STEP leave1"; try dsimp only) | fail "no step")) | fail)
  · rename Fr _ _ _ _ => F1; rename News _ _ _ _ => N1
    exact ⟨_, _, _, rfl, F1, vs, n, ns, 0, _, (N1 (fa, listOf vs.toArray n) (by k_mem)).1, hi, Nat.le_refl _, rfl, Int.le_refl _, h0⟩
  · rename decide (ns = []) = false => hne
    have hl' := hi.length
    have hne' : 0 < vs.length := by
      rw [hl']
      cases ns with
      | nil => simp at hne
      | cons x r => simp
    refine kpa_pop (by k_asm) (by k_asm) (by k_upd) hi hne' (by rw [sizeLine_eq]; omega) ?_
    intro h2 t2 F2 N2 hi2
    dsimp only
    (first | ((try k_unmd); (try k_fold); repeat' (first | (k_unfold; (try dsimp only)) | (fail "none") | ((first | (fail_if_success (with_reducible first | show wpAny _ _ (call (Value.ref _) _) _ _ _ | show wpAny _ _ (exec (Stmt.While _ _ _ _) _) _ _ _ | show wpAny _ _ (exec (Stmt.For _ _ _ _ _) _) _ _ _ | show wpAny _ _ (pyIter _) _ _ _ | show wpAny _ _ (setItem _ _ _) _ _ _ | show wpAny _ _ (eval (Expr.ListComp _ _ _ _) _) _ _ _ | show wpAny _ _ (exec (Stmt.Assign _ (Expr.ListComp _ _ _ _) _) _) _ _ _ | show InvPostG _ _ _ _ _ _ _ _ | show InvEndG _ _ _ _ _ _ | show OnG _ _ _ _ _ _ _ | show Fin _ _ _ _ _ _ | show KswEnd _ _ _ _ _ _ _ _ _ _ _ _ | show wpAny _ _ (call (Value.builtin "sorted") _) _ _ _ | show LCg.CompEnd _ _ _ _ _ _ _ _ _ _ _ _ _ _ | show LCg.CompSrc _ _ _ _ _ _ _ _ _ _ _ _ _ _ | show LCt.CompSrcT _ _ _ _ _ _ _ _ _ _ _ _ _ _ _)) | fail); first | walk1 | (dsimp only; (try k_fold); (first | (fail_if_success (with_reducible first | show wpAny _ _ (call (Value.ref _) _) _ _ _ | show wpAny _ _ (exec (Stmt.While _ _ _ _) _) _ _ _ | show wpAny _ _ (exec (Stmt.For _ _ _ _ _) _) _ _ _ | show wpAny _ _ (pyIter _) _ _ _ | show wpAny _ _ (setItem _ _ _) _ _ _ | show wpAny _ _ (eval (Expr.ListComp _ _ _ _) _) _ _ _ | show wpAny _ _ (exec (Stmt.Assign _ (Expr.ListComp _ _ _ _) _) _) _ _ _ | show InvPostG _ _ _ _ _ _ _ _ | show InvEndG _ _ _ _ _ _ | show OnG _ _ _ _ _ _ _ | show Fin _ _ _ _ _ _ | show KswEnd _ _ _ _ _ _ _ _ _ _ _ _ | show wpAny _ _ (call (Value.builtin "sorted") _) _ _ _ | show LCg.CompEnd _ _ _ _ _ _ _ _ _ _ _ _ _ _ | show LCg.CompSrc _ _ _ _ _ _ _ _ _ _ _ _ _ _ | show LCt.CompSrcT _ _ _ _ _ _ _ _ _ _ _ _ _ _ _)) | fail); walk1)) | (leave1; walk_say "STEP leave1"; try dsimp only) | fail "no step")) | fail)
    refine ⟨_, _, _, rfl, F2, vs.dropLast, n + 1, ns.dropLast, _, _, (N2 (fa, listOf vs.dropLast.toArray (n + 1)) (by k_mem)).1, hi2, by simp, rfl, fmod_lo _ h0, fmod_hi _ h0⟩

structure Fix where
  row : Int
  kind : Str
  m : Int
  e : Int
def Fix.dat (f : Fix) : Dat := .tuple [.int f.row, .str f.kind, .int f.m, .int f.e]

theorem valueAt_cons {K : Type} [DecidableEq K] (p : K × Value) (kvs : List (K × Value)) (k : K) : valueAt (p :: kvs) k = if p.1 = k then some p.2 else valueAt kvs k := by
  unfold valueAt
  rw [List.find?_cons]
  by_cases h : p.1 = k <;> simp [h]
theorem valueAt_map {K : Type} [DecidableEq K] (k k' : K) (v : Value) : ∀ kvs : List (K × Value), valueAt (kvs.map fun kv => if kv.1 = k then (kv.1, v) else kv) k' = if k = k' then (if kvs.any (fun kv => kv.1 = k) then some v else none) else valueAt kvs k'
  | [] => by simp [valueAt]
  | p :: kvs => by
    rw [List.map_cons, valueAt_cons, valueAt_map k k' v kvs, valueAt_cons, List.any_cons]
    by_cases h1 : p.1 = k
    · subst h1
      by_cases h2 : p.1 = k' <;> simp [h2]
    · by_cases h2 : k = k'
      · subst h2; rw [decide_eq_false h1, Bool.false_or, if_pos rfl]; simp only [h1, if_false, if_true]
      · simp [h1, h2]
theorem valueAt_append {K : Type} [DecidableEq K] (k k' : K) (v : Value) : ∀ kvs : List (K × Value), valueAt (kvs ++ [(k, v)]) k' = if kvs.any (fun kv => kv.1 = k') then valueAt kvs k' else if k = k' then some v else none
  | [] => by
    rw [List.nil_append, valueAt_cons]
    simp [valueAt]
  | p :: kvs => by
    rw [List.cons_append, valueAt_cons, valueAt_append k k' v kvs, valueAt_cons, List.any_cons]
    by_cases h1 : p.1 = k'
    · simp [h1]
    · rw [decide_eq_false h1, Bool.false_or, if_neg h1]; simp only [if_neg h1]
theorem valueAt_stored {K : Type} [DecidableEq K] (kvs : List (K × Value)) (k k' : K) (v : Value) : valueAt (stored kvs k v) k' = if k = k' then some v else valueAt kvs k' := by
  unfold stored
  by_cases hc : (kvs.any fun kv => decide (kv.1 = k)) = true
  · rw [if_pos hc, valueAt_map, if_pos hc]
  · rw [if_neg hc, valueAt_append]
    by_cases h : k = k'
    · subst h; rw [if_neg hc]; simp
    · simp only [h, if_false]
      have := valueAt_isSome_eq_any kvs k'
      by_cases h3 : (kvs.any fun kv => decide (kv.1 = k')) = true
      · rw [if_pos h3]
      · rw [if_neg h3]
        cases e : valueAt kvs k' with
        | none => rfl
        | some v' => rw [e] at this; exact absurd this.symm h3
theorem valueAt_put {K : Type} [DecidableEq K] (kvs : List (K × Value)) (k k' : K) (v : Value) : (valueAt (stored kvs k v) k').isSome = (decide (k = k') || (valueAt kvs k').isSome) := by
  rw [valueAt_stored]
  by_cases h : k = k' <;> simp [h]
theorem stored_len {K : Type} [DecidableEq K] (kvs : List (K × Value)) (k : K) (v : Value) : (stored kvs k v).length ≤ kvs.length + 1 := by
  unfold stored
  split
  · simp
  · simp
def CallsOut (w : World) (H : Heap) (fx : List Fix) (h' : Heap) (r : Value) : Prop :=
  ∃ d kvs, r = .ref d ∧ H.get? d = none ∧ (d == sysModules) = false ∧ h'.DictOf (PySem.intKind PySem.Challenge.rw_nu0316_01.row.prog w) d kvs ∧ ∀ k, (valueAt kvs k).isSome = fx.any fun f => decide (f.kind = Str.ofString "call" ∧ f.row = k)
theorem calls_ok {w : World} {mean : ExcName → Option Value} {mg mb : Str → Option Value} {dp un : Nat} {gd : Option (List Code)} {cn : Str} {cs : Scope} {L a : Addr} {ccd : Value} {cl : List (Str × Addr)} {outer : List Env} {A₀ : Around} {base h₀ : Heap} {m : Str → Option Value} {s : Shared} {Q E : Value → Shared → Prop}
    {x la : Addr} {es : List DictEntry} {vs : List Value} {fx : List Fix}
    (B : Below A₀ base outer h₀) (F : Fr h₀ L s.heap m) (X : (Mine.hd.heap_1 w.params).In h₀) (T : Top Mine.hd.view_1 (looseW Mine.hd.view_1 []) mean mg mb h₀) (hk : cs.kind = .function) (hd : dp ≤ 500) (hu : un ≤ 500)
    (O : ObjAt s.heap x es) (hf : getL (Str.ofString "fixups") es = some (some (.ref la))) (hl : s.heap.IsList la vs.toArray) (hD : DIs (Hp s.heap) vs (fx.map Fix.dat)) (hlen : fx.length ≤ 1000)
    (ret : ∀ r h' tk, (∀ b o, s.heap.get? b = some o → b ∉ ([] : List (Addr × Obj)).map (·.1) → h'.get? b = some o) → CallsOut w s.heap fx h' r → Q r { s with heap := h', toks := tk }) :
    wpAny (model PySem.Challenge.rw_nu0316_01.row.prog w) (ktrTop dp un gd cn cs L a ccd cl outer) (call (.ref 56) [.ref x]) Q E s := by
  refine wpAny_call ?_
  w_top off
  k_dflt (first | (refine' code_B ?O ?k1 ?k2 ?k3 ?k10 ?k4 ?kA ?kF ?kK ?k6 ?k7 ?k8 ?k9 ?kB ?kr ?_ ?c2 ?c3 ?c4 ?c5; (case kA | kF => exact rfl); (case kK => assumption); (case k1 | k2 | k3 => k_asm); (case k10 => first | k_asm | exact News.nil); (case k4 => k_asm); (case k6 | k7 => k_is); (case k8 => ((try simp only [depth_deeper, depth_in1, recursionLimit]); (try dsimp only [ktrTop, recursionLimit]); omega)); (case k9 => exact BindsTo.of_eq rfl); (case c5 => decide); (case kB => exact locs rfl); (case c2 | c3 | c4 => exact rfl); (case kr => assumption)) | fail)
  intro g L' h₁ sub F' N' B' X' T'
  replace sub := GSub.all sub
  replace O := O.keeps sub
  replace hl := stays_list sub hl
  replace hD : DIs (Hp g) _ _ := hD.mono sub
  clear F B X T ret

  (first | ((try k_unmd); (try k_fold); repeat' (first | (k_unfold; (try dsimp only)) | (fail "none") | ((first | (fail_if_success (with_reducible first | show wpAny _ _ (call (Value.ref _) _) _ _ _ | show wpAny _ _ (exec (Stmt.While _ _ _ _) _) _ _ _ | show wpAny _ _ (exec (Stmt.For _ _ _ _ _) _) _ _ _ | show wpAny _ _ (pyIter _) _ _ _ | show wpAny _ _ (setItem _ _ _) _ _ _ | show wpAny _ _ (eval (Expr.ListComp _ _ _ _) _) _ _ _ | show wpAny _ _ (exec (Stmt.Assign _ (Expr.ListComp _ _ _ _) _) _) _ _ _ | show InvPostG _ _ _ _ _ _ _ _ | show InvEndG _ _ _ _ _ _ | show OnG _ _ _ _ _ _ _ | show Fin _ _ _ _ _ _ | show KswEnd _ _ _ _ _ _ _ _ _ _ _ _ | show wpAny _ _ (call (Value.builtin "sorted") _) _ _ _ | show LCg.CompEnd _ _ _ _ _ _ _ _ _ _ _ _ _ _ | show LCg.CompSrc _ _ _ _ _ _ _ _ _ _ _ _ _ _ | show LCt.CompSrcT _ _ _ _ _ _ _ _ _ _ _ _ _ _ _)) | fail); first | walk1 | (dsimp only; (try k_fold); (first | (fail_if_success (with_reducible first | show wpAny _ _ (call (Value.ref _) _) _ _ _ | show wpAny _ _ (exec (Stmt.While _ _ _ _) _) _ _ _ | show wpAny _ _ (exec (Stmt.For _ _ _ _ _) _) _ _ _ | show wpAny _ _ (pyIter _) _ _ _ | show wpAny _ _ (setItem _ _ _) _ _ _ | show wpAny _ _ (eval (Expr.ListComp _ _ _ _) _) _ _ _ | show wpAny _ _ (exec (Stmt.Assign _ (Expr.ListComp _ _ _ _) _) _) _ _ _ | show InvPostG _ _ _ _ _ _ _ _ | show InvEndG _ _ _ _ _ _ | show OnG _ _ _ _ _ _ _ | show Fin _ _ _ _ _ _ | show KswEnd _ _ _ _ _ _ _ _ _ _ _ _ | show wpAny _ _ (call (Value.builtin "sorted") _) _ _ _ | show LCg.CompEnd _ _ _ _ _ _ _ _ _ _ _ _ _ _ | show LCg.CompSrc _ _ _ _ _ _ _ _ _ _ _ _ _ _ | show LCt.CompSrcT _ _ _ _ _ _ _ _ _ _ _ _ _ _ _)) | fail); walk1)) | (leave1; walk_say "STEP leave1"; try dsimp only) | fail "no step")) | fail)
  rename Fr _ _ _ _ => F1; rename News _ _ _ _ => N1
  rename Obj.IsDictOf (intKind _ _) _ [] => hdi
  rename (_ == sysModules) = false => hlo
  refine For_invT g ?_ (by intro _; with_unfolding_all rfl)
  (first | ((try k_unmd); (try k_fold); repeat' (first | (k_unfold; (try dsimp only)) | (fail "none") | ((first | (fail_if_success (with_reducible first | show wpAny _ _ (call (Value.ref _) _) _ _ _ | show wpAny _ _ (exec (Stmt.While _ _ _ _) _) _ _ _ | show wpAny _ _ (exec (Stmt.For _ _ _ _ _) _) _ _ _ | show wpAny _ _ (pyIter _) _ _ _ | show wpAny _ _ (setItem _ _ _) _ _ _ | show wpAny _ _ (eval (Expr.ListComp _ _ _ _) _) _ _ _ | show wpAny _ _ (exec (Stmt.Assign _ (Expr.ListComp _ _ _ _) _) _) _ _ _ | show InvPostG _ _ _ _ _ _ _ _ | show InvEndG _ _ _ _ _ _ | show OnG _ _ _ _ _ _ _ | show Fin _ _ _ _ _ _ | show KswEnd _ _ _ _ _ _ _ _ _ _ _ _ | show wpAny _ _ (call (Value.builtin "sorted") _) _ _ _ | show LCg.CompEnd _ _ _ _ _ _ _ _ _ _ _ _ _ _ | show LCg.CompSrc _ _ _ _ _ _ _ _ _ _ _ _ _ _ | show LCt.CompSrcT _ _ _ _ _ _ _ _ _ _ _ _ _ _ _)) | fail); first | walk1 | (dsimp only; (try k_fold); (first | (fail_if_success (with_reducible first | show wpAny _ _ (call (Value.ref _) _) _ _ _ | show wpAny _ _ (exec (Stmt.While _ _ _ _) _) _ _ _ | show wpAny _ _ (exec (Stmt.For _ _ _ _ _) _) _ _ _ | show wpAny _ _ (pyIter _) _ _ _ | show wpAny _ _ (setItem _ _ _) _ _ _ | show wpAny _ _ (eval (Expr.ListComp _ _ _ _) _) _ _ _ | show wpAny _ _ (exec (Stmt.Assign _ (Expr.ListComp _ _ _ _) _) _) _ _ _ | show InvPostG _ _ _ _ _ _ _ _ | show InvEndG _ _ _ _ _ _ | show OnG _ _ _ _ _ _ _ | show Fin _ _ _ _ _ _ | show KswEnd _ _ _ _ _ _ _ _ _ _ _ _ | show wpAny _ _ (call (Value.builtin "sorted") _) _ _ _ | show LCg.CompEnd _ _ _ _ _ _ _ _ _ _ _ _ _ _ | show LCg.CompSrc _ _ _ _ _ _ _ _ _ _ _ _ _ _ | show LCt.CompSrcT _ _ _ _ _ _ _ _ _ _ _ _ _ _ _)) | fail); walk1)) | (leave1; walk_say "STEP leave1"; try dsimp only) | fail "no step")) | fail)
  rename_i d0 _ o0 _ _ _ _ _ _
  refine loopBT (Str.ofString "row") (fun c : Obj × List (Int × Value) => [(d0, c.1)]) [] (fun _ => []) (fun _ c => c.1.IsDictOf (PySem.intKind PySem.Challenge.rw_nu0316_01.row.prog w) c.2) [Str.ofString "row", Str.ofString "kind", Str.ofString "module", Str.ofString "entry"]
    (fun i c => c.2.length ≤ i ∧ ∀ k, (valueAt c.2 k).isSome = (fx.take i).any fun f => decide (f.kind = Str.ofString "call" ∧ f.row = k)) [d0] (o0, []) rfl hl F1 N1 rfl (by intro p hp; simpa using hp) (fun _ => rfl) hdi (by intro p hp; cases hp) ⟨Nat.le_refl _, fun k => rfl⟩ ?_ ?_
  · intro c tl i v u h gens drawn tk os own hv sep off hF hP F2 N2
    obtain ⟨o1, kvs⟩ := c
    obtain ⟨d1, hd1, hv1⟩ := hD.at hv
    rw [List.getElem?_map] at hd1
    obtain ⟨f, hf1, rfl⟩ := Option.map_eq_some_iff.mp hd1
    obtain ⟨frow, fkind, fm, fe⟩ := f
    refine di_fix hv1 ?_
    intro a9 t1 t2 t3 t4 ev ht
    clear hv1
    subst ev
    dsimp only [kstB] at F2
    simp only [List.nil_append, List.cons_append] at N2

    dsimp only at hF hP ht hf1
    (first | ((try k_unmd); (try k_fold); repeat' (first | (k_unfold; (try dsimp only)) | (fail "none") | ((first | (fail_if_success (with_reducible first | show wpAny _ _ (call (Value.ref _) _) _ _ _ | show wpAny _ _ (exec (Stmt.While _ _ _ _) _) _ _ _ | show wpAny _ _ (exec (Stmt.For _ _ _ _ _) _) _ _ _ | show wpAny _ _ (pyIter _) _ _ _ | show wpAny _ _ (setItem _ _ _) _ _ _ | show wpAny _ _ (eval (Expr.ListComp _ _ _ _) _) _ _ _ | show wpAny _ _ (exec (Stmt.Assign _ (Expr.ListComp _ _ _ _) _) _) _ _ _ | show InvPostG _ _ _ _ _ _ _ _ | show InvEndG _ _ _ _ _ _ | show OnG _ _ _ _ _ _ _ | show Fin _ _ _ _ _ _ | show KswEnd _ _ _ _ _ _ _ _ _ _ _ _ | show wpAny _ _ (call (Value.builtin "sorted") _) _ _ _ | show LCg.CompEnd _ _ _ _ _ _ _ _ _ _ _ _ _ _ | show LCg.CompSrc _ _ _ _ _ _ _ _ _ _ _ _ _ _ | show LCt.CompSrcT _ _ _ _ _ _ _ _ _ _ _ _ _ _ _)) | fail); first | walk1 | (dsimp only; (try k_fold); (first | (fail_if_success (with_reducible first | show wpAny _ _ (call (Value.ref _) _) _ _ _ | show wpAny _ _ (exec (Stmt.While _ _ _ _) _) _ _ _ | show wpAny _ _ (exec (Stmt.For _ _ _ _ _) _) _ _ _ | show wpAny _ _ (pyIter _) _ _ _ | show wpAny _ _ (setItem _ _ _) _ _ _ | show wpAny _ _ (eval (Expr.ListComp _ _ _ _) _) _ _ _ | show wpAny _ _ (exec (Stmt.Assign _ (Expr.ListComp _ _ _ _) _) _) _ _ _ | show InvPostG _ _ _ _ _ _ _ _ | show InvEndG _ _ _ _ _ _ | show OnG _ _ _ _ _ _ _ | show Fin _ _ _ _ _ _ | show KswEnd _ _ _ _ _ _ _ _ _ _ _ _ | show wpAny _ _ (call (Value.builtin "sorted") _) _ _ _ | show LCg.CompEnd _ _ _ _ _ _ _ _ _ _ _ _ _ _ | show LCg.CompSrc _ _ _ _ _ _ _ _ _ _ _ _ _ _ | show LCt.CompSrcT _ _ _ _ _ _ _ _ _ _ _ _ _ _ _)) | fail); walk1)) | (leave1; walk_say "STEP leave1"; try dsimp only) | fail "no step")) | fail)
    · rename Fr _ _ _ _ => F3; rename News _ _ _ _ => N3
      refine kda_set (knd := PySem.intKind _ _) F3 N3 (UpdF.head fun p hp => off p hp d0 (.head _)) hF (intKind_is _ _ _ _) (by rw [sizeLine_eq]; have := hP.1; have := (List.getElem?_eq_some_iff.mp hf1).1; omega) ?_
      intro h4 o4 F4 N4 hd4
      (first | ((try k_unmd); (try k_fold); repeat' (first | (k_unfold; (try dsimp only)) | (fail "none") | ((first | (fail_if_success (with_reducible first | show wpAny _ _ (call (Value.ref _) _) _ _ _ | show wpAny _ _ (exec (Stmt.While _ _ _ _) _) _ _ _ | show wpAny _ _ (exec (Stmt.For _ _ _ _ _) _) _ _ _ | show wpAny _ _ (pyIter _) _ _ _ | show wpAny _ _ (setItem _ _ _) _ _ _ | show wpAny _ _ (eval (Expr.ListComp _ _ _ _) _) _ _ _ | show wpAny _ _ (exec (Stmt.Assign _ (Expr.ListComp _ _ _ _) _) _) _ _ _ | show InvPostG _ _ _ _ _ _ _ _ | show InvEndG _ _ _ _ _ _ | show OnG _ _ _ _ _ _ _ | show Fin _ _ _ _ _ _ | show KswEnd _ _ _ _ _ _ _ _ _ _ _ _ | show wpAny _ _ (call (Value.builtin "sorted") _) _ _ _ | show LCg.CompEnd _ _ _ _ _ _ _ _ _ _ _ _ _ _ | show LCg.CompSrc _ _ _ _ _ _ _ _ _ _ _ _ _ _ | show LCt.CompSrcT _ _ _ _ _ _ _ _ _ _ _ _ _ _ _)) | fail); first | walk1 | (dsimp only; (try k_fold); (first | (fail_if_success (with_reducible first | show wpAny _ _ (call (Value.ref _) _) _ _ _ | show wpAny _ _ (exec (Stmt.While _ _ _ _) _) _ _ _ | show wpAny _ _ (exec (Stmt.For _ _ _ _ _) _) _ _ _ | show wpAny _ _ (pyIter _) _ _ _ | show wpAny _ _ (setItem _ _ _) _ _ _ | show wpAny _ _ (eval (Expr.ListComp _ _ _ _) _) _ _ _ | show wpAny _ _ (exec (Stmt.Assign _ (Expr.ListComp _ _ _ _) _) _) _ _ _ | show InvPostG _ _ _ _ _ _ _ _ | show InvEndG _ _ _ _ _ _ | show OnG _ _ _ _ _ _ _ | show Fin _ _ _ _ _ _ | show KswEnd _ _ _ _ _ _ _ _ _ _ _ _ | show wpAny _ _ (call (Value.builtin "sorted") _) _ _ _ | show LCg.CompEnd _ _ _ _ _ _ _ _ _ _ _ _ _ _ | show LCg.CompSrc _ _ _ _ _ _ _ _ _ _ _ _ _ _ | show LCt.CompSrcT _ _ _ _ _ _ _ _ _ _ _ _ _ _ _)) | fail); walk1)) | (leave1; walk_say "STEP leave1"; try dsimp only) | fail "no step")) | fail)
      refine ⟨rfl, kd_end (o4, stored kvs frow (Value.bool true)) [] sep F4 N4 (by (first | (intro p hp; first | (with_reducible (repeat' (first | exact hp | exact List.mem_append_left _ hp | exact List.mem_append_right _ hp | refine List.mem_cons_of_mem _ ?_)); done) | ((simp only [List.nil_append, List.cons_append, List.append_nil, List.append_assoc, List.mem_cons, List.mem_append, List.not_mem_nil, or_false, false_or] at hp ⊢); first | done | grind)) | fail)) (by (first | (intro p hp; first | (with_reducible (repeat' (first | exact hp | exact List.mem_append_left _ hp | exact List.mem_append_right _ hp | refine List.mem_cons_of_mem _ ?_)); done) | ((simp only [List.nil_append, List.cons_append, List.append_nil, List.append_assoc, List.mem_cons, List.mem_append, List.not_mem_nil, or_false, false_or] at hp ⊢); first | done | grind)) | fail)) rfl (by intro q hq; cases hq) (by intro q hq; cases hq) (by intro q hq; cases hq) ?_ hd4 ?_⟩
      · (first | (intro z h1 h2 h3; (simp only [List.contains_cons, List.contains_nil, Bool.or_eq_false_iff, beq_eq_false_iff_ne, ne_eq, List.forall_mem_cons, List.mem_cons, List.not_mem_nil, or_false, forall_eq_or_imp, forall_eq] at h1 h2 h3); (simp only [h1, h2, h3, if_false, ite_false, List.contains_cons, List.contains_nil, Bool.or_false, beq_iff_eq, Bool.or_eq_true, or_self, or_false, and_true, not_false_eq_true, Bool.false_eq_true]); done) | fail)
      · refine ⟨Nat.le_trans (stored_len _ _ _) (Nat.succ_le_succ hP.1), fun k => ?_⟩
        rename (fkind == _) = true => hq
        rw [valueAt_put, List.take_add_one, hf1, List.any_append, ← hP.2]
        by_cases hk9 : frow = k
        · simp [hk9, beq_iff_eq.mp hq]
        · simp [hk9]
    · rename Fr _ _ _ _ => F3; rename News _ _ _ _ => N3
      refine ⟨rfl, kd_end (o1, kvs) [] sep F3 N3 (by (first | (intro p hp; first | (with_reducible (repeat' (first | exact hp | exact List.mem_append_left _ hp | exact List.mem_append_right _ hp | refine List.mem_cons_of_mem _ ?_)); done) | ((simp only [List.nil_append, List.cons_append, List.append_nil, List.append_assoc, List.mem_cons, List.mem_append, List.not_mem_nil, or_false, false_or] at hp ⊢); first | done | grind)) | fail)) (by (first | (intro p hp; first | (with_reducible (repeat' (first | exact hp | exact List.mem_append_left _ hp | exact List.mem_append_right _ hp | refine List.mem_cons_of_mem _ ?_)); done) | ((simp only [List.nil_append, List.cons_append, List.append_nil, List.append_assoc, List.mem_cons, List.mem_append, List.not_mem_nil, or_false, false_or] at hp ⊢); first | done | grind)) | fail)) rfl (by intro q hq; cases hq) (by intro q hq; cases hq) (by intro q hq; cases hq) ?_ hF ?_⟩
      · (first | (intro z h1 h2 h3; (simp only [List.contains_cons, List.contains_nil, Bool.or_eq_false_iff, beq_eq_false_iff_ne, ne_eq, List.forall_mem_cons, List.mem_cons, List.not_mem_nil, or_false, forall_eq_or_imp, forall_eq] at h1 h2 h3); (simp only [h1, h2, h3, if_false, ite_false, List.contains_cons, List.contains_nil, Bool.or_false, beq_iff_eq, Bool.or_eq_true, or_self, or_false, and_true, not_false_eq_true, Bool.false_eq_true]); done) | fail)
      · refine ⟨Nat.le_succ_of_le hP.1, fun k => ?_⟩
        rename (fkind == _) = false => hq
        rw [List.take_add_one, hf1, List.any_append, ← hP.2]
        have hq' : ¬ fkind = Str.ofString "call" := fun e => by rw [e] at hq; simp at hq
        simp [hq']
  · intro c tl u h tk off hF hP F2 N2
    dsimp only [kstB] at F2
    simp only [List.nil_append, List.cons_append] at N2
    dsimp only

    (first | ((try k_unmd); (try k_fold); repeat' (first | (k_unfold; (try dsimp only)) | (fail "none") | ((first | (fail_if_success (with_reducible first | show wpAny _ _ (call (Value.ref _) _) _ _ _ | show wpAny _ _ (exec (Stmt.While _ _ _ _) _) _ _ _ | show wpAny _ _ (exec (Stmt.For _ _ _ _ _) _) _ _ _ | show wpAny _ _ (pyIter _) _ _ _ | show wpAny _ _ (setItem _ _ _) _ _ _ | show wpAny _ _ (eval (Expr.ListComp _ _ _ _) _) _ _ _ | show wpAny _ _ (exec (Stmt.Assign _ (Expr.ListComp _ _ _ _) _) _) _ _ _ | show InvPostG _ _ _ _ _ _ _ _ | show InvEndG _ _ _ _ _ _ | show OnG _ _ _ _ _ _ _ | show Fin _ _ _ _ _ _ | show KswEnd _ _ _ _ _ _ _ _ _ _ _ _ | show wpAny _ _ (call (Value.builtin "sorted") _) _ _ _ | show LCg.CompEnd _ _ _ _ _ _ _ _ _ _ _ _ _ _ | show LCg.CompSrc _ _ _ _ _ _ _ _ _ _ _ _ _ _ | show LCt.CompSrcT _ _ _ _ _ _ _ _ _ _ _ _ _ _ _)) | fail); first | walk1 | (dsimp only; (try k_fold); (first | (fail_if_success (with_reducible first | show wpAny _ _ (call (Value.ref _) _) _ _ _ | show wpAny _ _ (exec (Stmt.While _ _ _ _) _) _ _ _ | show wpAny _ _ (exec (Stmt.For _ _ _ _ _) _) _ _ _ | show wpAny _ _ (pyIter _) _ _ _ | show wpAny _ _ (setItem _ _ _) _ _ _ | show wpAny _ _ (eval (Expr.ListComp _ _ _ _) _) _ _ _ | show wpAny _ _ (exec (Stmt.Assign _ (Expr.ListComp _ _ _ _) _) _) _ _ _ | show InvPostG _ _ _ _ _ _ _ _ | show InvEndG _ _ _ _ _ _ | show OnG _ _ _ _ _ _ _ | show Fin _ _ _ _ _ _ | show KswEnd _ _ _ _ _ _ _ _ _ _ _ _ | show wpAny _ _ (call (Value.builtin "sorted") _) _ _ _ | show LCg.CompEnd _ _ _ _ _ _ _ _ _ _ _ _ _ _ | show LCg.CompSrc _ _ _ _ _ _ _ _ _ _ _ _ _ _ | show LCt.CompSrcT _ _ _ _ _ _ _ _ _ _ _ _ _ _ _)) | fail); walk1)) | (leave1; walk_say "STEP leave1"; try dsimp only) | fail "no step")) | fail)
    dsimp only
    k_unfold
    have hlen' := hD.length
    rw [List.length_map] at hlen'
    refine ⟨_, _, _, rfl, F2, d0, c.2, rfl, fresh_of sub (N2 (d0, c.1) (.head _)).2.2, hlo, Heap.dictOf_iff.mpr ⟨c.1, (N2 (d0, c.1) (.head _)).1, hF⟩, fun k => ?_⟩
    rw [hP.2 k, List.take_of_length_le (Nat.le_of_eq hlen'.symm)]
theorem valueAt_none {K : Type} [DecidableEq K] {kvs : List (K × Value)} {k : K} (h : (valueAt kvs k).isSome = false) : valueAt kvs k = none := by
  cases e : valueAt kvs k with
  | none => rfl
  | some v => rw [e] at h; cases h

/-- _law_goal: how many of an ascending list lie below -/
def goalN (ns : List Int) (old : Int) : Nat := (ns.takeWhile fun x => decide (x < old)).length
theorem goalN_of : ∀ (ns : List Int) (old : Int) (k : Nat), k ≤ ns.length → (∀ j x, j < k → ns[j]? = some x → x < old) → (∀ x, ns[k]? = some x → ¬ x < old) → goalN ns old = k
  | [], _, k, hk, _, _ => by
    have : k = 0 := by simpa using hk
    rw [this]; rfl
  | y :: ns, old, 0, _, _, h => by
    have := h y rfl
    unfold goalN
    rw [List.takeWhile_cons, if_neg (by simpa using this)]
    rfl
  | y :: ns, old, k + 1, hk, h, h' => by
    have h1 := h 0 y (Nat.succ_pos _) rfl
    have := goalN_of ns old k (Nat.le_of_succ_le_succ hk) (fun j x hj e => h (j + 1) x (Nat.succ_lt_succ hj) e) fun x e => h' x e
    unfold goalN at this ⊢
    rw [List.takeWhile_cons, if_pos (by simpa using h1), List.length_cons, this]
theorem goal_ok {w : World} {mean : ExcName → Option Value} {mg mb : Str → Option Value} {dp un : Nat} {gd : Option (List Code)} {cn : Str} {cs : Scope} {L a : Addr} {ccd : Value} {cl : List (Str × Addr)} {outer : List Env} {A₀ : Around} {base h₀ : Heap} {m : Str → Option Value} {s : Shared} {Q E : Value → Shared → Prop}
    {la : Addr} {vs : List Value} {ns : List Int} {old : Int} {t : Tok}
    (B : Below A₀ base outer h₀) (F : Fr h₀ L s.heap m) (X : (Mine.hd.heap_1 w.params).In h₀) (T : Top Mine.hd.view_1 (looseW Mine.hd.view_1 []) mean mg mb h₀) (hk : cs.kind = .function) (hd : dp ≤ 500) (hu : un ≤ 500)
    (hl : s.heap.IsList la vs.toArray) (hi : IntsAre vs ns) (hlen : ns.length ≤ 1000)
    (ret : ∀ r h' tk, (∀ b o, s.heap.get? b = some o → b ∉ ([] : List (Addr × Obj)).map (·.1) → h'.get? b = some o) → (∃ t, r = .int (goalN ns old) t) → Q r { s with heap := h', toks := tk }) :
    wpAny (model PySem.Challenge.rw_nu0316_01.row.prog w) (ktrTop dp un gd cn cs L a ccd cl outer) (call (.ref 131) [.ref la, .int old t]) Q E s := by
  have ret' : ∀ r h' tk, (∀ b o, s.heap.get? b = some o → b ∉ ([] : List (Addr × Obj)).map (·.1) → h'.get? b = some o) → (fun (_ : Heap) r => ∃ t, r = Value.int (goalN ns old) t) h' r → Q r { s with heap := h', toks := tk } := ret
  clear ret
  refine wpAny_call ?_
  w_top off
  k_dflt (first | (refine' code_B ?O ?k1 ?k2 ?k3 ?k10 ?k4 ?kA ?kF ?kK ?k6 ?k7 ?k8 ?k9 ?kB ?kr ?_ ?c2 ?c3 ?c4 ?c5; (case kA | kF => exact rfl); (case kK => assumption); (case k1 | k2 | k3 => k_asm); (case k10 => first | k_asm | exact News.nil); (case k4 => k_asm); (case k6 | k7 => k_is); (case k8 => ((try simp only [depth_deeper, depth_in1, recursionLimit]); (try dsimp only [ktrTop, recursionLimit]); omega)); (case k9 => exact BindsTo.of_eq rfl); (case c5 => decide); (case kB => exact locs rfl); (case c2 | c3 | c4 => exact rfl); (case kr => assumption)) | fail)
  intro g L' h₁ sub F' N' B' X' T'
  replace sub := GSub.all sub
  replace hl := stays_list sub hl
  clear F B X T ret'

  (first | ((try k_unmd); (try k_fold); repeat' (first | (k_unfold; (try dsimp only)) | (fail "none") | ((first | (fail_if_success (with_reducible first | show wpAny _ _ (call (Value.ref _) _) _ _ _ | show wpAny _ _ (exec (Stmt.While _ _ _ _) _) _ _ _ | show wpAny _ _ (exec (Stmt.For _ _ _ _ _) _) _ _ _ | show wpAny _ _ (pyIter _) _ _ _ | show wpAny _ _ (setItem _ _ _) _ _ _ | show wpAny _ _ (eval (Expr.ListComp _ _ _ _) _) _ _ _ | show wpAny _ _ (exec (Stmt.Assign _ (Expr.ListComp _ _ _ _) _) _) _ _ _ | show InvPostG _ _ _ _ _ _ _ _ | show InvEndG _ _ _ _ _ _ | show OnG _ _ _ _ _ _ _ | show Fin _ _ _ _ _ _ | show KswEnd _ _ _ _ _ _ _ _ _ _ _ _ | show wpAny _ _ (call (Value.builtin "sorted") _) _ _ _ | show LCg.CompEnd _ _ _ _ _ _ _ _ _ _ _ _ _ _ | show LCg.CompSrc _ _ _ _ _ _ _ _ _ _ _ _ _ _ | show LCt.CompSrcT _ _ _ _ _ _ _ _ _ _ _ _ _ _ _)) | fail); first | walk1 | (dsimp only; (try k_fold); (first | (fail_if_success (with_reducible first | show wpAny _ _ (call (Value.ref _) _) _ _ _ | show wpAny _ _ (exec (Stmt.While _ _ _ _) _) _ _ _ | show wpAny _ _ (exec (Stmt.For _ _ _ _ _) _) _ _ _ | show wpAny _ _ (pyIter _) _ _ _ | show wpAny _ _ (setItem _ _ _) _ _ _ | show wpAny _ _ (eval (Expr.ListComp _ _ _ _) _) _ _ _ | show wpAny _ _ (exec (Stmt.Assign _ (Expr.ListComp _ _ _ _) _) _) _ _ _ | show InvPostG _ _ _ _ _ _ _ _ | show InvEndG _ _ _ _ _ _ | show OnG _ _ _ _ _ _ _ | show Fin _ _ _ _ _ _ | show KswEnd _ _ _ _ _ _ _ _ _ _ _ _ | show wpAny _ _ (call (Value.builtin "sorted") _) _ _ _ | show LCg.CompEnd _ _ _ _ _ _ _ _ _ _ _ _ _ _ | show LCg.CompSrc _ _ _ _ _ _ _ _ _ _ _ _ _ _ | show LCt.CompSrcT _ _ _ _ _ _ _ _ _ _ _ _ _ _ _)) | fail); walk1)) | (leave1; walk_say "STEP leave1"; try dsimp only) | fail "no step")) | fail)
  rename Fr _ _ _ _ => F1; rename News _ _ _ _ => N1
  refine ksw_while (fun _ => []) (fun c : Int × Tok => [(Str.ofString "spot", .int c.1 c.2)]) (fun _ => True) [] (fun c => 0 ≤ c.1 ∧ c.1 ≤ ns.length ∧ ∀ j x, j < c.1.toNat → ns[j]? = some x → x < old) (fun c => (ns.length - c.1.toNat)) (0, _) F1 N1 trivial
    (by intro p hp; rw [List.mem_singleton.mp hp]; with_unfolding_all rfl) ⟨Int.le_refl _, by simp, by intro j x hj; simp at hj⟩ ?_
  intro c u h tk _ hP F2 N2
  obtain ⟨i, ti⟩ := c
  dsimp only [kstB] at F2 hP

  (first | ((try k_unmd); (try k_fold); repeat' (first | (k_unfold; (try dsimp only)) | (fail "none") | ((first | (fail_if_success (with_reducible first | show wpAny _ _ (call (Value.ref _) _) _ _ _ | show wpAny _ _ (exec (Stmt.While _ _ _ _) _) _ _ _ | show wpAny _ _ (exec (Stmt.For _ _ _ _ _) _) _ _ _ | show wpAny _ _ (pyIter _) _ _ _ | show wpAny _ _ (setItem _ _ _) _ _ _ | show wpAny _ _ (eval (Expr.ListComp _ _ _ _) _) _ _ _ | show wpAny _ _ (exec (Stmt.Assign _ (Expr.ListComp _ _ _ _) _) _) _ _ _ | show InvPostG _ _ _ _ _ _ _ _ | show InvEndG _ _ _ _ _ _ | show OnG _ _ _ _ _ _ _ | show Fin _ _ _ _ _ _ | show KswEnd _ _ _ _ _ _ _ _ _ _ _ _ | show wpAny _ _ (call (Value.builtin "sorted") _) _ _ _ | show LCg.CompEnd _ _ _ _ _ _ _ _ _ _ _ _ _ _ | show LCg.CompSrc _ _ _ _ _ _ _ _ _ _ _ _ _ _ | show LCt.CompSrcT _ _ _ _ _ _ _ _ _ _ _ _ _ _ _)) | fail); first | walk1 | (dsimp only; (try k_fold); (first | (fail_if_success (with_reducible first | show wpAny _ _ (call (Value.ref _) _) _ _ _ | show wpAny _ _ (exec (Stmt.While _ _ _ _) _) _ _ _ | show wpAny _ _ (exec (Stmt.For _ _ _ _ _) _) _ _ _ | show wpAny _ _ (pyIter _) _ _ _ | show wpAny _ _ (setItem _ _ _) _ _ _ | show wpAny _ _ (eval (Expr.ListComp _ _ _ _) _) _ _ _ | show wpAny _ _ (exec (Stmt.Assign _ (Expr.ListComp _ _ _ _) _) _) _ _ _ | show InvPostG _ _ _ _ _ _ _ _ | show InvEndG _ _ _ _ _ _ | show OnG _ _ _ _ _ _ _ | show Fin _ _ _ _ _ _ | show KswEnd _ _ _ _ _ _ _ _ _ _ _ _ | show wpAny _ _ (call (Value.builtin "sorted") _) _ _ _ | show LCg.CompEnd _ _ _ _ _ _ _ _ _ _ _ _ _ _ | show LCg.CompSrc _ _ _ _ _ _ _ _ _ _ _ _ _ _ | show LCt.CompSrcT _ _ _ _ _ _ _ _ _ _ _ _ _ _ _)) | fail); walk1)) | (leave1; walk_say "STEP leave1"; try dsimp only) | fail "no step")) | fail)
  · rename Fr _ _ _ _ => F3; rename News _ _ _ _ => N3
    rename ns.getD _ 0 < old => hlt
    obtain ⟨p1, p2, p3⟩ := hP
    refine ksw_end (i + 1, _) F3 N3 (by intro p hp; cases hp) trivial (by intro p hp; rw [List.mem_singleton.mp hp]; with_unfolding_all rfl) ?_ ⟨by dsimp only; omega, by dsimp only; omega, ?_⟩ (by dsimp only; omega)
    · intro z h2 h3
      have h2' : z ≠ Str.ofString "spot" := h2 _ (.head _)
      simp [h2']
    · intro j x hj hx
      dsimp only at hj
      by_cases hji : j < i.toNat
      · exact p3 j x hji hx
      · have : j = i.toNat := by omega
        subst this
        rw [List.getD_eq_getElem?_getD, hx] at hlt
        exact hlt
  · rename ¬ ns.getD _ 0 < old => hlt
    dsimp only
    k_unfold
    obtain ⟨p1, p2, p3⟩ := hP
    have e : goalN ns old = i.toNat := goalN_of ns old i.toNat (by omega) p3 fun x hx => by rw [List.getD_eq_getElem?_getD, hx] at hlt; exact hlt
    refine ⟨_, _, _, rfl, F2, ti, ?_⟩
    dsimp only
    rw [e, Int.toNat_of_nonneg p1]
  · dsimp only
    k_unfold
    obtain ⟨p1, p2, p3⟩ := hP
    have e : goalN ns old = i.toNat := goalN_of ns old i.toNat (by omega) p3 fun x hx => by have := (List.getElem?_eq_some_iff.mp hx).1; omega
    refine ⟨_, _, _, rfl, F2, ti, ?_⟩
    dsimp only
    rw [e, Int.toNat_of_nonneg p1]

/-- how many of the first k stay -/
def cnt (ks : List Bool) (k : Nat) : Nat := ((ks.take k).filter id).length
theorem cnt_zero (ks : List Bool) : cnt ks 0 = 0 := rfl
theorem cnt_succ (ks : List Bool) (k : Nat) {b : Bool} (h : ks[k]? = some b) : cnt ks (k + 1) = cnt ks k + (if b then 1 else 0) := by
  unfold cnt
  rw [List.take_add_one, h, List.filter_append, List.length_append]
  cases b <;> rfl
def placesN (ks : List Bool) (k : Nat) : List Int := (List.range k).map fun i => (cnt ks i : Int)
theorem placesN_succ (ks : List Bool) (k : Nat) : placesN ks (k + 1) = placesN ks k ++ [(cnt ks k : Int)] := by
  unfold placesN
  rw [List.range_succ, List.map_append]
  rfl
theorem placesN_len (ks : List Bool) (k : Nat) : (placesN ks k).length = k := by simp [placesN]
theorem placesN_at {ks : List Bool} {k i : Nat} (h : i < k) : (placesN ks k)[i]? = some (cnt ks i : Int) := by simp [placesN, h]

theorem places_ok {w : World} {mean : ExcName → Option Value} {mg mb : Str → Option Value} {dp un : Nat} {gd : Option (List Code)} {cn : Str} {cs : Scope} {L a : Addr} {ccd : Value} {cl : List (Str × Addr)} {outer : List Env} {A₀ : Around} {base h₀ : Heap} {m : Str → Option Value} {s : Shared} {Q E : Value → Shared → Prop}
    {la : Addr} {vs : List Value} {ks : List Bool}
    (B : Below A₀ base outer h₀) (F : Fr h₀ L s.heap m) (X : (Mine.hd.heap_1 w.params).In h₀) (T : Top Mine.hd.view_1 (looseW Mine.hd.view_1 []) mean mg mb h₀) (hk : cs.kind = .function) (hd : dp ≤ 500) (hu : un ≤ 500)
    (hl : s.heap.IsList la vs.toArray) (hD : DIs (Hp s.heap) vs (ks.map Dat.bool)) (hlen : ks.length ≤ 1000)
    (ret : ∀ r h' tk, (∀ b o, s.heap.get? b = some o → b ∉ ([] : List (Addr × Obj)).map (·.1) → h'.get? b = some o) → (∃ p us n, r = .ref p ∧ s.heap.get? p = none ∧ h'.get? p = some (listOf (List.toArray us) n) ∧ IntsAre us (placesN ks (ks.length + 1))) → Q r { s with heap := h', toks := tk }) :
    wpAny (model PySem.Challenge.rw_nu0316_01.row.prog w) (ktrTop dp un gd cn cs L a ccd cl outer) (call (.ref 70) [.ref la]) Q E s := by
  have ret' : ∀ r h' tk, (∀ b o, s.heap.get? b = some o → b ∉ ([] : List (Addr × Obj)).map (·.1) → h'.get? b = some o) → (fun (h' : Heap) r => ∃ p us n, r = Value.ref p ∧ s.heap.get? p = none ∧ h'.get? p = some (listOf (List.toArray us) n) ∧ IntsAre us (placesN ks (ks.length + 1))) h' r → Q r { s with heap := h', toks := tk } := ret
  clear ret
  refine wpAny_call ?_
  w_top off
  k_dflt (first | (refine' code_B ?O ?k1 ?k2 ?k3 ?k10 ?k4 ?kA ?kF ?kK ?k6 ?k7 ?k8 ?k9 ?kB ?kr ?_ ?c2 ?c3 ?c4 ?c5; (case kA | kF => exact rfl); (case kK => assumption); (case k1 | k2 | k3 => k_asm); (case k10 => first | k_asm | exact News.nil); (case k4 => k_asm); (case k6 | k7 => k_is); (case k8 => ((try simp only [depth_deeper, depth_in1, recursionLimit]); (try dsimp only [ktrTop, recursionLimit]); omega)); (case k9 => exact BindsTo.of_eq rfl); (case c5 => decide); (case kB => exact locs rfl); (case c2 | c3 | c4 => exact rfl); (case kr => assumption)) | fail)
  intro g L' h₁ sub F' N' B' X' T'
  replace sub := GSub.all sub
  replace hl := stays_list sub hl
  replace hD : DIs (Hp g) _ _ := hD.mono sub
  have hlen' := hD.length
  rw [List.length_map] at hlen'
  clear F B X T ret'
  (first | ((try k_unmd); (try k_fold); repeat' (first | (k_unfold; (try dsimp only)) | (fail "none") | ((first | (fail_if_success (with_reducible first | show wpAny _ _ (call (Value.ref _) _) _ _ _ | show wpAny _ _ (exec (Stmt.While _ _ _ _) _) _ _ _ | show wpAny _ _ (exec (Stmt.For _ _ _ _ _) _) _ _ _ | show wpAny _ _ (pyIter _) _ _ _ | show wpAny _ _ (setItem _ _ _) _ _ _ | show wpAny _ _ (eval (Expr.ListComp _ _ _ _) _) _ _ _ | show wpAny _ _ (exec (Stmt.Assign _ (Expr.ListComp _ _ _ _) _) _) _ _ _ | show InvPostG _ _ _ _ _ _ _ _ | show InvEndG _ _ _ _ _ _ | show OnG _ _ _ _ _ _ _ | show Fin _ _ _ _ _ _ | show KswEnd _ _ _ _ _ _ _ _ _ _ _ _ | show wpAny _ _ (call (Value.builtin "sorted") _) _ _ _ | show LCg.CompEnd _ _ _ _ _ _ _ _ _ _ _ _ _ _ | show LCg.CompSrc _ _ _ _ _ _ _ _ _ _ _ _ _ _ | show LCt.CompSrcT _ _ _ _ _ _ _ _ _ _ _ _ _ _ _)) | fail); first | walk1 | (dsimp only; (try k_fold); (first | (fail_if_success (with_reducible first | show wpAny _ _ (call (Value.ref _) _) _ _ _ | show wpAny _ _ (exec (Stmt.While _ _ _ _) _) _ _ _ | show wpAny _ _ (exec (Stmt.For _ _ _ _ _) _) _ _ _ | show wpAny _ _ (pyIter _) _ _ _ | show wpAny _ _ (setItem _ _ _) _ _ _ | show wpAny _ _ (eval (Expr.ListComp _ _ _ _) _) _ _ _ | show wpAny _ _ (exec (Stmt.Assign _ (Expr.ListComp _ _ _ _) _) _) _ _ _ | show InvPostG _ _ _ _ _ _ _ _ | show InvEndG _ _ _ _ _ _ | show OnG _ _ _ _ _ _ _ | show Fin _ _ _ _ _ _ | show KswEnd _ _ _ _ _ _ _ _ _ _ _ _ | show wpAny _ _ (call (Value.builtin "sorted") _) _ _ _ | show LCg.CompEnd _ _ _ _ _ _ _ _ _ _ _ _ _ _ | show LCg.CompSrc _ _ _ _ _ _ _ _ _ _ _ _ _ _ | show LCt.CompSrcT _ _ _ _ _ _ _ _ _ _ _ _ _ _ _)) | fail); walk1)) | (leave1; walk_say "STEP leave1"; try dsimp only) | fail "no step")) | fail)
  rename Fr _ _ _ _ => F1; rename News _ _ _ _ => N1
  refine For_invV g (by rfl) (by rfl) ?_ (by intro _; with_unfolding_all rfl)
  (first | ((try k_unmd); (try k_fold); repeat' (first | (k_unfold; (try dsimp only)) | (fail "none") | ((first | (fail_if_success (with_reducible first | show wpAny _ _ (call (Value.ref _) _) _ _ _ | show wpAny _ _ (exec (Stmt.While _ _ _ _) _) _ _ _ | show wpAny _ _ (exec (Stmt.For _ _ _ _ _) _) _ _ _ | show wpAny _ _ (pyIter _) _ _ _ | show wpAny _ _ (setItem _ _ _) _ _ _ | show wpAny _ _ (eval (Expr.ListComp _ _ _ _) _) _ _ _ | show wpAny _ _ (exec (Stmt.Assign _ (Expr.ListComp _ _ _ _) _) _) _ _ _ | show InvPostG _ _ _ _ _ _ _ _ | show InvEndG _ _ _ _ _ _ | show OnG _ _ _ _ _ _ _ | show Fin _ _ _ _ _ _ | show KswEnd _ _ _ _ _ _ _ _ _ _ _ _ | show wpAny _ _ (call (Value.builtin "sorted") _) _ _ _ | show LCg.CompEnd _ _ _ _ _ _ _ _ _ _ _ _ _ _ | show LCg.CompSrc _ _ _ _ _ _ _ _ _ _ _ _ _ _ | show LCt.CompSrcT _ _ _ _ _ _ _ _ _ _ _ _ _ _ _)) | fail); first | walk1 | (dsimp only; (try k_fold); (first | (fail_if_success (with_reducible first | show wpAny _ _ (call (Value.ref _) _) _ _ _ | show wpAny _ _ (exec (Stmt.While _ _ _ _) _) _ _ _ | show wpAny _ _ (exec (Stmt.For _ _ _ _ _) _) _ _ _ | show wpAny _ _ (pyIter _) _ _ _ | show wpAny _ _ (setItem _ _ _) _ _ _ | show wpAny _ _ (eval (Expr.ListComp _ _ _ _) _) _ _ _ | show wpAny _ _ (exec (Stmt.Assign _ (Expr.ListComp _ _ _ _) _) _) _ _ _ | show InvPostG _ _ _ _ _ _ _ _ | show InvEndG _ _ _ _ _ _ | show OnG _ _ _ _ _ _ _ | show Fin _ _ _ _ _ _ | show KswEnd _ _ _ _ _ _ _ _ _ _ _ _ | show wpAny _ _ (call (Value.builtin "sorted") _) _ _ _ | show LCg.CompEnd _ _ _ _ _ _ _ _ _ _ _ _ _ _ | show LCg.CompSrc _ _ _ _ _ _ _ _ _ _ _ _ _ _ | show LCt.CompSrcT _ _ _ _ _ _ _ _ _ _ _ _ _ _ _)) | fail); walk1)) | (leave1; walk_say "STEP leave1"; try dsimp only) | fail "no step")) | fail)
  rename_i p0 _ _ _ _ _
  refine loopB (fun c : List Value × Nat × Int × Tok => [(p0, listOf c.1.toArray c.2.1)]) [] (fun c => [(Str.ofString "count", .int c.2.2.1 c.2.2.2)]) (fun _ _ => True) []
    (fun i c => c.1.length = i ∧ IntsAre c.1 (placesN ks i) ∧ c.2.2.1 = cnt ks i) [p0] ([], 0, 0, _) rfl hl F1 N1 (by intro p hp; simpa using hp) (fun _ => rfl) trivial (by intro p hp; rw [List.mem_singleton.mp hp]; with_unfolding_all rfl) ⟨rfl, .nil, rfl⟩ ?_ ?_
  · intro c tl i v u h tk own hv sep off _ hP F2 N2
    obtain ⟨us, n, ct, tc⟩ := c
    obtain ⟨d1, hd1, hv1⟩ := hD.at hv
    rw [List.getElem?_map] at hd1
    obtain ⟨b, hb, rfl⟩ := Option.map_eq_some_iff.mp hd1
    cases hv1
    dsimp only [kstB] at F2 hP
    obtain ⟨rfl, hI, rfl⟩ := hP
    simp only [List.nil_append, List.cons_append] at N2
    have hKd := kdMark
    have hsz := (List.getElem?_eq_some_iff.mp hv).1
    (first | ((try k_unmd); (try k_fold); repeat' (first | (k_unfold; (try dsimp only)) | (fail "none") | ((first | (fail_if_success (with_reducible first | show wpAny _ _ (call (Value.ref _) _) _ _ _ | show wpAny _ _ (exec (Stmt.While _ _ _ _) _) _ _ _ | show wpAny _ _ (exec (Stmt.For _ _ _ _ _) _) _ _ _ | show wpAny _ _ (pyIter _) _ _ _ | show wpAny _ _ (setItem _ _ _) _ _ _ | show wpAny _ _ (eval (Expr.ListComp _ _ _ _) _) _ _ _ | show wpAny _ _ (exec (Stmt.Assign _ (Expr.ListComp _ _ _ _) _) _) _ _ _ | show InvPostG _ _ _ _ _ _ _ _ | show InvEndG _ _ _ _ _ _ | show OnG _ _ _ _ _ _ _ | show Fin _ _ _ _ _ _ | show KswEnd _ _ _ _ _ _ _ _ _ _ _ _ | show wpAny _ _ (call (Value.builtin "sorted") _) _ _ _ | show LCg.CompEnd _ _ _ _ _ _ _ _ _ _ _ _ _ _ | show LCg.CompSrc _ _ _ _ _ _ _ _ _ _ _ _ _ _ | show LCt.CompSrcT _ _ _ _ _ _ _ _ _ _ _ _ _ _ _)) | fail); first | walk1 | (dsimp only; (try k_fold); (first | (fail_if_success (with_reducible first | show wpAny _ _ (call (Value.ref _) _) _ _ _ | show wpAny _ _ (exec (Stmt.While _ _ _ _) _) _ _ _ | show wpAny _ _ (exec (Stmt.For _ _ _ _ _) _) _ _ _ | show wpAny _ _ (pyIter _) _ _ _ | show wpAny _ _ (setItem _ _ _) _ _ _ | show wpAny _ _ (eval (Expr.ListComp _ _ _ _) _) _ _ _ | show wpAny _ _ (exec (Stmt.Assign _ (Expr.ListComp _ _ _ _) _) _) _ _ _ | show InvPostG _ _ _ _ _ _ _ _ | show InvEndG _ _ _ _ _ _ | show OnG _ _ _ _ _ _ _ | show Fin _ _ _ _ _ _ | show KswEnd _ _ _ _ _ _ _ _ _ _ _ _ | show wpAny _ _ (call (Value.builtin "sorted") _) _ _ _ | show LCg.CompEnd _ _ _ _ _ _ _ _ _ _ _ _ _ _ | show LCg.CompSrc _ _ _ _ _ _ _ _ _ _ _ _ _ _ | show LCt.CompSrcT _ _ _ _ _ _ _ _ _ _ _ _ _ _ _)) | fail); walk1)) | (leave1; walk_say "STEP leave1"; try dsimp only) | fail "no step")) | fail)
    · rename Fr _ _ _ _ => F3; rename News _ _ _ _ => N3
      rename b = true => hbt
      rw [List.push_toArray] at N3
      dsimp only [InvPostG]
      refine kd_end (us ++ [.int (cnt ks us.length) tc], n + 1, _, _) [] sep F3 N3 (by (first | (intro p hp; first | (with_reducible (repeat' (first | exact hp | exact List.mem_append_left _ hp | exact List.mem_append_right _ hp | refine List.mem_cons_of_mem _ ?_)); done) | ((simp only [List.nil_append, List.cons_append, List.append_nil, List.append_assoc, List.mem_cons, List.mem_append, List.not_mem_nil, or_false, false_or] at hp ⊢); first | done | grind)) | fail)) (by (first | (intro p hp; first | (with_reducible (repeat' (first | exact hp | exact List.mem_append_left _ hp | exact List.mem_append_right _ hp | refine List.mem_cons_of_mem _ ?_)); done) | ((simp only [List.nil_append, List.cons_append, List.append_nil, List.append_assoc, List.mem_cons, List.mem_append, List.not_mem_nil, or_false, false_or] at hp ⊢); first | done | grind)) | fail)) rfl (by intro q hq; cases hq) (by intro q hq; cases hq) (by intro p hp; rw [List.mem_singleton.mp hp]; with_unfolding_all rfl) (by (first | (intro z h1 h2 h3; (simp only [List.contains_cons, List.contains_nil, Bool.or_eq_false_iff, beq_eq_false_iff_ne, ne_eq, List.forall_mem_cons, List.mem_cons, List.not_mem_nil, or_false, forall_eq_or_imp, forall_eq] at h1 h2 h3); (simp only [h1, h2, h3, if_false, ite_false, List.contains_cons, List.contains_nil, Bool.or_false, beq_iff_eq, Bool.or_eq_true, or_self, or_false, and_true, not_false_eq_true, Bool.false_eq_true]); done) | fail)) trivial ⟨by simp, ?_, ?_⟩
      · rw [placesN_succ]; exact hI.append (.cons _ _ .nil)
      · rw [cnt_succ ks _ hb, hbt]; rfl
    · rename Fr _ _ _ _ => F3; rename News _ _ _ _ => N3
      rename b = false => hbt
      rw [List.push_toArray] at N3
      dsimp only [InvPostG]
      refine kd_end (us ++ [.int (cnt ks us.length) tc], n + 1, _, _) [] sep F3 N3 (by (first | (intro p hp; first | (with_reducible (repeat' (first | exact hp | exact List.mem_append_left _ hp | exact List.mem_append_right _ hp | refine List.mem_cons_of_mem _ ?_)); done) | ((simp only [List.nil_append, List.cons_append, List.append_nil, List.append_assoc, List.mem_cons, List.mem_append, List.not_mem_nil, or_false, false_or] at hp ⊢); first | done | grind)) | fail)) (by (first | (intro p hp; first | (with_reducible (repeat' (first | exact hp | exact List.mem_append_left _ hp | exact List.mem_append_right _ hp | refine List.mem_cons_of_mem _ ?_)); done) | ((simp only [List.nil_append, List.cons_append, List.append_nil, List.append_assoc, List.mem_cons, List.mem_append, List.not_mem_nil, or_false, false_or] at hp ⊢); first | done | grind)) | fail)) rfl (by intro q hq; cases hq) (by intro q hq; cases hq) (by intro p hp; rw [List.mem_singleton.mp hp]; with_unfolding_all rfl) (by (first | (intro z h1 h2 h3; (simp only [List.contains_cons, List.contains_nil, Bool.or_eq_false_iff, beq_eq_false_iff_ne, ne_eq, List.forall_mem_cons, List.mem_cons, List.not_mem_nil, or_false, forall_eq_or_imp, forall_eq] at h1 h2 h3); (simp only [h1, h2, h3, if_false, ite_false, List.contains_cons, List.contains_nil, Bool.or_false, beq_iff_eq, Bool.or_eq_true, or_self, or_false, and_true, not_false_eq_true, Bool.false_eq_true]); done) | fail)) trivial ⟨by simp, ?_, ?_⟩
      · rw [placesN_succ]; exact hI.append (.cons _ _ .nil)
      · rw [cnt_succ ks _ hb, hbt]; rfl
  · intro c tl u h tk off _ hP F2 N2
    obtain ⟨us, n, ct, tc⟩ := c
    dsimp only [kstB] at F2 hP
    simp only [List.nil_append, List.cons_append] at N2
    obtain ⟨hus, hI, rfl⟩ := hP
    dsimp only
    have hKd := kdMark
    (first | ((try k_unmd); (try k_fold); repeat' (first | (k_unfold; (try dsimp only)) | (fail "none") | ((first | (fail_if_success (with_reducible first | show wpAny _ _ (call (Value.ref _) _) _ _ _ | show wpAny _ _ (exec (Stmt.While _ _ _ _) _) _ _ _ | show wpAny _ _ (exec (Stmt.For _ _ _ _ _) _) _ _ _ | show wpAny _ _ (pyIter _) _ _ _ | show wpAny _ _ (setItem _ _ _) _ _ _ | show wpAny _ _ (eval (Expr.ListComp _ _ _ _) _) _ _ _ | show wpAny _ _ (exec (Stmt.Assign _ (Expr.ListComp _ _ _ _) _) _) _ _ _ | show InvPostG _ _ _ _ _ _ _ _ | show InvEndG _ _ _ _ _ _ | show OnG _ _ _ _ _ _ _ | show Fin _ _ _ _ _ _ | show KswEnd _ _ _ _ _ _ _ _ _ _ _ _ | show wpAny _ _ (call (Value.builtin "sorted") _) _ _ _ | show LCg.CompEnd _ _ _ _ _ _ _ _ _ _ _ _ _ _ | show LCg.CompSrc _ _ _ _ _ _ _ _ _ _ _ _ _ _ | show LCt.CompSrcT _ _ _ _ _ _ _ _ _ _ _ _ _ _ _)) | fail); first | walk1 | (dsimp only; (try k_fold); (first | (fail_if_success (with_reducible first | show wpAny _ _ (call (Value.ref _) _) _ _ _ | show wpAny _ _ (exec (Stmt.While _ _ _ _) _) _ _ _ | show wpAny _ _ (exec (Stmt.For _ _ _ _ _) _) _ _ _ | show wpAny _ _ (pyIter _) _ _ _ | show wpAny _ _ (setItem _ _ _) _ _ _ | show wpAny _ _ (eval (Expr.ListComp _ _ _ _) _) _ _ _ | show wpAny _ _ (exec (Stmt.Assign _ (Expr.ListComp _ _ _ _) _) _) _ _ _ | show InvPostG _ _ _ _ _ _ _ _ | show InvEndG _ _ _ _ _ _ | show OnG _ _ _ _ _ _ _ | show Fin _ _ _ _ _ _ | show KswEnd _ _ _ _ _ _ _ _ _ _ _ _ | show wpAny _ _ (call (Value.builtin "sorted") _) _ _ _ | show LCg.CompEnd _ _ _ _ _ _ _ _ _ _ _ _ _ _ | show LCg.CompSrc _ _ _ _ _ _ _ _ _ _ _ _ _ _ | show LCt.CompSrcT _ _ _ _ _ _ _ _ _ _ _ _ _ _ _)) | fail); walk1)) | (leave1; walk_say "STEP leave1"; try dsimp only) | fail "no step")) | fail)
    rename Fr _ _ _ _ => F3; rename News _ _ _ _ => N3
    rw [List.push_toArray] at N3
    dsimp only
    k_unfold
    refine ⟨_, _, _, rfl, F3, p0, _, _, rfl, fresh_of sub (N3 (p0, _) (.head _)).2.2, (N3 (p0, _) (.head _)).1, ?_⟩
    rw [placesN_succ, ← hlen']
    exact hI.append (.cons _ _ .nil)

def OwnOut (w : World) (H : Heap) (fx : List Fix) (arg : Int → Int) (h' : Heap) (r : Value) : Prop :=
  ∃ d kvs, r = .ref d ∧ H.get? d = none ∧ (d == sysModules) = false ∧ h'.DictOf (PySem.intKind PySem.Challenge.rw_nu0316_01.row.prog w) d kvs ∧ ∀ k, if (fx.any fun f => decide (f.kind = Str.ofString "addr" ∧ f.m = 0 ∧ f.row = k)) = true then ∃ t, valueAt kvs k = some (.int (arg k) t) else valueAt kvs k = none
theorem own_ok {w : World} {mean : ExcName → Option Value} {mg mb : Str → Option Value} {dp un : Nat} {gd : Option (List Code)} {cn : Str} {cs : Scope} {L a : Addr} {ccd : Value} {cl : List (Str × Addr)} {outer : List Env} {A₀ : Around} {base h₀ : Heap} {m : Str → Option Value} {s : Shared} {Q E : Value → Shared → Prop}
    {x la lr : Addr} {es : List DictEntry} {vs rvs : List Value} {fx : List Fix} {rds : List Dat} {arg : Int → Int}
    (B : Below A₀ base outer h₀) (F : Fr h₀ L s.heap m) (X : (Mine.hd.heap_1 w.params).In h₀) (T : Top Mine.hd.view_1 (looseW Mine.hd.view_1 []) mean mg mb h₀) (hk : cs.kind = .function) (hd : dp ≤ 500) (hu : un ≤ 500)
    (O : ObjAt s.heap x es) (hf : getL (Str.ofString "fixups") es = some (some (.ref la))) (hl : s.heap.IsList la vs.toArray) (hD : DIs (Hp s.heap) vs (fx.map Fix.dat)) (hlen : fx.length ≤ 1000)
    (hr : getL (Str.ofString "rows") es = some (some (.ref lr))) (hrl : s.heap.IsList lr rvs.toArray) (hrD : DIs (Hp s.heap) rvs rds) (hrlen : rds.length ≤ 1000)
    (hA : ∀ f ∈ fx, f.kind = Str.ofString "addr" → f.m = 0 → 0 ≤ f.row ∧ ∃ da db dc, rds[f.row.toNat]? = some (.tuple [da, db, dc, .int (arg f.row)]))
    (ret : ∀ r h' tk, (∀ b o, s.heap.get? b = some o → b ∉ ([] : List (Addr × Obj)).map (·.1) → h'.get? b = some o) → OwnOut w s.heap fx arg h' r → Q r { s with heap := h', toks := tk }) :
    wpAny (model PySem.Challenge.rw_nu0316_01.row.prog w) (ktrTop dp un gd cn cs L a ccd cl outer) (call (.ref 63) [.ref x]) Q E s := by
  refine wpAny_call ?_
  w_top off
  k_dflt (first | (refine' code_B ?O ?k1 ?k2 ?k3 ?k10 ?k4 ?kA ?kF ?kK ?k6 ?k7 ?k8 ?k9 ?kB ?kr ?_ ?c2 ?c3 ?c4 ?c5; (case kA | kF => exact rfl); (case kK => assumption); (case k1 | k2 | k3 => k_asm); (case k10 => first | k_asm | exact News.nil); (case k4 => k_asm); (case k6 | k7 => k_is); (case k8 => ((try simp only [depth_deeper, depth_in1, recursionLimit]); (try dsimp only [ktrTop, recursionLimit]); omega)); (case k9 => exact BindsTo.of_eq rfl); (case c5 => decide); (case kB => exact locs rfl); (case c2 | c3 | c4 => exact rfl); (case kr => assumption)) | fail)
  intro g L' h₁ sub F' N' B' X' T'
  replace sub := GSub.all sub
  replace O := O.keeps sub
  replace hl := stays_list sub hl
  replace hrl := stays_list sub hrl
  replace hD : DIs (Hp g) _ _ := hD.mono sub
  replace hrD : DIs (Hp g) _ _ := hrD.mono sub
  clear F B X T ret
  (first | ((try k_unmd); (try k_fold); repeat' (first | (k_unfold; (try dsimp only)) | (fail "none") | ((first | (fail_if_success (with_reducible first | show wpAny _ _ (call (Value.ref _) _) _ _ _ | show wpAny _ _ (exec (Stmt.While _ _ _ _) _) _ _ _ | show wpAny _ _ (exec (Stmt.For _ _ _ _ _) _) _ _ _ | show wpAny _ _ (pyIter _) _ _ _ | show wpAny _ _ (setItem _ _ _) _ _ _ | show wpAny _ _ (eval (Expr.ListComp _ _ _ _) _) _ _ _ | show wpAny _ _ (exec (Stmt.Assign _ (Expr.ListComp _ _ _ _) _) _) _ _ _ | show InvPostG _ _ _ _ _ _ _ _ | show InvEndG _ _ _ _ _ _ | show OnG _ _ _ _ _ _ _ | show Fin _ _ _ _ _ _ | show KswEnd _ _ _ _ _ _ _ _ _ _ _ _ | show wpAny _ _ (call (Value.builtin "sorted") _) _ _ _ | show LCg.CompEnd _ _ _ _ _ _ _ _ _ _ _ _ _ _ | show LCg.CompSrc _ _ _ _ _ _ _ _ _ _ _ _ _ _ | show LCt.CompSrcT _ _ _ _ _ _ _ _ _ _ _ _ _ _ _)) | fail); first | walk1 | (dsimp only; (try k_fold); (first | (fail_if_success (with_reducible first | show wpAny _ _ (call (Value.ref _) _) _ _ _ | show wpAny _ _ (exec (Stmt.While _ _ _ _) _) _ _ _ | show wpAny _ _ (exec (Stmt.For _ _ _ _ _) _) _ _ _ | show wpAny _ _ (pyIter _) _ _ _ | show wpAny _ _ (setItem _ _ _) _ _ _ | show wpAny _ _ (eval (Expr.ListComp _ _ _ _) _) _ _ _ | show wpAny _ _ (exec (Stmt.Assign _ (Expr.ListComp _ _ _ _) _) _) _ _ _ | show InvPostG _ _ _ _ _ _ _ _ | show InvEndG _ _ _ _ _ _ | show OnG _ _ _ _ _ _ _ | show Fin _ _ _ _ _ _ | show KswEnd _ _ _ _ _ _ _ _ _ _ _ _ | show wpAny _ _ (call (Value.builtin "sorted") _) _ _ _ | show LCg.CompEnd _ _ _ _ _ _ _ _ _ _ _ _ _ _ | show LCg.CompSrc _ _ _ _ _ _ _ _ _ _ _ _ _ _ | show LCt.CompSrcT _ _ _ _ _ _ _ _ _ _ _ _ _ _ _)) | fail); walk1)) | (leave1; walk_say "STEP leave1"; try dsimp only) | fail "no step")) | fail)
  rename Fr _ _ _ _ => F1; rename News _ _ _ _ => N1
  rename Obj.IsDictOf (intKind _ _) _ [] => hdi
  rename (_ == sysModules) = false => hlo
  refine For_invT g ?_ (by intro _; with_unfolding_all rfl)
  (first | ((try k_unmd); (try k_fold); repeat' (first | (k_unfold; (try dsimp only)) | (fail "none") | ((first | (fail_if_success (with_reducible first | show wpAny _ _ (call (Value.ref _) _) _ _ _ | show wpAny _ _ (exec (Stmt.While _ _ _ _) _) _ _ _ | show wpAny _ _ (exec (Stmt.For _ _ _ _ _) _) _ _ _ | show wpAny _ _ (pyIter _) _ _ _ | show wpAny _ _ (setItem _ _ _) _ _ _ | show wpAny _ _ (eval (Expr.ListComp _ _ _ _) _) _ _ _ | show wpAny _ _ (exec (Stmt.Assign _ (Expr.ListComp _ _ _ _) _) _) _ _ _ | show InvPostG _ _ _ _ _ _ _ _ | show InvEndG _ _ _ _ _ _ | show OnG _ _ _ _ _ _ _ | show Fin _ _ _ _ _ _ | show KswEnd _ _ _ _ _ _ _ _ _ _ _ _ | show wpAny _ _ (call (Value.builtin "sorted") _) _ _ _ | show LCg.CompEnd _ _ _ _ _ _ _ _ _ _ _ _ _ _ | show LCg.CompSrc _ _ _ _ _ _ _ _ _ _ _ _ _ _ | show LCt.CompSrcT _ _ _ _ _ _ _ _ _ _ _ _ _ _ _)) | fail); first | walk1 | (dsimp only; (try k_fold); (first | (fail_if_success (with_reducible first | show wpAny _ _ (call (Value.ref _) _) _ _ _ | show wpAny _ _ (exec (Stmt.While _ _ _ _) _) _ _ _ | show wpAny _ _ (exec (Stmt.For _ _ _ _ _) _) _ _ _ | show wpAny _ _ (pyIter _) _ _ _ | show wpAny _ _ (setItem _ _ _) _ _ _ | show wpAny _ _ (eval (Expr.ListComp _ _ _ _) _) _ _ _ | show wpAny _ _ (exec (Stmt.Assign _ (Expr.ListComp _ _ _ _) _) _) _ _ _ | show InvPostG _ _ _ _ _ _ _ _ | show InvEndG _ _ _ _ _ _ | show OnG _ _ _ _ _ _ _ | show Fin _ _ _ _ _ _ | show KswEnd _ _ _ _ _ _ _ _ _ _ _ _ | show wpAny _ _ (call (Value.builtin "sorted") _) _ _ _ | show LCg.CompEnd _ _ _ _ _ _ _ _ _ _ _ _ _ _ | show LCg.CompSrc _ _ _ _ _ _ _ _ _ _ _ _ _ _ | show LCt.CompSrcT _ _ _ _ _ _ _ _ _ _ _ _ _ _ _)) | fail); walk1)) | (leave1; walk_say "STEP leave1"; try dsimp only) | fail "no step")) | fail)
  rename_i d0 _ o0 _ _ _ _ _ _
  refine loopBT (Str.ofString "row") (fun c : Obj × List (Int × Value) => [(d0, c.1)]) [] (fun _ => []) (fun _ c => c.1.IsDictOf (PySem.intKind PySem.Challenge.rw_nu0316_01.row.prog w) c.2) [Str.ofString "row", Str.ofString "kind", Str.ofString "module", Str.ofString "entry"]
    (fun i c => c.2.length ≤ i ∧ ∀ k, if ((fx.take i).any fun f => decide (f.kind = Str.ofString "addr" ∧ f.m = 0 ∧ f.row = k)) = true then ∃ t, valueAt c.2 k = some (.int (arg k) t) else valueAt c.2 k = none) [d0] (o0, []) rfl hl F1 N1 rfl (by intro p hp; simpa using hp) (fun _ => rfl) hdi (by intro p hp; cases hp) ⟨Nat.le_refl _, fun k => by simp [valueAt]⟩ ?_ ?_
  · intro c tl i v u h gens drawn tk os own hv sep off hF hP F2 N2
    obtain ⟨o1, kvs⟩ := c
    obtain ⟨d1, hd1, hv1⟩ := hD.at hv
    rw [List.getElem?_map] at hd1
    obtain ⟨f, hf1, rfl⟩ := Option.map_eq_some_iff.mp hd1
    have hlt := (List.getElem?_eq_some_iff.mp hf1).1
    have hA' := hA f (List.mem_of_getElem? hf1)
    obtain ⟨frow, fkind, fm, fe⟩ := f
    refine di_fix hv1 ?_
    intro a9 t1 t2 t3 t4 ev ht
    clear hv1
    subst ev
    dsimp only [kstB] at F2
    simp only [List.nil_append, List.cons_append] at N2
    dsimp only at hF hP ht hf1 hA'
    by_cases hq : fkind = Str.ofString "addr" ∧ fm = 0
    · obtain ⟨rfl, rfl⟩ := hq
      obtain ⟨h0, da, db, dc, hrd⟩ := hA' rfl rfl
      obtain ⟨rv, hrv, hdr⟩ := hrD.get hrd
      have hrow : frow < 2 ^ 63 := by have := (List.getElem?_eq_some_iff.mp hrd).1; omega
      refine di_last hdr ?_
      intro a9 v91 v92 v93 t4 ev ht2
      clear hdr
      subst ev
      (first | ((try k_unmd); (try k_fold); repeat' (first | (k_unfold; (try dsimp only)) | (fail "none") | ((first | (fail_if_success (with_reducible first | show wpAny _ _ (call (Value.ref _) _) _ _ _ | show wpAny _ _ (exec (Stmt.While _ _ _ _) _) _ _ _ | show wpAny _ _ (exec (Stmt.For _ _ _ _ _) _) _ _ _ | show wpAny _ _ (pyIter _) _ _ _ | show wpAny _ _ (setItem _ _ _) _ _ _ | show wpAny _ _ (eval (Expr.ListComp _ _ _ _) _) _ _ _ | show wpAny _ _ (exec (Stmt.Assign _ (Expr.ListComp _ _ _ _) _) _) _ _ _ | show InvPostG _ _ _ _ _ _ _ _ | show InvEndG _ _ _ _ _ _ | show OnG _ _ _ _ _ _ _ | show Fin _ _ _ _ _ _ | show KswEnd _ _ _ _ _ _ _ _ _ _ _ _ | show wpAny _ _ (call (Value.builtin "sorted") _) _ _ _ | show LCg.CompEnd _ _ _ _ _ _ _ _ _ _ _ _ _ _ | show LCg.CompSrc _ _ _ _ _ _ _ _ _ _ _ _ _ _ | show LCt.CompSrcT _ _ _ _ _ _ _ _ _ _ _ _ _ _ _)) | fail); first | walk1 | (dsimp only; (try k_fold); (first | (fail_if_success (with_reducible first | show wpAny _ _ (call (Value.ref _) _) _ _ _ | show wpAny _ _ (exec (Stmt.While _ _ _ _) _) _ _ _ | show wpAny _ _ (exec (Stmt.For _ _ _ _ _) _) _ _ _ | show wpAny _ _ (pyIter _) _ _ _ | show wpAny _ _ (setItem _ _ _) _ _ _ | show wpAny _ _ (eval (Expr.ListComp _ _ _ _) _) _ _ _ | show wpAny _ _ (exec (Stmt.Assign _ (Expr.ListComp _ _ _ _) _) _) _ _ _ | show InvPostG _ _ _ _ _ _ _ _ | show InvEndG _ _ _ _ _ _ | show OnG _ _ _ _ _ _ _ | show Fin _ _ _ _ _ _ | show KswEnd _ _ _ _ _ _ _ _ _ _ _ _ | show wpAny _ _ (call (Value.builtin "sorted") _) _ _ _ | show LCg.CompEnd _ _ _ _ _ _ _ _ _ _ _ _ _ _ | show LCg.CompSrc _ _ _ _ _ _ _ _ _ _ _ _ _ _ | show LCt.CompSrcT _ _ _ _ _ _ _ _ _ _ _ _ _ _ _)) | fail); walk1)) | (leave1; walk_say "STEP leave1"; try dsimp only) | fail "no step")) | fail)
      rename Fr _ _ _ _ => F3; rename News _ _ _ _ => N3
      refine kda_set (knd := PySem.intKind _ _) F3 N3 (UpdF.head fun p hp => off p hp d0 (.head _)) hF (intKind_is _ _ _ _) (by rw [sizeLine_eq]; have := hP.1; omega) ?_
      intro h4 o4 F4 N4 hd4
      (first | ((try k_unmd); (try k_fold); repeat' (first | (k_unfold; (try dsimp only)) | (fail "none") | ((first | (fail_if_success (with_reducible first | show wpAny _ _ (call (Value.ref _) _) _ _ _ | show wpAny _ _ (exec (Stmt.While _ _ _ _) _) _ _ _ | show wpAny _ _ (exec (Stmt.For _ _ _ _ _) _) _ _ _ | show wpAny _ _ (pyIter _) _ _ _ | show wpAny _ _ (setItem _ _ _) _ _ _ | show wpAny _ _ (eval (Expr.ListComp _ _ _ _) _) _ _ _ | show wpAny _ _ (exec (Stmt.Assign _ (Expr.ListComp _ _ _ _) _) _) _ _ _ | show InvPostG _ _ _ _ _ _ _ _ | show InvEndG _ _ _ _ _ _ | show OnG _ _ _ _ _ _ _ | show Fin _ _ _ _ _ _ | show KswEnd _ _ _ _ _ _ _ _ _ _ _ _ | show wpAny _ _ (call (Value.builtin "sorted") _) _ _ _ | show LCg.CompEnd _ _ _ _ _ _ _ _ _ _ _ _ _ _ | show LCg.CompSrc _ _ _ _ _ _ _ _ _ _ _ _ _ _ | show LCt.CompSrcT _ _ _ _ _ _ _ _ _ _ _ _ _ _ _)) | fail); first | walk1 | (dsimp only; (try k_fold); (first | (fail_if_success (with_reducible first | show wpAny _ _ (call (Value.ref _) _) _ _ _ | show wpAny _ _ (exec (Stmt.While _ _ _ _) _) _ _ _ | show wpAny _ _ (exec (Stmt.For _ _ _ _ _) _) _ _ _ | show wpAny _ _ (pyIter _) _ _ _ | show wpAny _ _ (setItem _ _ _) _ _ _ | show wpAny _ _ (eval (Expr.ListComp _ _ _ _) _) _ _ _ | show wpAny _ _ (exec (Stmt.Assign _ (Expr.ListComp _ _ _ _) _) _) _ _ _ | show InvPostG _ _ _ _ _ _ _ _ | show InvEndG _ _ _ _ _ _ | show OnG _ _ _ _ _ _ _ | show Fin _ _ _ _ _ _ | show KswEnd _ _ _ _ _ _ _ _ _ _ _ _ | show wpAny _ _ (call (Value.builtin "sorted") _) _ _ _ | show LCg.CompEnd _ _ _ _ _ _ _ _ _ _ _ _ _ _ | show LCg.CompSrc _ _ _ _ _ _ _ _ _ _ _ _ _ _ | show LCt.CompSrcT _ _ _ _ _ _ _ _ _ _ _ _ _ _ _)) | fail); walk1)) | (leave1; walk_say "STEP leave1"; try dsimp only) | fail "no step")) | fail)
      refine ⟨rfl, kd_end (o4, stored kvs frow _) [] sep F4 N4 (by (first | (intro p hp; first | (with_reducible (repeat' (first | exact hp | exact List.mem_append_left _ hp | exact List.mem_append_right _ hp | refine List.mem_cons_of_mem _ ?_)); done) | ((simp only [List.nil_append, List.cons_append, List.append_nil, List.append_assoc, List.mem_cons, List.mem_append, List.not_mem_nil, or_false, false_or] at hp ⊢); first | done | grind)) | fail)) (by (first | (intro p hp; first | (with_reducible (repeat' (first | exact hp | exact List.mem_append_left _ hp | exact List.mem_append_right _ hp | refine List.mem_cons_of_mem _ ?_)); done) | ((simp only [List.nil_append, List.cons_append, List.append_nil, List.append_assoc, List.mem_cons, List.mem_append, List.not_mem_nil, or_false, false_or] at hp ⊢); first | done | grind)) | fail)) rfl (by intro q hq; cases hq) (by intro q hq; cases hq) (by intro p hp; cases hp) (by (first | (intro z h1 h2 h3; (simp only [List.contains_cons, List.contains_nil, Bool.or_eq_false_iff, beq_eq_false_iff_ne, ne_eq, List.forall_mem_cons, List.mem_cons, List.not_mem_nil, or_false, forall_eq_or_imp, forall_eq] at h1 h2 h3); (simp only [h1, h2, h3, if_false, ite_false, List.contains_cons, List.contains_nil, Bool.or_false, beq_iff_eq, Bool.or_eq_true, or_self, or_false, and_true, not_false_eq_true, Bool.false_eq_true]); done) | fail)) hd4 ?_⟩
      refine ⟨Nat.le_trans (stored_len _ _ _) (Nat.succ_le_succ hP.1), fun k => ?_⟩
      have hPk := hP.2 k
      dsimp only
      rw [valueAt_stored, List.take_add_one, hf1, List.any_append]
      by_cases hk9 : frow = k
      · subst hk9; simp
      · simpa [hk9] using hPk
    · have hP2 : kvs.length ≤ i + 1 ∧ ∀ k, if ((fx.take (i + 1)).any fun f => decide (f.kind = Str.ofString "addr" ∧ f.m = 0 ∧ f.row = k)) = true then ∃ t, valueAt kvs k = some (.int (arg k) t) else valueAt kvs k = none := by
        refine ⟨Nat.le_succ_of_le hP.1, fun k => ?_⟩
        have hPk := hP.2 k
        rw [List.take_add_one, hf1, List.any_append]
        have hq2 : ¬ (fkind = Str.ofString "addr" ∧ fm = 0 ∧ frow = k) := fun z => hq ⟨z.1, z.2.1⟩
        simpa [hq2] using hPk
      by_cases hq1 : fkind = Str.ofString "addr"
      · subst hq1
        have hq3 : fm ≠ 0 := fun z => hq ⟨rfl, z⟩
        (first | ((try k_unmd); (try k_fold); repeat' (first | (k_unfold; (try dsimp only)) | (fail "none") | ((first | (fail_if_success (with_reducible first | show wpAny _ _ (call (Value.ref _) _) _ _ _ | show wpAny _ _ (exec (Stmt.While _ _ _ _) _) _ _ _ | show wpAny _ _ (exec (Stmt.For _ _ _ _ _) _) _ _ _ | show wpAny _ _ (pyIter _) _ _ _ | show wpAny _ _ (setItem _ _ _) _ _ _ | show wpAny _ _ (eval (Expr.ListComp _ _ _ _) _) _ _ _ | show wpAny _ _ (exec (Stmt.Assign _ (Expr.ListComp _ _ _ _) _) _) _ _ _ | show InvPostG _ _ _ _ _ _ _ _ | show InvEndG _ _ _ _ _ _ | show OnG _ _ _ _ _ _ _ | show Fin _ _ _ _ _ _ | show KswEnd _ _ _ _ _ _ _ _ _ _ _ _ | show wpAny _ _ (call (Value.builtin "sorted") _) _ _ _ | show LCg.CompEnd _ _ _ _ _ _ _ _ _ _ _ _ _ _ | show LCg.CompSrc _ _ _ _ _ _ _ _ _ _ _ _ _ _ | show LCt.CompSrcT _ _ _ _ _ _ _ _ _ _ _ _ _ _ _)) | fail); first | walk1 | (dsimp only; (try k_fold); (first | (fail_if_success (with_reducible first | show wpAny _ _ (call (Value.ref _) _) _ _ _ | show wpAny _ _ (exec (Stmt.While _ _ _ _) _) _ _ _ | show wpAny _ _ (exec (Stmt.For _ _ _ _ _) _) _ _ _ | show wpAny _ _ (pyIter _) _ _ _ | show wpAny _ _ (setItem _ _ _) _ _ _ | show wpAny _ _ (eval (Expr.ListComp _ _ _ _) _) _ _ _ | show wpAny _ _ (exec (Stmt.Assign _ (Expr.ListComp _ _ _ _) _) _) _ _ _ | show InvPostG _ _ _ _ _ _ _ _ | show InvEndG _ _ _ _ _ _ | show OnG _ _ _ _ _ _ _ | show Fin _ _ _ _ _ _ | show KswEnd _ _ _ _ _ _ _ _ _ _ _ _ | show wpAny _ _ (call (Value.builtin "sorted") _) _ _ _ | show LCg.CompEnd _ _ _ _ _ _ _ _ _ _ _ _ _ _ | show LCg.CompSrc _ _ _ _ _ _ _ _ _ _ _ _ _ _ | show LCt.CompSrcT _ _ _ _ _ _ _ _ _ _ _ _ _ _ _)) | fail); walk1)) | (leave1; walk_say "STEP leave1"; try dsimp only) | fail "no step")) | fail)

        exact ⟨rfl, kd_end (o1, kvs) [] sep (by assumption) (by assumption) (by (first | (intro p hp; first | (with_reducible (repeat' (first | exact hp | exact List.mem_append_left _ hp | exact List.mem_append_right _ hp | refine List.mem_cons_of_mem _ ?_)); done) | ((simp only [List.nil_append, List.cons_append, List.append_nil, List.append_assoc, List.mem_cons, List.mem_append, List.not_mem_nil, or_false, false_or] at hp ⊢); first | done | grind)) | fail)) (by (first | (intro p hp; first | (with_reducible (repeat' (first | exact hp | exact List.mem_append_left _ hp | exact List.mem_append_right _ hp | refine List.mem_cons_of_mem _ ?_)); done) | ((simp only [List.nil_append, List.cons_append, List.append_nil, List.append_assoc, List.mem_cons, List.mem_append, List.not_mem_nil, or_false, false_or] at hp ⊢); first | done | grind)) | fail)) rfl (by intro q hq; cases hq) (by intro q hq; cases hq) (by intro p hp; cases hp) (by (first | (intro z h1 h2 h3; (simp only [List.contains_cons, List.contains_nil, Bool.or_eq_false_iff, beq_eq_false_iff_ne, ne_eq, List.forall_mem_cons, List.mem_cons, List.not_mem_nil, or_false, forall_eq_or_imp, forall_eq] at h1 h2 h3); (simp only [h1, h2, h3, if_false, ite_false, List.contains_cons, List.contains_nil, Bool.or_false, beq_iff_eq, Bool.or_eq_true, or_self, or_false, and_true, not_false_eq_true, Bool.false_eq_true]); done) | fail)) hF hP2⟩
      · have hq3 : (fkind == Str.ofString "addr") = false := by simpa using hq1
        (first | ((try k_unmd); (try k_fold); repeat' (first | (k_unfold; (try dsimp only)) | (fail "none") | ((first | (fail_if_success (with_reducible first | show wpAny _ _ (call (Value.ref _) _) _ _ _ | show wpAny _ _ (exec (Stmt.While _ _ _ _) _) _ _ _ | show wpAny _ _ (exec (Stmt.For _ _ _ _ _) _) _ _ _ | show wpAny _ _ (pyIter _) _ _ _ | show wpAny _ _ (setItem _ _ _) _ _ _ | show wpAny _ _ (eval (Expr.ListComp _ _ _ _) _) _ _ _ | show wpAny _ _ (exec (Stmt.Assign _ (Expr.ListComp _ _ _ _) _) _) _ _ _ | show InvPostG _ _ _ _ _ _ _ _ | show InvEndG _ _ _ _ _ _ | show OnG _ _ _ _ _ _ _ | show Fin _ _ _ _ _ _ | show KswEnd _ _ _ _ _ _ _ _ _ _ _ _ | show wpAny _ _ (call (Value.builtin "sorted") _) _ _ _ | show LCg.CompEnd _ _ _ _ _ _ _ _ _ _ _ _ _ _ | show LCg.CompSrc _ _ _ _ _ _ _ _ _ _ _ _ _ _ | show LCt.CompSrcT _ _ _ _ _ _ _ _ _ _ _ _ _ _ _)) | fail); first | walk1 | (dsimp only; (try k_fold); (first | (fail_if_success (with_reducible first | show wpAny _ _ (call (Value.ref _) _) _ _ _ | show wpAny _ _ (exec (Stmt.While _ _ _ _) _) _ _ _ | show wpAny _ _ (exec (Stmt.For _ _ _ _ _) _) _ _ _ | show wpAny _ _ (pyIter _) _ _ _ | show wpAny _ _ (setItem _ _ _) _ _ _ | show wpAny _ _ (eval (Expr.ListComp _ _ _ _) _) _ _ _ | show wpAny _ _ (exec (Stmt.Assign _ (Expr.ListComp _ _ _ _) _) _) _ _ _ | show InvPostG _ _ _ _ _ _ _ _ | show InvEndG _ _ _ _ _ _ | show OnG _ _ _ _ _ _ _ | show Fin _ _ _ _ _ _ | show KswEnd _ _ _ _ _ _ _ _ _ _ _ _ | show wpAny _ _ (call (Value.builtin "sorted") _) _ _ _ | show LCg.CompEnd _ _ _ _ _ _ _ _ _ _ _ _ _ _ | show LCg.CompSrc _ _ _ _ _ _ _ _ _ _ _ _ _ _ | show LCt.CompSrcT _ _ _ _ _ _ _ _ _ _ _ _ _ _ _)) | fail); walk1)) | (leave1; walk_say "STEP leave1"; try dsimp only) | fail "no step")) | fail)

        exact ⟨rfl, kd_end (o1, kvs) [] sep (by assumption) (by assumption) (by (first | (intro p hp; first | (with_reducible (repeat' (first | exact hp | exact List.mem_append_left _ hp | exact List.mem_append_right _ hp | refine List.mem_cons_of_mem _ ?_)); done) | ((simp only [List.nil_append, List.cons_append, List.append_nil, List.append_assoc, List.mem_cons, List.mem_append, List.not_mem_nil, or_false, false_or] at hp ⊢); first | done | grind)) | fail)) (by (first | (intro p hp; first | (with_reducible (repeat' (first | exact hp | exact List.mem_append_left _ hp | exact List.mem_append_right _ hp | refine List.mem_cons_of_mem _ ?_)); done) | ((simp only [List.nil_append, List.cons_append, List.append_nil, List.append_assoc, List.mem_cons, List.mem_append, List.not_mem_nil, or_false, false_or] at hp ⊢); first | done | grind)) | fail)) rfl (by intro q hq; cases hq) (by intro q hq; cases hq) (by intro p hp; cases hp) (by (first | (intro z h1 h2 h3; (simp only [List.contains_cons, List.contains_nil, Bool.or_eq_false_iff, beq_eq_false_iff_ne, ne_eq, List.forall_mem_cons, List.mem_cons, List.not_mem_nil, or_false, forall_eq_or_imp, forall_eq] at h1 h2 h3); (simp only [h1, h2, h3, if_false, ite_false, List.contains_cons, List.contains_nil, Bool.or_false, beq_iff_eq, Bool.or_eq_true, or_self, or_false, and_true, not_false_eq_true, Bool.false_eq_true]); done) | fail)) hF hP2⟩
  · intro c tl u h tk off hF hP F2 N2
    obtain ⟨o1, kvs⟩ := c
    dsimp only [kstB] at F2 hP hF
    simp only [List.nil_append, List.cons_append] at N2
    dsimp only
    (first | ((try k_unmd); (try k_fold); repeat' (first | (k_unfold; (try dsimp only)) | (fail "none") | ((first | (fail_if_success (with_reducible first | show wpAny _ _ (call (Value.ref _) _) _ _ _ | show wpAny _ _ (exec (Stmt.While _ _ _ _) _) _ _ _ | show wpAny _ _ (exec (Stmt.For _ _ _ _ _) _) _ _ _ | show wpAny _ _ (pyIter _) _ _ _ | show wpAny _ _ (setItem _ _ _) _ _ _ | show wpAny _ _ (eval (Expr.ListComp _ _ _ _) _) _ _ _ | show wpAny _ _ (exec (Stmt.Assign _ (Expr.ListComp _ _ _ _) _) _) _ _ _ | show InvPostG _ _ _ _ _ _ _ _ | show InvEndG _ _ _ _ _ _ | show OnG _ _ _ _ _ _ _ | show Fin _ _ _ _ _ _ | show KswEnd _ _ _ _ _ _ _ _ _ _ _ _ | show wpAny _ _ (call (Value.builtin "sorted") _) _ _ _ | show LCg.CompEnd _ _ _ _ _ _ _ _ _ _ _ _ _ _ | show LCg.CompSrc _ _ _ _ _ _ _ _ _ _ _ _ _ _ | show LCt.CompSrcT _ _ _ _ _ _ _ _ _ _ _ _ _ _ _)) | fail); first | walk1 | (dsimp only; (try k_fold); (first | (fail_if_success (with_reducible first | show wpAny _ _ (call (Value.ref _) _) _ _ _ | show wpAny _ _ (exec (Stmt.While _ _ _ _) _) _ _ _ | show wpAny _ _ (exec (Stmt.For _ _ _ _ _) _) _ _ _ | show wpAny _ _ (pyIter _) _ _ _ | show wpAny _ _ (setItem _ _ _) _ _ _ | show wpAny _ _ (eval (Expr.ListComp _ _ _ _) _) _ _ _ | show wpAny _ _ (exec (Stmt.Assign _ (Expr.ListComp _ _ _ _) _) _) _ _ _ | show InvPostG _ _ _ _ _ _ _ _ | show InvEndG _ _ _ _ _ _ | show OnG _ _ _ _ _ _ _ | show Fin _ _ _ _ _ _ | show KswEnd _ _ _ _ _ _ _ _ _ _ _ _ | show wpAny _ _ (call (Value.builtin "sorted") _) _ _ _ | show LCg.CompEnd _ _ _ _ _ _ _ _ _ _ _ _ _ _ | show LCg.CompSrc _ _ _ _ _ _ _ _ _ _ _ _ _ _ | show LCt.CompSrcT _ _ _ _ _ _ _ _ _ _ _ _ _ _ _)) | fail); walk1)) | (leave1; walk_say "STEP leave1"; try dsimp only) | fail "no step")) | fail)
    dsimp only
    k_unfold
    have hlen' := hD.length
    rw [List.length_map] at hlen'
    refine ⟨_, _, _, rfl, F2, d0, kvs, rfl, fresh_of sub (N2 (d0, o1) (.head _)).2.2, hlo, Heap.dictOf_iff.mpr ⟨o1, (N2 (d0, o1) (.head _)).1, hF⟩, fun k => ?_⟩
    have := hP.2 k
    rwa [List.take_of_length_le (Nat.le_of_eq hlen'.symm)] at this

theorem isb_ok {w : World} {mean : ExcName → Option Value} {mg mb : Str → Option Value} {dp un : Nat} {gd : Option (List Code)} {cn : Str} {cs : Scope} {L a : Addr} {ccd : Value} {cl : List (Str × Addr)} {outer : List Env} {A₀ : Around} {base h₀ : Heap} {m : Str → Option Value} {s : Shared} {Q E : Value → Shared → Prop} {ra : Addr} {k : Str} {tk : Tok} {v2 v3 v4 : Value}
    (B : Below A₀ base outer h₀) (F : Fr h₀ L s.heap m) (X : (Mine.hd.heap_1 w.params).In h₀) (T : Top Mine.hd.view_1 (looseW Mine.hd.view_1 []) mean mg mb h₀) (hk : cs.kind = .function) (hd : dp ≤ 500) (hu : un ≤ 500) (ht : IsTup s.heap ra #[.str k tk, v2, v3, v4])
    (ret : ∀ r h' tk, (∀ b o, s.heap.get? b = some o → b ∉ ([] : List (Addr × Obj)).map (·.1) → h'.get? b = some o) → (fun (_ : Heap) r => r = Value.bool (decide (k = Str.ofString "B" ∨ k = Str.ofString "BL"))) h' r → Q r { s with heap := h', toks := tk }) :
    wpAny (model PySem.Challenge.rw_nu0316_01.row.prog w) (ktrTop dp un gd cn cs L a ccd cl outer) (call (.ref 21) [.ref ra]) Q E s := by
  refine wpAny_call ?_
  w_top off
  k_dflt (first | (refine' code_B ?O ?k1 ?k2 ?k3 ?k10 ?k4 ?kA ?kF ?kK ?k6 ?k7 ?k8 ?k9 ?kB ?kr ?_ ?c2 ?c3 ?c4 ?c5; (case kA | kF => exact rfl); (case kK => assumption); (case k1 | k2 | k3 => k_asm); (case k10 => first | k_asm | exact News.nil); (case k4 => k_asm); (case k6 | k7 => k_is); (case k8 => ((try simp only [depth_deeper, depth_in1, recursionLimit]); (try dsimp only [ktrTop, recursionLimit]); omega)); (case k9 => exact BindsTo.of_eq rfl); (case c5 => decide); (case kB => exact locs rfl); (case c2 | c3 | c4 => exact rfl); (case kr => assumption)) | fail)
  intro g L' h₁ sub F' N' B' X' T'
  replace sub := GSub.all sub
  replace ht := IsTup.keeps ht sub
  clear F B X T ret
  by_cases h1 : k = Str.ofString "B"
  · subst h1
    (first | ((try k_unmd); (try k_fold); repeat' (first | (k_unfold; (try dsimp only)) | (fail "none") | ((first | (fail_if_success (with_reducible first | show wpAny _ _ (call (Value.ref _) _) _ _ _ | show wpAny _ _ (exec (Stmt.While _ _ _ _) _) _ _ _ | show wpAny _ _ (exec (Stmt.For _ _ _ _ _) _) _ _ _ | show wpAny _ _ (pyIter _) _ _ _ | show wpAny _ _ (setItem _ _ _) _ _ _ | show wpAny _ _ (eval (Expr.ListComp _ _ _ _) _) _ _ _ | show wpAny _ _ (exec (Stmt.Assign _ (Expr.ListComp _ _ _ _) _) _) _ _ _ | show InvPostG _ _ _ _ _ _ _ _ | show InvEndG _ _ _ _ _ _ | show OnG _ _ _ _ _ _ _ | show Fin _ _ _ _ _ _ | show KswEnd _ _ _ _ _ _ _ _ _ _ _ _ | show wpAny _ _ (call (Value.builtin "sorted") _) _ _ _ | show LCg.CompEnd _ _ _ _ _ _ _ _ _ _ _ _ _ _ | show LCg.CompSrc _ _ _ _ _ _ _ _ _ _ _ _ _ _ | show LCt.CompSrcT _ _ _ _ _ _ _ _ _ _ _ _ _ _ _)) | fail); first | walk1 | (dsimp only; (try k_fold); (first | (fail_if_success (with_reducible first | show wpAny _ _ (call (Value.ref _) _) _ _ _ | show wpAny _ _ (exec (Stmt.While _ _ _ _) _) _ _ _ | show wpAny _ _ (exec (Stmt.For _ _ _ _ _) _) _ _ _ | show wpAny _ _ (pyIter _) _ _ _ | show wpAny _ _ (setItem _ _ _) _ _ _ | show wpAny _ _ (eval (Expr.ListComp _ _ _ _) _) _ _ _ | show wpAny _ _ (exec (Stmt.Assign _ (Expr.ListComp _ _ _ _) _) _) _ _ _ | show InvPostG _ _ _ _ _ _ _ _ | show InvEndG _ _ _ _ _ _ | show OnG _ _ _ _ _ _ _ | show Fin _ _ _ _ _ _ | show KswEnd _ _ _ _ _ _ _ _ _ _ _ _ | show wpAny _ _ (call (Value.builtin "sorted") _) _ _ _ | show LCg.CompEnd _ _ _ _ _ _ _ _ _ _ _ _ _ _ | show LCg.CompSrc _ _ _ _ _ _ _ _ _ _ _ _ _ _ | show LCt.CompSrcT _ _ _ _ _ _ _ _ _ _ _ _ _ _ _)) | fail); walk1)) | (leave1; walk_say "STEP leave1"; try dsimp only) | fail "no step")) | fail)
    dsimp only
    k_unfold
    exact ⟨_, _, _, rfl, by assumption, by simp⟩
  · have h1' : (k == Str.ofString "B") = false := by simpa using h1
    by_cases h2 : k = Str.ofString "BL"
    · subst h2
      (first | ((try k_unmd); (try k_fold); repeat' (first | (k_unfold; (try dsimp only)) | (fail "none") | ((first | (fail_if_success (with_reducible first | show wpAny _ _ (call (Value.ref _) _) _ _ _ | show wpAny _ _ (exec (Stmt.While _ _ _ _) _) _ _ _ | show wpAny _ _ (exec (Stmt.For _ _ _ _ _) _) _ _ _ | show wpAny _ _ (pyIter _) _ _ _ | show wpAny _ _ (setItem _ _ _) _ _ _ | show wpAny _ _ (eval (Expr.ListComp _ _ _ _) _) _ _ _ | show wpAny _ _ (exec (Stmt.Assign _ (Expr.ListComp _ _ _ _) _) _) _ _ _ | show InvPostG _ _ _ _ _ _ _ _ | show InvEndG _ _ _ _ _ _ | show OnG _ _ _ _ _ _ _ | show Fin _ _ _ _ _ _ | show KswEnd _ _ _ _ _ _ _ _ _ _ _ _ | show wpAny _ _ (call (Value.builtin "sorted") _) _ _ _ | show LCg.CompEnd _ _ _ _ _ _ _ _ _ _ _ _ _ _ | show LCg.CompSrc _ _ _ _ _ _ _ _ _ _ _ _ _ _ | show LCt.CompSrcT _ _ _ _ _ _ _ _ _ _ _ _ _ _ _)) | fail); first | walk1 | (dsimp only; (try k_fold); (first | (fail_if_success (with_reducible first | show wpAny _ _ (call (Value.ref _) _) _ _ _ | show wpAny _ _ (exec (Stmt.While _ _ _ _) _) _ _ _ | show wpAny _ _ (exec (Stmt.For _ _ _ _ _) _) _ _ _ | show wpAny _ _ (pyIter _) _ _ _ | show wpAny _ _ (setItem _ _ _) _ _ _ | show wpAny _ _ (eval (Expr.ListComp _ _ _ _) _) _ _ _ | show wpAny _ _ (exec (Stmt.Assign _ (Expr.ListComp _ _ _ _) _) _) _ _ _ | show InvPostG _ _ _ _ _ _ _ _ | show InvEndG _ _ _ _ _ _ | show OnG _ _ _ _ _ _ _ | show Fin _ _ _ _ _ _ | show KswEnd _ _ _ _ _ _ _ _ _ _ _ _ | show wpAny _ _ (call (Value.builtin "sorted") _) _ _ _ | show LCg.CompEnd _ _ _ _ _ _ _ _ _ _ _ _ _ _ | show LCg.CompSrc _ _ _ _ _ _ _ _ _ _ _ _ _ _ | show LCt.CompSrcT _ _ _ _ _ _ _ _ _ _ _ _ _ _ _)) | fail); walk1)) | (leave1; walk_say "STEP leave1"; try dsimp only) | fail "no step")) | fail)
      dsimp only
      k_unfold
      exact ⟨_, _, _, rfl, by assumption, by simp⟩
    · have h2' : (k == Str.ofString "BL") = false := by simpa using h2
      (first | ((try k_unmd); (try k_fold); repeat' (first | (k_unfold; (try dsimp only)) | (fail "none") | ((first | (fail_if_success (with_reducible first | show wpAny _ _ (call (Value.ref _) _) _ _ _ | show wpAny _ _ (exec (Stmt.While _ _ _ _) _) _ _ _ | show wpAny _ _ (exec (Stmt.For _ _ _ _ _) _) _ _ _ | show wpAny _ _ (pyIter _) _ _ _ | show wpAny _ _ (setItem _ _ _) _ _ _ | show wpAny _ _ (eval (Expr.ListComp _ _ _ _) _) _ _ _ | show wpAny _ _ (exec (Stmt.Assign _ (Expr.ListComp _ _ _ _) _) _) _ _ _ | show InvPostG _ _ _ _ _ _ _ _ | show InvEndG _ _ _ _ _ _ | show OnG _ _ _ _ _ _ _ | show Fin _ _ _ _ _ _ | show KswEnd _ _ _ _ _ _ _ _ _ _ _ _ | show wpAny _ _ (call (Value.builtin "sorted") _) _ _ _ | show LCg.CompEnd _ _ _ _ _ _ _ _ _ _ _ _ _ _ | show LCg.CompSrc _ _ _ _ _ _ _ _ _ _ _ _ _ _ | show LCt.CompSrcT _ _ _ _ _ _ _ _ _ _ _ _ _ _ _)) | fail); first | walk1 | (dsimp only; (try k_fold); (first | (fail_if_success (with_reducible first | show wpAny _ _ (call (Value.ref _) _) _ _ _ | show wpAny _ _ (exec (Stmt.While _ _ _ _) _) _ _ _ | show wpAny _ _ (exec (Stmt.For _ _ _ _ _) _) _ _ _ | show wpAny _ _ (pyIter _) _ _ _ | show wpAny _ _ (setItem _ _ _) _ _ _ | show wpAny _ _ (eval (Expr.ListComp _ _ _ _) _) _ _ _ | show wpAny _ _ (exec (Stmt.Assign _ (Expr.ListComp _ _ _ _) _) _) _ _ _ | show InvPostG _ _ _ _ _ _ _ _ | show InvEndG _ _ _ _ _ _ | show OnG _ _ _ _ _ _ _ | show Fin _ _ _ _ _ _ | show KswEnd _ _ _ _ _ _ _ _ _ _ _ _ | show wpAny _ _ (call (Value.builtin "sorted") _) _ _ _ | show LCg.CompEnd _ _ _ _ _ _ _ _ _ _ _ _ _ _ | show LCg.CompSrc _ _ _ _ _ _ _ _ _ _ _ _ _ _ | show LCt.CompSrcT _ _ _ _ _ _ _ _ _ _ _ _ _ _ _)) | fail); walk1)) | (leave1; walk_say "STEP leave1"; try dsimp only) | fail "no step")) | fail)
      dsimp only
      k_unfold
      exact ⟨_, _, _, rfl, by assumption, by simp [h1, h2]⟩
theorem target_ok {w : World} {mean : ExcName → Option Value} {mg mb : Str → Option Value} {dp un : Nat} {gd : Option (List Code)} {cn : Str} {cs : Scope} {L a : Addr} {ccd : Value} {cl : List (Str × Addr)} {outer : List Env} {A₀ : Around} {base h₀ : Heap} {m : Str → Option Value} {s : Shared} {Q E : Value → Shared → Prop} {ra : Addr} {d i : Int} {tk ti : Tok} {v1 v2 v4 : Value}
    (B : Below A₀ base outer h₀) (F : Fr h₀ L s.heap m) (X : (Mine.hd.heap_1 w.params).In h₀) (T : Top Mine.hd.view_1 (looseW Mine.hd.view_1 []) mean mg mb h₀) (hk : cs.kind = .function) (hd : dp ≤ 500) (hu : un ≤ 500) (ht : IsTup s.heap ra #[v1, v2, .int d tk, v4])
    (ret : ∀ r h' tk, (∀ b o, s.heap.get? b = some o → b ∉ ([] : List (Addr × Obj)).map (·.1) → h'.get? b = some o) → (fun (_ : Heap) r => ∃ t, r = Value.int (i + 1 + d) t) h' r → Q r { s with heap := h', toks := tk }) :
    wpAny (model PySem.Challenge.rw_nu0316_01.row.prog w) (ktrTop dp un gd cn cs L a ccd cl outer) (call (.ref 28) [.ref ra, .int i ti]) Q E s := by
  refine wpAny_call ?_
  w_top off
  k_dflt (first | (refine' code_B ?O ?k1 ?k2 ?k3 ?k10 ?k4 ?kA ?kF ?kK ?k6 ?k7 ?k8 ?k9 ?kB ?kr ?_ ?c2 ?c3 ?c4 ?c5; (case kA | kF => exact rfl); (case kK => assumption); (case k1 | k2 | k3 => k_asm); (case k10 => first | k_asm | exact News.nil); (case k4 => k_asm); (case k6 | k7 => k_is); (case k8 => ((try simp only [depth_deeper, depth_in1, recursionLimit]); (try dsimp only [ktrTop, recursionLimit]); omega)); (case k9 => exact BindsTo.of_eq rfl); (case c5 => decide); (case kB => exact locs rfl); (case c2 | c3 | c4 => exact rfl); (case kr => assumption)) | fail)
  intro g L' h₁ sub F' N' B' X' T'
  replace sub := GSub.all sub
  replace ht := IsTup.keeps ht sub
  clear F B X T ret
  (first | ((try k_unmd); (try k_fold); repeat' (first | (k_unfold; (try dsimp only)) | (first | ((with_reducible show wpAny _ _ (call (Value.ref 21) _) _ _ _); k_here; k_dflt (refine isb_ok (by k_asm) (by k_asm) (by k_asm) (by k_asm) (by rfl) (by (first | ((try dsimp only [ktrTop, Around.deeper, Around.in1]); omega) | fail)) (by (first | ((try dsimp only [ktrTop, Around.deeper, Around.in1]); omega) | fail)) (IsTup.keeps (by with_reducible assumption) (Fr.keep (by k_asm))) (after (by k_asm) (by k_asm) ?_); k_whole); intro r9 h9 tk9 F' N' K' o9; subst o9; clear K'; (try k_sweep)) | fail) | ((first | (fail_if_success (with_reducible first | show wpAny _ _ (call (Value.ref _) _) _ _ _ | show wpAny _ _ (exec (Stmt.While _ _ _ _) _) _ _ _ | show wpAny _ _ (exec (Stmt.For _ _ _ _ _) _) _ _ _ | show wpAny _ _ (pyIter _) _ _ _ | show wpAny _ _ (setItem _ _ _) _ _ _ | show wpAny _ _ (eval (Expr.ListComp _ _ _ _) _) _ _ _ | show wpAny _ _ (exec (Stmt.Assign _ (Expr.ListComp _ _ _ _) _) _) _ _ _ | show InvPostG _ _ _ _ _ _ _ _ | show InvEndG _ _ _ _ _ _ | show OnG _ _ _ _ _ _ _ | show Fin _ _ _ _ _ _ | show KswEnd _ _ _ _ _ _ _ _ _ _ _ _ | show wpAny _ _ (call (Value.builtin "sorted") _) _ _ _ | show LCg.CompEnd _ _ _ _ _ _ _ _ _ _ _ _ _ _ | show LCg.CompSrc _ _ _ _ _ _ _ _ _ _ _ _ _ _ | show LCt.CompSrcT _ _ _ _ _ _ _ _ _ _ _ _ _ _ _)) | fail); first | walk1 | (dsimp only; (try k_fold); (first | (fail_if_success (with_reducible first | show wpAny _ _ (call (Value.ref _) _) _ _ _ | show wpAny _ _ (exec (Stmt.While _ _ _ _) _) _ _ _ | show wpAny _ _ (exec (Stmt.For _ _ _ _ _) _) _ _ _ | show wpAny _ _ (pyIter _) _ _ _ | show wpAny _ _ (setItem _ _ _) _ _ _ | show wpAny _ _ (eval (Expr.ListComp _ _ _ _) _) _ _ _ | show wpAny _ _ (exec (Stmt.Assign _ (Expr.ListComp _ _ _ _) _) _) _ _ _ | show InvPostG _ _ _ _ _ _ _ _ | show InvEndG _ _ _ _ _ _ | show OnG _ _ _ _ _ _ _ | show Fin _ _ _ _ _ _ | show KswEnd _ _ _ _ _ _ _ _ _ _ _ _ | show wpAny _ _ (call (Value.builtin "sorted") _) _ _ _ | show LCg.CompEnd _ _ _ _ _ _ _ _ _ _ _ _ _ _ | show LCg.CompSrc _ _ _ _ _ _ _ _ _ _ _ _ _ _ | show LCt.CompSrcT _ _ _ _ _ _ _ _ _ _ _ _ _ _ _)) | fail); walk1)) | (leave1; walk_say "STEP leave1"; try dsimp only) | fail "no step")) | fail)
  dsimp only
  k_unfold
  exact ⟨_, _, _, rfl, by assumption, _, rfl⟩
theorem moved_ok {w : World} {mean : ExcName → Option Value} {mg mb : Str → Option Value} {dp un : Nat} {gd : Option (List Code)} {cn : Str} {cs : Scope} {L a : Addr} {ccd : Value} {cl : List (Str × Addr)} {outer : List Env} {A₀ : Around} {base h₀ : Heap} {m : Str → Option Value} {s : Shared} {Q E : Value → Shared → Prop} {ra lp : Addr} {d i x y : Int} {tk ti : Tok} {v1 v2 v4 : Value} {us : List Value} {ps : List Int}
    (B : Below A₀ base outer h₀) (F : Fr h₀ L s.heap m) (X : (Mine.hd.heap_1 w.params).In h₀) (T : Top Mine.hd.view_1 (looseW Mine.hd.view_1 []) mean mg mb h₀) (hk : cs.kind = .function) (hd : dp ≤ 490) (hu : un ≤ 490) (ht : IsTup s.heap ra #[v1, v2, .int d tk, v4])
    (hl : s.heap.IsList lp us.toArray) (hi : IntsAre us ps) (hlen : ps.length ≤ 1000) (h0 : 0 ≤ i) (h1 : 0 ≤ i + 1 + d) (hx : ps[(i + 1 + d).toNat]? = some x) (hy : ps[i.toNat]? = some y)
    (hv1 : handedIn v1 = true) (hv2 : handedIn v2 = true) (hv4 : handedIn v4 = true)
    (ret : ∀ r h' tk, (∀ b o, s.heap.get? b = some o → b ∉ ([] : List (Addr × Obj)).map (·.1) → h'.get? b = some o) → (fun (h' : Heap) r => ∃ a t n, r = Value.ref a ∧ s.heap.get? a = none ∧ h'.get? a = some ({ cls := .type "tuple", data := .seq #[v1, v2, .int (x - y - 1) t, v4] n } : Obj)) h' r → Q r { s with heap := h', toks := tk }) :
    wpAny (model PySem.Challenge.rw_nu0316_01.row.prog w) (ktrTop dp un gd cn cs L a ccd cl outer) (call (.ref 77) [.ref ra, .int i ti, .ref lp]) Q E s := by
  refine wpAny_call ?_
  w_top off
  k_dflt (first | (refine' code_B ?O ?k1 ?k2 ?k3 ?k10 ?k4 ?kA ?kF ?kK ?k6 ?k7 ?k8 ?k9 ?kB ?kr ?_ ?c2 ?c3 ?c4 ?c5; (case kA | kF => exact rfl); (case kK => assumption); (case k1 | k2 | k3 => k_asm); (case k10 => first | k_asm | exact News.nil); (case k4 => k_asm); (case k6 | k7 => k_is); (case k8 => ((try simp only [depth_deeper, depth_in1, recursionLimit]); (try dsimp only [ktrTop, recursionLimit]); omega)); (case k9 => exact BindsTo.of_eq rfl); (case c5 => decide); (case kB => exact locs rfl); (case c2 | c3 | c4 => exact rfl); (case kr => assumption)) | fail)
  intro g L' h₁ sub F' N' B' X' T'
  replace sub := GSub.all sub
  replace ht := IsTup.keeps ht sub
  replace hl := stays_list sub hl
  obtain ⟨tx, hux⟩ := hi.get _ _ hx
  obtain ⟨ty, huy⟩ := hi.get _ _ hy
  have hb1 : i + 1 + d < 2 ^ 63 := by have := (List.getElem?_eq_some_iff.mp hx).1; omega
  have hb2 : i < 2 ^ 63 := by have := (List.getElem?_eq_some_iff.mp hy).1; omega
  clear F B X T ret
  (first | ((try k_unmd); (try k_fold); repeat' (first | (k_unfold; (try dsimp only)) | (first | ((with_reducible show wpAny _ _ (call (Value.ref 28) _) _ _ _); k_here; k_dflt (refine target_ok (by k_asm) (by k_asm) (by k_asm) (by k_asm) (by rfl) (by (first | ((try dsimp only [ktrTop, Around.deeper, Around.in1]); omega) | fail)) (by (first | ((try dsimp only [ktrTop, Around.deeper, Around.in1]); omega) | fail)) (IsTup.keeps (by with_reducible assumption) (Fr.keep (by k_asm))) (after (by k_asm) (by k_asm) ?_); k_whole); intro r9 h9 tk9 F' N' K' o9; obtain ⟨t9, o9⟩ := o9; subst o9; clear K'; (try k_sweep)) | ((with_reducible show wpAny _ _ (call (Value.ref 21) _) _ _ _); k_here; k_dflt (refine isb_ok (by k_asm) (by k_asm) (by k_asm) (by k_asm) (by rfl) (by (first | ((try dsimp only [ktrTop, Around.deeper, Around.in1]); omega) | fail)) (by (first | ((try dsimp only [ktrTop, Around.deeper, Around.in1]); omega) | fail)) (IsTup.keeps (by with_reducible assumption) (Fr.keep (by k_asm))) (after (by k_asm) (by k_asm) ?_); k_whole); intro r9 h9 tk9 F' N' K' o9; subst o9; clear K'; (try k_sweep)) | fail) | ((first | (fail_if_success (with_reducible first | show wpAny _ _ (call (Value.ref _) _) _ _ _ | show wpAny _ _ (exec (Stmt.While _ _ _ _) _) _ _ _ | show wpAny _ _ (exec (Stmt.For _ _ _ _ _) _) _ _ _ | show wpAny _ _ (pyIter _) _ _ _ | show wpAny _ _ (setItem _ _ _) _ _ _ | show wpAny _ _ (eval (Expr.ListComp _ _ _ _) _) _ _ _ | show wpAny _ _ (exec (Stmt.Assign _ (Expr.ListComp _ _ _ _) _) _) _ _ _ | show InvPostG _ _ _ _ _ _ _ _ | show InvEndG _ _ _ _ _ _ | show OnG _ _ _ _ _ _ _ | show Fin _ _ _ _ _ _ | show KswEnd _ _ _ _ _ _ _ _ _ _ _ _ | show wpAny _ _ (call (Value.builtin "sorted") _) _ _ _ | show LCg.CompEnd _ _ _ _ _ _ _ _ _ _ _ _ _ _ | show LCg.CompSrc _ _ _ _ _ _ _ _ _ _ _ _ _ _ | show LCt.CompSrcT _ _ _ _ _ _ _ _ _ _ _ _ _ _ _)) | fail); first | walk1 | (dsimp only; (try k_fold); (first | (fail_if_success (with_reducible first | show wpAny _ _ (call (Value.ref _) _) _ _ _ | show wpAny _ _ (exec (Stmt.While _ _ _ _) _) _ _ _ | show wpAny _ _ (exec (Stmt.For _ _ _ _ _) _) _ _ _ | show wpAny _ _ (pyIter _) _ _ _ | show wpAny _ _ (setItem _ _ _) _ _ _ | show wpAny _ _ (eval (Expr.ListComp _ _ _ _) _) _ _ _ | show wpAny _ _ (exec (Stmt.Assign _ (Expr.ListComp _ _ _ _) _) _) _ _ _ | show InvPostG _ _ _ _ _ _ _ _ | show InvEndG _ _ _ _ _ _ | show OnG _ _ _ _ _ _ _ | show Fin _ _ _ _ _ _ | show KswEnd _ _ _ _ _ _ _ _ _ _ _ _ | show wpAny _ _ (call (Value.builtin "sorted") _) _ _ _ | show LCg.CompEnd _ _ _ _ _ _ _ _ _ _ _ _ _ _ | show LCg.CompSrc _ _ _ _ _ _ _ _ _ _ _ _ _ _ | show LCt.CompSrcT _ _ _ _ _ _ _ _ _ _ _ _ _ _ _)) | fail); walk1)) | (leave1; walk_say "STEP leave1"; try dsimp only) | fail "no step")) | fail)
  (try k_unmd); (try k_unfold)
  rename News _ _ _ _ => N3
  exact ⟨_, _, _, rfl, by assumption, _, _, 0, rfl, fresh_of sub (N3 _ (.head _)).2.2, (N3 _ (.head _)).1⟩

/-- a row of the object: what it is, where it leads -/
inductive Row where
  | b (m : Bool) (t : Nat)
  | bl (t : Nat)
  | imp
  | addr (t : Nat)
  | plain (d : Bool)
def gen {α : Type} (f : Nat → Row → List α) : Nat → List Row → List α
  | _, [] => []
  | i, r :: l => f i r ++ gen f (i + 1) l
theorem gen_append {α : Type} (f : Nat → Row → List α) : ∀ (i : Nat) (l l' : List Row), gen f i (l ++ l') = gen f i l ++ gen f (i + l.length) l'
  | i, [], l' => by simp [gen]
  | i, r :: l, l' => by
    rw [List.cons_append, gen, gen, gen_append f (i + 1) l l', List.append_assoc, List.length_cons]
    congr 3
    omega
theorem gen_snoc {α : Type} (f : Nat → Row → List α) (l : List Row) (r : Row) : gen f 0 (l ++ [r]) = gen f 0 l ++ f l.length r := by
  rw [gen_append, gen, gen, List.append_nil, Nat.zero_add]
theorem gen_mem {α : Type} {f : Nat → Row → List α} {x : α} : ∀ {i : Nat} {l : List Row}, x ∈ gen f i l → ∃ k r, l[k]? = some r ∧ x ∈ f (i + k) r
  | i, [], h => by cases h
  | i, r :: l, h => by
    rw [gen] at h
    rcases List.mem_append.mp h with h | h
    · exact ⟨0, r, rfl, h⟩
    · obtain ⟨k, r', e, hx⟩ := gen_mem h
      exact ⟨k + 1, r', e, by rw [show i + (k + 1) = i + 1 + k by omega]; exact hx⟩
theorem mem_gen {α : Type} {f : Nat → Row → List α} {x : α} : ∀ {i : Nat} {l : List Row} {k : Nat} {r : Row}, l[k]? = some r → x ∈ f (i + k) r → x ∈ gen f i l
  | i, [], k, r, e, _ => by cases e
  | i, r' :: l, 0, r, e, h => by cases e; exact List.mem_append.mpr (.inl h)
  | i, r' :: l, k + 1, r, e, h => List.mem_append.mpr (.inr (mem_gen (k := k) e (by rw [show i + 1 + k = i + (k + 1) by omega]; exact h)))
def rowDat (i : Nat) : Row → Dat
  | .b m t => .tuple [.str (Str.ofString "B"), .str (if m then Str.ofString "EQ" else Str.ofString "AL"), .int ((t : Int) - i - 1), .int 0]
  | .bl t => .tuple [.str (Str.ofString "BL"), .str (Str.ofString "AL"), .int ((t : Int) - i - 1), .int 0]
  | .imp => .tuple [.str (Str.ofString "BL"), .str (Str.ofString "AL"), .int 0, .int 0]
  | .addr t => .tuple [.str (Str.ofString "MOVI"), .int 1, .int 0, .int t]
  | .plain _ => .tuple [.str (Str.ofString "ADDI"), .int 1, .int 1, .int i]
def rowsD (rows : List Row) : List Dat := gen (fun i r => [rowDat i r]) 0 rows
theorem rowsD_len (rows : List Row) : (rowsD rows).length = rows.length := by
  have : ∀ (l : List Row) (i : Nat), (gen (fun i r => [rowDat i r]) i l).length = l.length := by
    intro l
    induction l with
    | nil => intro i; rfl
    | cons r l ih => intro i; rw [gen, List.length_append, ih]; simp; omega
  exact this rows 0
theorem rowsD_at {rows : List Row} {k : Nat} {r : Row} (h : rows[k]? = some r) : (rowsD rows)[k]? = some (rowDat k r) := by
  have : ∀ (l : List Row) (i k : Nat) (r : Row), l[k]? = some r → (gen (fun i r => [rowDat i r]) i l)[k]? = some (rowDat (i + k) r) := by
    intro l
    induction l with
    | nil => intro i k r h; cases h
    | cons r' l ih =>
      intro i k r h
      cases k with
      | zero => cases h; rfl
      | succ k =>
        rw [gen, List.cons_append, List.nil_append, List.getElem?_cons_succ, ih (i + 1) k r h, show i + 1 + k = i + (k + 1) by omega]
  have := this rows 0 k r h
  rwa [Nat.zero_add] at this
def fixOf (i : Nat) : Row → List Fix
  | .imp => [⟨i, Str.ofString "call", 1, 2⟩]
  | .addr _ => [⟨i, Str.ofString "addr", 0, 0⟩]
  | .plain true => [⟨i, Str.ofString "data", 0, 0⟩]
  | _ => []
def fixes (rows : List Row) : List Fix := gen fixOf 0 rows
theorem fixes_len (rows : List Row) : (fixes rows).length ≤ rows.length := by
  have : ∀ (l : List Row) (i : Nat), (gen fixOf i l).length ≤ l.length := by
    intro l
    induction l with
    | nil => intro i; exact Nat.le_refl _
    | cons r l ih =>
      intro i
      rw [gen, List.length_append, List.length_cons]
      have h1 := ih (i + 1)
      have h2 : (fixOf i r).length ≤ 1 := by cases r <;> simp [fixOf] <;> split <;> simp
      omega
  exact this rows 0
theorem fixes_mem {rows : List Row} {f : Fix} (h : f ∈ fixes rows) : ∃ k r, rows[k]? = some r ∧ f ∈ fixOf k r ∧ f.row = k := by
  obtain ⟨k, r, e, hx⟩ := gen_mem h
  rw [Nat.zero_add] at hx
  refine ⟨k, r, e, hx, ?_⟩
  cases r with
  | plain d => cases d <;> simp [fixOf] at hx; rw [hx]
  | _ => simp [fixOf] at hx <;> rw [hx]
/-- which rows call an imported entry; which hold an address -/
def isImp : Row → Bool | .imp => true | _ => false
def isAddr : Row → Bool | .addr _ => true | _ => false
def isBL : Row → Bool | .bl _ => true | .imp => true | _ => false
theorem calls_at {rows : List Row} {k : Nat} {r : Row} (h : rows[k]? = some r) : ((fixes rows).any fun f => decide (f.kind = Str.ofString "call" ∧ f.row = (k : Int))) = isImp r := by
  cases hb : isImp r with
  | true =>
    rw [List.any_eq_true]
    cases r <;> simp [isImp] at hb
    exact ⟨⟨k, Str.ofString "call", 1, 2⟩, mem_gen h (by rw [Nat.zero_add]; exact .head _), by simp⟩
  | false =>
    rw [List.any_eq_false]
    intro f hf hq
    obtain ⟨k', r', e, hx, hrow⟩ := fixes_mem hf
    have hq' := of_decide_eq_true hq
    have : k' = k := by have := hq'.2; rw [hrow] at this; exact Int.ofNat.inj this
    subst this
    rw [h] at e
    cases e
    have h1 := hq'.1
    cases r with
    | plain d => cases d <;> simp [fixOf] at hx; subst hx; exact absurd (show Str.ofString "data" = Str.ofString "call" from h1) (by decide)
    | imp => simp [isImp] at hb
    | addr t => simp [fixOf] at hx; subst hx; exact absurd (show Str.ofString "addr" = Str.ofString "call" from h1) (by decide)
    | _ => simp [fixOf] at hx
theorem addrs_at {rows : List Row} {k : Nat} {r : Row} (h : rows[k]? = some r) : ((fixes rows).any fun f => decide (f.kind = Str.ofString "addr" ∧ f.m = 0 ∧ f.row = (k : Int))) = isAddr r := by
  cases hb : isAddr r with
  | true =>
    rw [List.any_eq_true]
    cases r <;> simp [isAddr] at hb
    exact ⟨⟨k, Str.ofString "addr", 0, 0⟩, mem_gen h (by rw [Nat.zero_add]; exact .head _), by simp⟩
  | false =>
    rw [List.any_eq_false]
    intro f hf hq
    obtain ⟨k', r', e, hx, hrow⟩ := fixes_mem hf
    have hq' := of_decide_eq_true hq
    have : k' = k := by have := hq'.2.2; rw [hrow] at this; exact Int.ofNat.inj this
    subst this
    rw [h] at e
    cases e
    have h1 := hq'.1
    cases r with
    | plain d => cases d <;> simp [fixOf] at hx; subst hx; exact absurd (show Str.ofString "data" = Str.ofString "addr" from h1) (by decide)
    | imp => simp [fixOf] at hx; subst hx; exact absurd (show Str.ofString "call" = Str.ofString "addr" from h1) (by decide)
    | addr t => simp [isAddr] at hb
    | _ => simp [fixOf] at hx
def argOf (rows : List Row) (k : Int) : Int := match rows[k.toNat]? with
  | some (.addr t) => t
  | _ => 0
theorem args_at (rows : List Row) : ∀ f ∈ fixes rows, f.kind = Str.ofString "addr" → f.m = 0 → 0 ≤ f.row ∧ ∃ da db dc, (rowsD rows)[f.row.toNat]? = some (.tuple [da, db, dc, .int (argOf rows f.row)]) := by
  intro f hf hk _
  obtain ⟨k, r, e, hx, hrow⟩ := fixes_mem hf
  rw [hrow]
  refine ⟨Int.natCast_nonneg _, ?_⟩
  have he := rowsD_at e
  rw [Int.toNat_natCast, he]
  unfold argOf
  rw [Int.toNat_natCast, e]
  cases r with
  | plain d => cases d <;> simp [fixOf] at hx; subst hx; exact absurd (show Str.ofString "data" = Str.ofString "addr" from hk) (by decide)
  | imp => simp [fixOf] at hx; subst hx; exact absurd (show Str.ofString "call" = Str.ofString "addr" from hk) (by decide)
  | addr t => exact ⟨_, _, _, rfl⟩
  | _ => simp [fixOf] at hx
/-- the targets lie within -/
def Valid (n : Nat) : Row → Prop
  | .b _ t => t ≤ n
  | .bl t => t ≤ n
  | .addr t => t < n
  | _ => True
/-- a row that stays, as it stands when the rows have moved -/
def newRow (ks : List Bool) (i : Nat) : Row → Dat
  | .b m t => .tuple [.str (Str.ofString "B"), .str (if m then Str.ofString "EQ" else Str.ofString "AL"), .int ((cnt ks t : Int) - cnt ks i - 1), .int 0]
  | .bl t => .tuple [.str (Str.ofString "BL"), .str (Str.ofString "AL"), .int ((cnt ks t : Int) - cnt ks i - 1), .int 0]
  | .imp => .tuple [.str (Str.ofString "BL"), .str (Str.ofString "AL"), .int 0, .int 0]
  | .addr t => .tuple [.str (Str.ofString "MOVI"), .int 1, .int 0, .int (cnt ks t)]
  | .plain _ => .tuple [.str (Str.ofString "ADDI"), .int 1, .int 1, .int i]
def stays (ks : List Bool) (i : Nat) : Bool := ks.getD i false
def newRows (ks : List Bool) (rows : List Row) : List Dat := gen (fun i r => if stays ks i then [newRow ks i r] else []) 0 rows

theorem newRows_snoc (ks : List Bool) {rows : List Row} {i : Nat} {r : Row} (h : rows[i]? = some r) : newRows ks (rows.take (i + 1)) = newRows ks (rows.take i) ++ (if stays ks i then [newRow ks i r] else []) := by
  unfold newRows
  have hi := (List.getElem?_eq_some_iff.mp h).1
  rw [List.take_add_one, h, Option.toList_some, gen_snoc, List.length_take, Nat.min_eq_left (by omega)]
theorem newRows_len (ks : List Bool) (rows : List Row) : (newRows ks rows).length ≤ rows.length := by
  have : ∀ (l : List Row) (i : Nat), (gen (fun i r => if stays ks i then [newRow ks i r] else []) i l).length ≤ l.length := by
    intro l
    induction l with
    | nil => intro i; exact Nat.le_refl _
    | cons r l ih =>
      intro i
      rw [gen, List.length_append, List.length_cons]
      have h1 := ih (i + 1)
      have h2 : (if stays ks i then [newRow ks i r] else []).length ≤ 1 := by split <;> simp
      omega
  exact this rows 0
theorem rows_ok {w : World} {mean : ExcName → Option Value} {mg mb : Str → Option Value} {dp un : Nat} {gd : Option (List Code)} {cn : Str} {cs : Scope} {L a : Addr} {ccd : Value} {cl : List (Str × Addr)} {outer : List Env} {A₀ : Around} {base h₀ : Heap} {m : Str → Option Value} {s : Shared} {Q E : Value → Shared → Prop} {x la lr lk lp : Addr} {es : List DictEntry} {fvs rvs kvs us : List Value} {rows : List Row} {ks : List Bool}
    (B : Below A₀ base outer h₀) (F : Fr h₀ L s.heap m) (X : (Mine.hd.heap_1 w.params).In h₀) (T : Top Mine.hd.view_1 (looseW Mine.hd.view_1 []) mean mg mb h₀) (hk : cs.kind = .function) (hd : dp ≤ 480) (hu : un ≤ 480)
    (O : ObjAt s.heap x es) (hf : getL (Str.ofString "fixups") es = some (some (.ref la))) (hl : s.heap.IsList la fvs.toArray) (hD : DIs (Hp s.heap) fvs ((fixes rows).map Fix.dat))
    (hr : getL (Str.ofString "rows") es = some (some (.ref lr))) (hrl : s.heap.IsList lr rvs.toArray) (hrD : DIs (Hp s.heap) rvs (rowsD rows))
    (hkl : s.heap.IsList lk kvs.toArray) (hkD : DIs (Hp s.heap) kvs (ks.map Dat.bool)) (hkn : ks.length = rows.length)
    (hpl : s.heap.IsList lp us.toArray) (hpI : IntsAre us (placesN ks (ks.length + 1)))
    (hn : rows.length ≤ 100) (hV : ∀ r ∈ rows, Valid rows.length r)
    (ret : ∀ r h' tk, (∀ b o, s.heap.get? b = some o → b ∉ ([] : List (Addr × Obj)).map (·.1) → h'.get? b = some o) → (fun (h' : Heap) r => ∃ p vs n, r = Value.ref p ∧ s.heap.get? p = none ∧ h'.get? p = some (listOf (List.toArray vs) n) ∧ DIs (Hp h') vs (newRows ks rows)) h' r → Q r { s with heap := h', toks := tk }) :
    wpAny (model PySem.Challenge.rw_nu0316_01.row.prog w) (ktrTop dp un gd cn cs L a ccd cl outer) (call (.ref 84) [.ref x, .ref lr, .ref lk, .ref lp]) Q E s := by
  refine wpAny_call ?_
  w_top off
  k_dflt (first | (refine' code_B ?O ?k1 ?k2 ?k3 ?k10 ?k4 ?kA ?kF ?kK ?k6 ?k7 ?k8 ?k9 ?kB ?kr ?_ ?c2 ?c3 ?c4 ?c5; (case kA | kF => exact rfl); (case kK => assumption); (case k1 | k2 | k3 => k_asm); (case k10 => first | k_asm | exact News.nil); (case k4 => k_asm); (case k6 | k7 => k_is); (case k8 => ((try simp only [depth_deeper, depth_in1, recursionLimit]); (try dsimp only [ktrTop, recursionLimit]); omega)); (case k9 => exact BindsTo.of_eq rfl); (case c5 => decide); (case kB => exact locs rfl); (case c2 | c3 | c4 => exact rfl); (case kr => assumption)) | fail)
  intro g L' h₁ sub F' N' B' X' T'
  replace sub := GSub.all sub
  replace O := O.keeps sub
  replace hl := stays_list sub hl
  replace hrl := stays_list sub hrl
  replace hkl := stays_list sub hkl
  replace hpl := stays_list sub hpl
  replace hD : DIs (Hp g) _ _ := hD.mono sub
  replace hrD : DIs (Hp g) _ _ := hrD.mono sub
  replace hkD : DIs (Hp g) _ _ := hkD.mono sub
  have hfl := fixes_len rows
  have hrn := hrD.length
  rw [rowsD_len] at hrn
  clear F B X T ret
  (first | ((try k_unmd); (try k_fold); repeat' (first | (k_unfold; (try dsimp only)) | (first | ((with_reducible show wpAny _ _ (call (Value.ref 77) _) _ _ _); k_here; k_dflt (refine moved_ok (by k_asm) (by k_asm) (by k_asm) (by k_asm) (by rfl) (by (first | ((try dsimp only [ktrTop, Around.deeper, Around.in1]); omega) | fail)) (by (first | ((try dsimp only [ktrTop, Around.deeper, Around.in1]); omega) | fail)) (IsTup.keeps (by with_reducible assumption) (Fr.keep (by k_asm))) (stays_list (Fr.keep (by k_asm)) (by with_reducible assumption)) (by with_reducible assumption) (by first | (with_reducible assumption) | omega | fail) (by first | (with_reducible assumption) | omega | fail) (by first | (with_reducible assumption) | omega | fail) (by with_reducible assumption) (by with_reducible assumption) (by rfl) (by rfl) (by rfl) (after (by k_asm) (by k_asm) ?_); k_whole); (rename News _ _ _ _ => N8); (rename Fr _ _ _ _ => F8); intro r9 h9 tk9 F' N' K' o9; obtain ⟨a9, t9, n9, e9, f9, g9⟩ := o9; subst e9; (have l9 := adopt_ne N8 f9); (replace N' := adopt F8 N' f9 g9); (simp only [LCg.Off1, and_true] at l9); clear F8 N8 K' f9 g9) | ((with_reducible show wpAny _ _ (call (Value.ref 28) _) _ _ _); k_here; k_dflt (refine target_ok (by k_asm) (by k_asm) (by k_asm) (by k_asm) (by rfl) (by (first | ((try dsimp only [ktrTop, Around.deeper, Around.in1]); omega) | fail)) (by (first | ((try dsimp only [ktrTop, Around.deeper, Around.in1]); omega) | fail)) (IsTup.keeps (by with_reducible assumption) (Fr.keep (by k_asm))) (after (by k_asm) (by k_asm) ?_); k_whole); intro r9 h9 tk9 F' N' K' o9; obtain ⟨t9, o9⟩ := o9; subst o9; clear K'; (try k_sweep)) | ((with_reducible show wpAny _ _ (call (Value.ref 21) _) _ _ _); k_here; k_dflt (refine isb_ok (by k_asm) (by k_asm) (by k_asm) (by k_asm) (by rfl) (by (first | ((try dsimp only [ktrTop, Around.deeper, Around.in1]); omega) | fail)) (by (first | ((try dsimp only [ktrTop, Around.deeper, Around.in1]); omega) | fail)) (IsTup.keeps (by with_reducible assumption) (Fr.keep (by k_asm))) (after (by k_asm) (by k_asm) ?_); k_whole); intro r9 h9 tk9 F' N' K' o9; subst o9; clear K'; (try k_sweep)) | fail) | ((first | (fail_if_success (with_reducible first | show wpAny _ _ (call (Value.ref _) _) _ _ _ | show wpAny _ _ (exec (Stmt.While _ _ _ _) _) _ _ _ | show wpAny _ _ (exec (Stmt.For _ _ _ _ _) _) _ _ _ | show wpAny _ _ (pyIter _) _ _ _ | show wpAny _ _ (setItem _ _ _) _ _ _ | show wpAny _ _ (eval (Expr.ListComp _ _ _ _) _) _ _ _ | show wpAny _ _ (exec (Stmt.Assign _ (Expr.ListComp _ _ _ _) _) _) _ _ _ | show InvPostG _ _ _ _ _ _ _ _ | show InvEndG _ _ _ _ _ _ | show OnG _ _ _ _ _ _ _ | show Fin _ _ _ _ _ _ | show KswEnd _ _ _ _ _ _ _ _ _ _ _ _ | show wpAny _ _ (call (Value.builtin "sorted") _) _ _ _ | show LCg.CompEnd _ _ _ _ _ _ _ _ _ _ _ _ _ _ | show LCg.CompSrc _ _ _ _ _ _ _ _ _ _ _ _ _ _ | show LCt.CompSrcT _ _ _ _ _ _ _ _ _ _ _ _ _ _ _)) | fail); first | walk1 | (dsimp only; (try k_fold); (first | (fail_if_success (with_reducible first | show wpAny _ _ (call (Value.ref _) _) _ _ _ | show wpAny _ _ (exec (Stmt.While _ _ _ _) _) _ _ _ | show wpAny _ _ (exec (Stmt.For _ _ _ _ _) _) _ _ _ | show wpAny _ _ (pyIter _) _ _ _ | show wpAny _ _ (setItem _ _ _) _ _ _ | show wpAny _ _ (eval (Expr.ListComp _ _ _ _) _) _ _ _ | show wpAny _ _ (exec (Stmt.Assign _ (Expr.ListComp _ _ _ _) _) _) _ _ _ | show InvPostG _ _ _ _ _ _ _ _ | show InvEndG _ _ _ _ _ _ | show OnG _ _ _ _ _ _ _ | show Fin _ _ _ _ _ _ | show KswEnd _ _ _ _ _ _ _ _ _ _ _ _ | show wpAny _ _ (call (Value.builtin "sorted") _) _ _ _ | show LCg.CompEnd _ _ _ _ _ _ _ _ _ _ _ _ _ _ | show LCg.CompSrc _ _ _ _ _ _ _ _ _ _ _ _ _ _ | show LCt.CompSrcT _ _ _ _ _ _ _ _ _ _ _ _ _ _ _)) | fail); walk1)) | (leave1; walk_say "STEP leave1"; try dsimp only) | fail "no step")) | fail)
  rename Fr _ _ _ _ => F1
  k_dflt refine calls_ok (by k_asm) (by k_asm) (by k_asm) (by k_asm) rfl (by (first | ((try dsimp only [ktrTop, Around.deeper, Around.in1]); omega) | fail)) (by (first | ((try dsimp only [ktrTop, Around.deeper, Around.in1]); omega) | fail)) (O.keeps F1.keep) hf (stays_list F1.keep hl) (hD.mono F1.keep) (by omega) (after (by k_asm) (by k_asm) ?_)
  rintro r1 h1 tk1 F2 N2 K2 ⟨d1, kv1, rfl, fr1, lo1, D1, hk1⟩
  obtain ⟨o1, ho1, hd1⟩ := Heap.dictOf_iff.mp D1
  replace N2 := adopt F1 N2 fr1 ho1
  clear F1 K2 D1 ho1 fr1
  dsimp only
  (first | ((try k_unmd); (try k_fold); repeat' (first | (k_unfold; (try dsimp only)) | (first | ((with_reducible show wpAny _ _ (call (Value.ref 77) _) _ _ _); k_here; k_dflt (refine moved_ok (by k_asm) (by k_asm) (by k_asm) (by k_asm) (by rfl) (by (first | ((try dsimp only [ktrTop, Around.deeper, Around.in1]); omega) | fail)) (by (first | ((try dsimp only [ktrTop, Around.deeper, Around.in1]); omega) | fail)) (IsTup.keeps (by with_reducible assumption) (Fr.keep (by k_asm))) (stays_list (Fr.keep (by k_asm)) (by with_reducible assumption)) (by with_reducible assumption) (by first | (with_reducible assumption) | omega | fail) (by first | (with_reducible assumption) | omega | fail) (by first | (with_reducible assumption) | omega | fail) (by with_reducible assumption) (by with_reducible assumption) (by rfl) (by rfl) (by rfl) (after (by k_asm) (by k_asm) ?_); k_whole); (rename News _ _ _ _ => N8); (rename Fr _ _ _ _ => F8); intro r9 h9 tk9 F' N' K' o9; obtain ⟨a9, t9, n9, e9, f9, g9⟩ := o9; subst e9; (have l9 := adopt_ne N8 f9); (replace N' := adopt F8 N' f9 g9); (simp only [LCg.Off1, and_true] at l9); clear F8 N8 K' f9 g9) | ((with_reducible show wpAny _ _ (call (Value.ref 28) _) _ _ _); k_here; k_dflt (refine target_ok (by k_asm) (by k_asm) (by k_asm) (by k_asm) (by rfl) (by (first | ((try dsimp only [ktrTop, Around.deeper, Around.in1]); omega) | fail)) (by (first | ((try dsimp only [ktrTop, Around.deeper, Around.in1]); omega) | fail)) (IsTup.keeps (by with_reducible assumption) (Fr.keep (by k_asm))) (after (by k_asm) (by k_asm) ?_); k_whole); intro r9 h9 tk9 F' N' K' o9; obtain ⟨t9, o9⟩ := o9; subst o9; clear K'; (try k_sweep)) | ((with_reducible show wpAny _ _ (call (Value.ref 21) _) _ _ _); k_here; k_dflt (refine isb_ok (by k_asm) (by k_asm) (by k_asm) (by k_asm) (by rfl) (by (first | ((try dsimp only [ktrTop, Around.deeper, Around.in1]); omega) | fail)) (by (first | ((try dsimp only [ktrTop, Around.deeper, Around.in1]); omega) | fail)) (IsTup.keeps (by with_reducible assumption) (Fr.keep (by k_asm))) (after (by k_asm) (by k_asm) ?_); k_whole); intro r9 h9 tk9 F' N' K' o9; subst o9; clear K'; (try k_sweep)) | fail) | ((first | (fail_if_success (with_reducible first | show wpAny _ _ (call (Value.ref _) _) _ _ _ | show wpAny _ _ (exec (Stmt.While _ _ _ _) _) _ _ _ | show wpAny _ _ (exec (Stmt.For _ _ _ _ _) _) _ _ _ | show wpAny _ _ (pyIter _) _ _ _ | show wpAny _ _ (setItem _ _ _) _ _ _ | show wpAny _ _ (eval (Expr.ListComp _ _ _ _) _) _ _ _ | show wpAny _ _ (exec (Stmt.Assign _ (Expr.ListComp _ _ _ _) _) _) _ _ _ | show InvPostG _ _ _ _ _ _ _ _ | show InvEndG _ _ _ _ _ _ | show OnG _ _ _ _ _ _ _ | show Fin _ _ _ _ _ _ | show KswEnd _ _ _ _ _ _ _ _ _ _ _ _ | show wpAny _ _ (call (Value.builtin "sorted") _) _ _ _ | show LCg.CompEnd _ _ _ _ _ _ _ _ _ _ _ _ _ _ | show LCg.CompSrc _ _ _ _ _ _ _ _ _ _ _ _ _ _ | show LCt.CompSrcT _ _ _ _ _ _ _ _ _ _ _ _ _ _ _)) | fail); first | walk1 | (dsimp only; (try k_fold); (first | (fail_if_success (with_reducible first | show wpAny _ _ (call (Value.ref _) _) _ _ _ | show wpAny _ _ (exec (Stmt.While _ _ _ _) _) _ _ _ | show wpAny _ _ (exec (Stmt.For _ _ _ _ _) _) _ _ _ | show wpAny _ _ (pyIter _) _ _ _ | show wpAny _ _ (setItem _ _ _) _ _ _ | show wpAny _ _ (eval (Expr.ListComp _ _ _ _) _) _ _ _ | show wpAny _ _ (exec (Stmt.Assign _ (Expr.ListComp _ _ _ _) _) _) _ _ _ | show InvPostG _ _ _ _ _ _ _ _ | show InvEndG _ _ _ _ _ _ | show OnG _ _ _ _ _ _ _ | show Fin _ _ _ _ _ _ | show KswEnd _ _ _ _ _ _ _ _ _ _ _ _ | show wpAny _ _ (call (Value.builtin "sorted") _) _ _ _ | show LCg.CompEnd _ _ _ _ _ _ _ _ _ _ _ _ _ _ | show LCg.CompSrc _ _ _ _ _ _ _ _ _ _ _ _ _ _ | show LCt.CompSrcT _ _ _ _ _ _ _ _ _ _ _ _ _ _ _)) | fail); walk1)) | (leave1; walk_say "STEP leave1"; try dsimp only) | fail "no step")) | fail)
  rename Fr _ _ _ _ => F3; rename News _ _ _ _ => N3
  k_dflt refine own_ok (arg := argOf rows) (by k_asm) (by k_asm) (by k_asm) (by k_asm) rfl (by (first | ((try dsimp only [ktrTop, Around.deeper, Around.in1]); omega) | fail)) (by (first | ((try dsimp only [ktrTop, Around.deeper, Around.in1]); omega) | fail)) (O.keeps F3.keep) hf (stays_list F3.keep hl) (hD.mono F3.keep) (by omega)
    hr (stays_list F3.keep hrl) (hrD.mono F3.keep) (by rw [rowsD_len]; omega) (args_at rows) (after (by k_asm) (by k_asm) ?_)
  rintro r2 h2 tk2 F4 N4 K4 ⟨d2, kv2, rfl, fr2, lo2, D2, hk2⟩
  obtain ⟨o2, ho2, hd2⟩ := Heap.dictOf_iff.mp D2
  have lt2 := adopt_lt N3 fr2
  replace N4 := adopt F3 N4 fr2 ho2
  clear F3 K4 D2 ho2 fr2 N3
  dsimp only
  (first | ((try k_unmd); (try k_fold); repeat' (first | (k_unfold; (try dsimp only)) | (first | ((with_reducible show wpAny _ _ (call (Value.ref 77) _) _ _ _); k_here; k_dflt (refine moved_ok (by k_asm) (by k_asm) (by k_asm) (by k_asm) (by rfl) (by (first | ((try dsimp only [ktrTop, Around.deeper, Around.in1]); omega) | fail)) (by (first | ((try dsimp only [ktrTop, Around.deeper, Around.in1]); omega) | fail)) (IsTup.keeps (by with_reducible assumption) (Fr.keep (by k_asm))) (stays_list (Fr.keep (by k_asm)) (by with_reducible assumption)) (by with_reducible assumption) (by first | (with_reducible assumption) | omega | fail) (by first | (with_reducible assumption) | omega | fail) (by first | (with_reducible assumption) | omega | fail) (by with_reducible assumption) (by with_reducible assumption) (by rfl) (by rfl) (by rfl) (after (by k_asm) (by k_asm) ?_); k_whole); (rename News _ _ _ _ => N8); (rename Fr _ _ _ _ => F8); intro r9 h9 tk9 F' N' K' o9; obtain ⟨a9, t9, n9, e9, f9, g9⟩ := o9; subst e9; (have l9 := adopt_ne N8 f9); (replace N' := adopt F8 N' f9 g9); (simp only [LCg.Off1, and_true] at l9); clear F8 N8 K' f9 g9) | ((with_reducible show wpAny _ _ (call (Value.ref 28) _) _ _ _); k_here; k_dflt (refine target_ok (by k_asm) (by k_asm) (by k_asm) (by k_asm) (by rfl) (by (first | ((try dsimp only [ktrTop, Around.deeper, Around.in1]); omega) | fail)) (by (first | ((try dsimp only [ktrTop, Around.deeper, Around.in1]); omega) | fail)) (IsTup.keeps (by with_reducible assumption) (Fr.keep (by k_asm))) (after (by k_asm) (by k_asm) ?_); k_whole); intro r9 h9 tk9 F' N' K' o9; obtain ⟨t9, o9⟩ := o9; subst o9; clear K'; (try k_sweep)) | ((with_reducible show wpAny _ _ (call (Value.ref 21) _) _ _ _); k_here; k_dflt (refine isb_ok (by k_asm) (by k_asm) (by k_asm) (by k_asm) (by rfl) (by (first | ((try dsimp only [ktrTop, Around.deeper, Around.in1]); omega) | fail)) (by (first | ((try dsimp only [ktrTop, Around.deeper, Around.in1]); omega) | fail)) (IsTup.keeps (by with_reducible assumption) (Fr.keep (by k_asm))) (after (by k_asm) (by k_asm) ?_); k_whole); intro r9 h9 tk9 F' N' K' o9; subst o9; clear K'; (try k_sweep)) | fail) | ((first | (fail_if_success (with_reducible first | show wpAny _ _ (call (Value.ref _) _) _ _ _ | show wpAny _ _ (exec (Stmt.While _ _ _ _) _) _ _ _ | show wpAny _ _ (exec (Stmt.For _ _ _ _ _) _) _ _ _ | show wpAny _ _ (pyIter _) _ _ _ | show wpAny _ _ (setItem _ _ _) _ _ _ | show wpAny _ _ (eval (Expr.ListComp _ _ _ _) _) _ _ _ | show wpAny _ _ (exec (Stmt.Assign _ (Expr.ListComp _ _ _ _) _) _) _ _ _ | show InvPostG _ _ _ _ _ _ _ _ | show InvEndG _ _ _ _ _ _ | show OnG _ _ _ _ _ _ _ | show Fin _ _ _ _ _ _ | show KswEnd _ _ _ _ _ _ _ _ _ _ _ _ | show wpAny _ _ (call (Value.builtin "sorted") _) _ _ _ | show LCg.CompEnd _ _ _ _ _ _ _ _ _ _ _ _ _ _ | show LCg.CompSrc _ _ _ _ _ _ _ _ _ _ _ _ _ _ | show LCt.CompSrcT _ _ _ _ _ _ _ _ _ _ _ _ _ _ _)) | fail); first | walk1 | (dsimp only; (try k_fold); (first | (fail_if_success (with_reducible first | show wpAny _ _ (call (Value.ref _) _) _ _ _ | show wpAny _ _ (exec (Stmt.While _ _ _ _) _) _ _ _ | show wpAny _ _ (exec (Stmt.For _ _ _ _ _) _) _ _ _ | show wpAny _ _ (pyIter _) _ _ _ | show wpAny _ _ (setItem _ _ _) _ _ _ | show wpAny _ _ (eval (Expr.ListComp _ _ _ _) _) _ _ _ | show wpAny _ _ (exec (Stmt.Assign _ (Expr.ListComp _ _ _ _) _) _) _ _ _ | show InvPostG _ _ _ _ _ _ _ _ | show InvEndG _ _ _ _ _ _ | show OnG _ _ _ _ _ _ _ | show Fin _ _ _ _ _ _ | show KswEnd _ _ _ _ _ _ _ _ _ _ _ _ | show wpAny _ _ (call (Value.builtin "sorted") _) _ _ _ | show LCg.CompEnd _ _ _ _ _ _ _ _ _ _ _ _ _ _ | show LCg.CompSrc _ _ _ _ _ _ _ _ _ _ _ _ _ _ | show LCt.CompSrcT _ _ _ _ _ _ _ _ _ _ _ _ _ _ _)) | fail); walk1)) | (leave1; walk_say "STEP leave1"; try dsimp only) | fail "no step")) | fail)
  refine For_invV g (by rfl) (by rfl) ?_ (by intro _; with_unfolding_all rfl)
  (first | ((try k_unmd); (try k_fold); repeat' (first | (k_unfold; (try dsimp only)) | (first | ((with_reducible show wpAny _ _ (call (Value.ref 77) _) _ _ _); k_here; k_dflt (refine moved_ok (by k_asm) (by k_asm) (by k_asm) (by k_asm) (by rfl) (by (first | ((try dsimp only [ktrTop, Around.deeper, Around.in1]); omega) | fail)) (by (first | ((try dsimp only [ktrTop, Around.deeper, Around.in1]); omega) | fail)) (IsTup.keeps (by with_reducible assumption) (Fr.keep (by k_asm))) (stays_list (Fr.keep (by k_asm)) (by with_reducible assumption)) (by with_reducible assumption) (by first | (with_reducible assumption) | omega | fail) (by first | (with_reducible assumption) | omega | fail) (by first | (with_reducible assumption) | omega | fail) (by with_reducible assumption) (by with_reducible assumption) (by rfl) (by rfl) (by rfl) (after (by k_asm) (by k_asm) ?_); k_whole); (rename News _ _ _ _ => N8); (rename Fr _ _ _ _ => F8); intro r9 h9 tk9 F' N' K' o9; obtain ⟨a9, t9, n9, e9, f9, g9⟩ := o9; subst e9; (have l9 := adopt_ne N8 f9); (replace N' := adopt F8 N' f9 g9); (simp only [LCg.Off1, and_true] at l9); clear F8 N8 K' f9 g9) | ((with_reducible show wpAny _ _ (call (Value.ref 28) _) _ _ _); k_here; k_dflt (refine target_ok (by k_asm) (by k_asm) (by k_asm) (by k_asm) (by rfl) (by (first | ((try dsimp only [ktrTop, Around.deeper, Around.in1]); omega) | fail)) (by (first | ((try dsimp only [ktrTop, Around.deeper, Around.in1]); omega) | fail)) (IsTup.keeps (by with_reducible assumption) (Fr.keep (by k_asm))) (after (by k_asm) (by k_asm) ?_); k_whole); intro r9 h9 tk9 F' N' K' o9; obtain ⟨t9, o9⟩ := o9; subst o9; clear K'; (try k_sweep)) | ((with_reducible show wpAny _ _ (call (Value.ref 21) _) _ _ _); k_here; k_dflt (refine isb_ok (by k_asm) (by k_asm) (by k_asm) (by k_asm) (by rfl) (by (first | ((try dsimp only [ktrTop, Around.deeper, Around.in1]); omega) | fail)) (by (first | ((try dsimp only [ktrTop, Around.deeper, Around.in1]); omega) | fail)) (IsTup.keeps (by with_reducible assumption) (Fr.keep (by k_asm))) (after (by k_asm) (by k_asm) ?_); k_whole); intro r9 h9 tk9 F' N' K' o9; subst o9; clear K'; (try k_sweep)) | fail) | ((first | (fail_if_success (with_reducible first | show wpAny _ _ (call (Value.ref _) _) _ _ _ | show wpAny _ _ (exec (Stmt.While _ _ _ _) _) _ _ _ | show wpAny _ _ (exec (Stmt.For _ _ _ _ _) _) _ _ _ | show wpAny _ _ (pyIter _) _ _ _ | show wpAny _ _ (setItem _ _ _) _ _ _ | show wpAny _ _ (eval (Expr.ListComp _ _ _ _) _) _ _ _ | show wpAny _ _ (exec (Stmt.Assign _ (Expr.ListComp _ _ _ _) _) _) _ _ _ | show InvPostG _ _ _ _ _ _ _ _ | show InvEndG _ _ _ _ _ _ | show OnG _ _ _ _ _ _ _ | show Fin _ _ _ _ _ _ | show KswEnd _ _ _ _ _ _ _ _ _ _ _ _ | show wpAny _ _ (call (Value.builtin "sorted") _) _ _ _ | show LCg.CompEnd _ _ _ _ _ _ _ _ _ _ _ _ _ _ | show LCg.CompSrc _ _ _ _ _ _ _ _ _ _ _ _ _ _ | show LCt.CompSrcT _ _ _ _ _ _ _ _ _ _ _ _ _ _ _)) | fail); first | walk1 | (dsimp only; (try k_fold); (first | (fail_if_success (with_reducible first | show wpAny _ _ (call (Value.ref _) _) _ _ _ | show wpAny _ _ (exec (Stmt.While _ _ _ _) _) _ _ _ | show wpAny _ _ (exec (Stmt.For _ _ _ _ _) _) _ _ _ | show wpAny _ _ (pyIter _) _ _ _ | show wpAny _ _ (setItem _ _ _) _ _ _ | show wpAny _ _ (eval (Expr.ListComp _ _ _ _) _) _ _ _ | show wpAny _ _ (exec (Stmt.Assign _ (Expr.ListComp _ _ _ _) _) _) _ _ _ | show InvPostG _ _ _ _ _ _ _ _ | show InvEndG _ _ _ _ _ _ | show OnG _ _ _ _ _ _ _ | show Fin _ _ _ _ _ _ | show KswEnd _ _ _ _ _ _ _ _ _ _ _ _ | show wpAny _ _ (call (Value.builtin "sorted") _) _ _ _ | show LCg.CompEnd _ _ _ _ _ _ _ _ _ _ _ _ _ _ | show LCg.CompSrc _ _ _ _ _ _ _ _ _ _ _ _ _ _ | show LCt.CompSrcT _ _ _ _ _ _ _ _ _ _ _ _ _ _ _)) | fail); walk1)) | (leave1; walk_say "STEP leave1"; try dsimp only) | fail "no step")) | fail)
  rename_i fl _ _ l1 _ _ _ _ _ _ _ _ hir F5 N5 _
  refine loopR (fun c : List Value × List Dat × Nat => [(fl, listOf c.1.toArray c.2.2)]) [(d2, o2), (d1, o1)] (fun _ => []) (fun L c => DIs (Kn g L) c.1 c.2.1) [Str.ofString "row"]
    (fun i c => c.2.1 = newRows ks (rows.take i)) [fl, d2, d1] ([], [], 0) rfl hir (n := rows.length) rfl (by omega) F5 N5
    (by (first | (intro p hp; first | (with_reducible (repeat' (first | exact hp | exact List.mem_append_left _ hp | exact List.mem_append_right _ hp | refine List.mem_cons_of_mem _ ?_)); done) | ((simp only [List.nil_append, List.cons_append, List.append_nil, List.append_assoc, List.mem_cons, List.mem_append, List.not_mem_nil, or_false, false_or] at hp ⊢); first | done | grind)) | fail)) (fun _ => rfl) .nil (by intro p hp; cases hp) rfl ?_ ?_
  · intro c tl i t u h tk own hlt sep off hF hP F6 N6
    obtain ⟨vs, ds, nn⟩ := c
    dsimp only at hP hF
    obtain ⟨r, hri⟩ : ∃ r, rows[i]? = some r := ⟨_, List.getElem?_eq_getElem hlt⟩
    obtain ⟨b, hbi⟩ : ∃ b, ks[i]? = some b := ⟨_, List.getElem?_eq_getElem (by omega)⟩
    have hst : stays ks i = b := by unfold stays; rw [List.getD_eq_getElem?_getD, hbi]; rfl
    obtain ⟨rv, hrv, hdr⟩ := hrD.get (rowsD_at hri)
    obtain ⟨bv, hkv, hdb⟩ := hkD.get (k := i) (d := .bool b) (by rw [List.getElem?_map, hbi]; rfl)
    have hrv' : rvs[(i : Int).toNat]? = some rv := hrv
    have hkv' : kvs[(i : Int).toNat]? = some bv := hkv
    cases hdb
    have hnew := newRows_snoc ks hri
    rw [hst] at hnew
    have hin1 := (hk1 i).trans (calls_at hri)
    have hin2 := hk2 i
    rw [addrs_at hri] at hin2
    have hVr := hV r (List.mem_of_getElem? hri)
    have hi0 : (0 : Int) ≤ i := Int.natCast_nonneg i
    have hpi : (placesN ks (ks.length + 1))[(i : Int).toNat]? = some (cnt ks i : Int) := placesN_at (by omega)
    have hplen := placesN_len ks (ks.length + 1)
    have hvl := hF.length
    have hdl := newRows_len ks (rows.take i)
    rw [List.length_take, Nat.min_eq_left (by omega), ← hP, ← hvl] at hdl
    clear hrv hkv hk1 hk2 hbi
    dsimp only [kstB] at F6
    simp only [List.nil_append, List.cons_append] at N6
    have hKd := kdMark
    cases b with
    | false =>
      (first | ((try k_unmd); (try k_fold); repeat' (first | (k_unfold; (try dsimp only)) | (first | ((with_reducible show wpAny _ _ (call (Value.ref 77) _) _ _ _); k_here; k_dflt (refine moved_ok (by k_asm) (by k_asm) (by k_asm) (by k_asm) (by rfl) (by (first | ((try dsimp only [ktrTop, Around.deeper, Around.in1]); omega) | fail)) (by (first | ((try dsimp only [ktrTop, Around.deeper, Around.in1]); omega) | fail)) (IsTup.keeps (by with_reducible assumption) (Fr.keep (by k_asm))) (stays_list (Fr.keep (by k_asm)) (by with_reducible assumption)) (by with_reducible assumption) (by first | (with_reducible assumption) | omega | fail) (by first | (with_reducible assumption) | omega | fail) (by first | (with_reducible assumption) | omega | fail) (by with_reducible assumption) (by with_reducible assumption) (by rfl) (by rfl) (by rfl) (after (by k_asm) (by k_asm) ?_); k_whole); (rename News _ _ _ _ => N8); (rename Fr _ _ _ _ => F8); intro r9 h9 tk9 F' N' K' o9; obtain ⟨a9, t9, n9, e9, f9, g9⟩ := o9; subst e9; (have l9 := adopt_ne N8 f9); (replace N' := adopt F8 N' f9 g9); (simp only [LCg.Off1, and_true] at l9); clear F8 N8 K' f9 g9) | ((with_reducible show wpAny _ _ (call (Value.ref 28) _) _ _ _); k_here; k_dflt (refine target_ok (by k_asm) (by k_asm) (by k_asm) (by k_asm) (by rfl) (by (first | ((try dsimp only [ktrTop, Around.deeper, Around.in1]); omega) | fail)) (by (first | ((try dsimp only [ktrTop, Around.deeper, Around.in1]); omega) | fail)) (IsTup.keeps (by with_reducible assumption) (Fr.keep (by k_asm))) (after (by k_asm) (by k_asm) ?_); k_whole); intro r9 h9 tk9 F' N' K' o9; obtain ⟨t9, o9⟩ := o9; subst o9; clear K'; (try k_sweep)) | ((with_reducible show wpAny _ _ (call (Value.ref 21) _) _ _ _); k_here; k_dflt (refine isb_ok (by k_asm) (by k_asm) (by k_asm) (by k_asm) (by rfl) (by (first | ((try dsimp only [ktrTop, Around.deeper, Around.in1]); omega) | fail)) (by (first | ((try dsimp only [ktrTop, Around.deeper, Around.in1]); omega) | fail)) (IsTup.keeps (by with_reducible assumption) (Fr.keep (by k_asm))) (after (by k_asm) (by k_asm) ?_); k_whole); intro r9 h9 tk9 F' N' K' o9; subst o9; clear K'; (try k_sweep)) | fail) | ((first | (fail_if_success (with_reducible first | show wpAny _ _ (call (Value.ref _) _) _ _ _ | show wpAny _ _ (exec (Stmt.While _ _ _ _) _) _ _ _ | show wpAny _ _ (exec (Stmt.For _ _ _ _ _) _) _ _ _ | show wpAny _ _ (pyIter _) _ _ _ | show wpAny _ _ (setItem _ _ _) _ _ _ | show wpAny _ _ (eval (Expr.ListComp _ _ _ _) _) _ _ _ | show wpAny _ _ (exec (Stmt.Assign _ (Expr.ListComp _ _ _ _) _) _) _ _ _ | show InvPostG _ _ _ _ _ _ _ _ | show InvEndG _ _ _ _ _ _ | show OnG _ _ _ _ _ _ _ | show Fin _ _ _ _ _ _ | show KswEnd _ _ _ _ _ _ _ _ _ _ _ _ | show wpAny _ _ (call (Value.builtin "sorted") _) _ _ _ | show LCg.CompEnd _ _ _ _ _ _ _ _ _ _ _ _ _ _ | show LCg.CompSrc _ _ _ _ _ _ _ _ _ _ _ _ _ _ | show LCt.CompSrcT _ _ _ _ _ _ _ _ _ _ _ _ _ _ _)) | fail); first | walk1 | (dsimp only; (try k_fold); (first | (fail_if_success (with_reducible first | show wpAny _ _ (call (Value.ref _) _) _ _ _ | show wpAny _ _ (exec (Stmt.While _ _ _ _) _) _ _ _ | show wpAny _ _ (exec (Stmt.For _ _ _ _ _) _) _ _ _ | show wpAny _ _ (pyIter _) _ _ _ | show wpAny _ _ (setItem _ _ _) _ _ _ | show wpAny _ _ (eval (Expr.ListComp _ _ _ _) _) _ _ _ | show wpAny _ _ (exec (Stmt.Assign _ (Expr.ListComp _ _ _ _) _) _) _ _ _ | show InvPostG _ _ _ _ _ _ _ _ | show InvEndG _ _ _ _ _ _ | show OnG _ _ _ _ _ _ _ | show Fin _ _ _ _ _ _ | show KswEnd _ _ _ _ _ _ _ _ _ _ _ _ | show wpAny _ _ (call (Value.builtin "sorted") _) _ _ _ | show LCg.CompEnd _ _ _ _ _ _ _ _ _ _ _ _ _ _ | show LCg.CompSrc _ _ _ _ _ _ _ _ _ _ _ _ _ _ | show LCt.CompSrcT _ _ _ _ _ _ _ _ _ _ _ _ _ _ _)) | fail); walk1)) | (leave1; walk_say "STEP leave1"; try dsimp only) | fail "no step")) | fail)
      dsimp only [InvPostG]
      exact end0 (vs, ds, nn) sep (by assumption) (by assumption) rfl (by intro p hp; cases hp) (by (first | (intro z h1 h2 h3; (simp only [List.contains_cons, List.contains_nil, Bool.or_eq_false_iff, beq_eq_false_iff_ne, ne_eq, List.forall_mem_cons, List.mem_cons, List.not_mem_nil, or_false, forall_eq_or_imp, forall_eq] at h1 h2 h3); (simp only [h1, h2, h3, if_false, ite_false, List.contains_cons, List.contains_nil, Bool.or_false, beq_iff_eq, Bool.or_eq_true, or_self, or_false, and_true, not_false_eq_true, Bool.false_eq_true]); done) | fail)) hF (by dsimp only; rw [hnew, hP]; simp)
    | true =>
      cases r with
      | b m t =>
        have hdr' := hdr
        simp only [rowDat] at hdr hdr'
        refine di_rowB hdr ?_
        intro a9 t1 t2 t3 t4 ev ht
        clear hdr
        subst ev
        have hin1' : (valueAt kv1 (i : Int)).isSome = false := hin1
        have hVt : t ≤ rows.length := hVr
        have hpt : (placesN ks (ks.length + 1))[((i : Int) + 1 + ((t : Int) - i - 1)).toNat]? = some (cnt ks t : Int) := by
          rw [show ((i : Int) + 1 + ((t : Int) - i - 1)).toNat = t by omega]; exact placesN_at (by omega)
        clear hVr hin2 hin1
        (first | ((try k_unmd); (try k_fold); repeat' (first | (k_unfold; (try dsimp only)) | (first | ((with_reducible show wpAny _ _ (call (Value.ref 77) _) _ _ _); k_here; k_dflt (refine moved_ok (by k_asm) (by k_asm) (by k_asm) (by k_asm) (by rfl) (by (first | ((try dsimp only [ktrTop, Around.deeper, Around.in1]); omega) | fail)) (by (first | ((try dsimp only [ktrTop, Around.deeper, Around.in1]); omega) | fail)) (IsTup.keeps (by with_reducible assumption) (Fr.keep (by k_asm))) (stays_list (Fr.keep (by k_asm)) (by with_reducible assumption)) (by with_reducible assumption) (by first | (with_reducible assumption) | omega | fail) (by first | (with_reducible assumption) | omega | fail) (by first | (with_reducible assumption) | omega | fail) (by with_reducible assumption) (by with_reducible assumption) (by rfl) (by rfl) (by rfl) (after (by k_asm) (by k_asm) ?_); k_whole); (rename News _ _ _ _ => N8); (rename Fr _ _ _ _ => F8); intro r9 h9 tk9 F' N' K' o9; obtain ⟨a9, t9, n9, e9, f9, g9⟩ := o9; subst e9; (have l9 := adopt_ne N8 f9); (replace N' := adopt F8 N' f9 g9); (simp only [LCg.Off1, and_true] at l9); clear F8 N8 K' f9 g9) | ((with_reducible show wpAny _ _ (call (Value.ref 28) _) _ _ _); k_here; k_dflt (refine target_ok (by k_asm) (by k_asm) (by k_asm) (by k_asm) (by rfl) (by (first | ((try dsimp only [ktrTop, Around.deeper, Around.in1]); omega) | fail)) (by (first | ((try dsimp only [ktrTop, Around.deeper, Around.in1]); omega) | fail)) (IsTup.keeps (by with_reducible assumption) (Fr.keep (by k_asm))) (after (by k_asm) (by k_asm) ?_); k_whole); intro r9 h9 tk9 F' N' K' o9; obtain ⟨t9, o9⟩ := o9; subst o9; clear K'; (try k_sweep)) | ((with_reducible show wpAny _ _ (call (Value.ref 21) _) _ _ _); k_here; k_dflt (refine isb_ok (by k_asm) (by k_asm) (by k_asm) (by k_asm) (by rfl) (by (first | ((try dsimp only [ktrTop, Around.deeper, Around.in1]); omega) | fail)) (by (first | ((try dsimp only [ktrTop, Around.deeper, Around.in1]); omega) | fail)) (IsTup.keeps (by with_reducible assumption) (Fr.keep (by k_asm))) (after (by k_asm) (by k_asm) ?_); k_whole); intro r9 h9 tk9 F' N' K' o9; subst o9; clear K'; (try k_sweep)) | fail) | ((first | (fail_if_success (with_reducible first | show wpAny _ _ (call (Value.ref _) _) _ _ _ | show wpAny _ _ (exec (Stmt.While _ _ _ _) _) _ _ _ | show wpAny _ _ (exec (Stmt.For _ _ _ _ _) _) _ _ _ | show wpAny _ _ (pyIter _) _ _ _ | show wpAny _ _ (setItem _ _ _) _ _ _ | show wpAny _ _ (eval (Expr.ListComp _ _ _ _) _) _ _ _ | show wpAny _ _ (exec (Stmt.Assign _ (Expr.ListComp _ _ _ _) _) _) _ _ _ | show InvPostG _ _ _ _ _ _ _ _ | show InvEndG _ _ _ _ _ _ | show OnG _ _ _ _ _ _ _ | show Fin _ _ _ _ _ _ | show KswEnd _ _ _ _ _ _ _ _ _ _ _ _ | show wpAny _ _ (call (Value.builtin "sorted") _) _ _ _ | show LCg.CompEnd _ _ _ _ _ _ _ _ _ _ _ _ _ _ | show LCg.CompSrc _ _ _ _ _ _ _ _ _ _ _ _ _ _ | show LCt.CompSrcT _ _ _ _ _ _ _ _ _ _ _ _ _ _ _)) | fail); first | walk1 | (dsimp only; (try k_fold); (first | (fail_if_success (with_reducible first | show wpAny _ _ (call (Value.ref _) _) _ _ _ | show wpAny _ _ (exec (Stmt.While _ _ _ _) _) _ _ _ | show wpAny _ _ (exec (Stmt.For _ _ _ _ _) _) _ _ _ | show wpAny _ _ (pyIter _) _ _ _ | show wpAny _ _ (setItem _ _ _) _ _ _ | show wpAny _ _ (eval (Expr.ListComp _ _ _ _) _) _ _ _ | show wpAny _ _ (exec (Stmt.Assign _ (Expr.ListComp _ _ _ _) _) _) _ _ _ | show InvPostG _ _ _ _ _ _ _ _ | show InvEndG _ _ _ _ _ _ | show OnG _ _ _ _ _ _ _ | show Fin _ _ _ _ _ _ | show KswEnd _ _ _ _ _ _ _ _ _ _ _ _ | show wpAny _ _ (call (Value.builtin "sorted") _) _ _ _ | show LCg.CompEnd _ _ _ _ _ _ _ _ _ _ _ _ _ _ | show LCg.CompSrc _ _ _ _ _ _ _ _ _ _ _ _ _ _ | show LCt.CompSrcT _ _ _ _ _ _ _ _ _ _ _ _ _ _ _)) | fail); walk1)) | (leave1; walk_say "STEP leave1"; try dsimp only) | fail "no step")) | fail)
        rename Fr _ _ _ _ => F7; rename News _ _ _ _ => N7; rename (_ ≠ _ ∧ _) => l9
        dsimp only [InvPostG]
        rw [List.push_toArray] at N7
        exact end1 (c₁ := [(fl, listOf vs.toArray nn)]) (vs ++ [Value.ref _], ds ++ [newRow ks i (.b m t)], nn + 1) sep F7 N7 rfl l9 rfl (by intro p hp; cases hp) (by (first | (intro z h1 h2 h3; (simp only [List.contains_cons, List.contains_nil, Bool.or_eq_false_iff, beq_eq_false_iff_ne, ne_eq, List.forall_mem_cons, List.mem_cons, List.not_mem_nil, or_false, forall_eq_or_imp, forall_eq] at h1 h2 h3); (simp only [h1, h2, h3, if_false, ite_false, List.contains_cons, List.contains_nil, Bool.or_false, beq_iff_eq, Bool.or_eq_true, or_self, or_false, and_true, not_false_eq_true, Bool.false_eq_true]); done) | fail))
          ((hF.mono (Kn.sub (kd_sub (add := [_])))).snoc (.tuple (.inr (.tail _ (.tail _ (.head _)))) rfl rfl (.cons (.str _ _) (.cons (.str _ _) (.cons (.int _ _) (.cons (.int _ _) .nil)))))) (by dsimp only; rw [hnew, hP]; rfl)
      | bl t =>
        have hdr' := hdr
        simp only [rowDat] at hdr hdr'
        refine di_rowB hdr ?_
        intro a9 t1 t2 t3 t4 ev ht
        clear hdr
        subst ev
        have hin1' : (valueAt kv1 (i : Int)).isSome = false := hin1
        have hVt : t ≤ rows.length := hVr
        have hpt : (placesN ks (ks.length + 1))[((i : Int) + 1 + ((t : Int) - i - 1)).toNat]? = some (cnt ks t : Int) := by
          rw [show ((i : Int) + 1 + ((t : Int) - i - 1)).toNat = t by omega]; exact placesN_at (by omega)
        clear hVr hin2 hin1
        (first | ((try k_unmd); (try k_fold); repeat' (first | (k_unfold; (try dsimp only)) | (first | ((with_reducible show wpAny _ _ (call (Value.ref 77) _) _ _ _); k_here; k_dflt (refine moved_ok (by k_asm) (by k_asm) (by k_asm) (by k_asm) (by rfl) (by (first | ((try dsimp only [ktrTop, Around.deeper, Around.in1]); omega) | fail)) (by (first | ((try dsimp only [ktrTop, Around.deeper, Around.in1]); omega) | fail)) (IsTup.keeps (by with_reducible assumption) (Fr.keep (by k_asm))) (stays_list (Fr.keep (by k_asm)) (by with_reducible assumption)) (by with_reducible assumption) (by first | (with_reducible assumption) | omega | fail) (by first | (with_reducible assumption) | omega | fail) (by first | (with_reducible assumption) | omega | fail) (by with_reducible assumption) (by with_reducible assumption) (by rfl) (by rfl) (by rfl) (after (by k_asm) (by k_asm) ?_); k_whole); (rename News _ _ _ _ => N8); (rename Fr _ _ _ _ => F8); intro r9 h9 tk9 F' N' K' o9; obtain ⟨a9, t9, n9, e9, f9, g9⟩ := o9; subst e9; (have l9 := adopt_ne N8 f9); (replace N' := adopt F8 N' f9 g9); (simp only [LCg.Off1, and_true] at l9); clear F8 N8 K' f9 g9) | ((with_reducible show wpAny _ _ (call (Value.ref 28) _) _ _ _); k_here; k_dflt (refine target_ok (by k_asm) (by k_asm) (by k_asm) (by k_asm) (by rfl) (by (first | ((try dsimp only [ktrTop, Around.deeper, Around.in1]); omega) | fail)) (by (first | ((try dsimp only [ktrTop, Around.deeper, Around.in1]); omega) | fail)) (IsTup.keeps (by with_reducible assumption) (Fr.keep (by k_asm))) (after (by k_asm) (by k_asm) ?_); k_whole); intro r9 h9 tk9 F' N' K' o9; obtain ⟨t9, o9⟩ := o9; subst o9; clear K'; (try k_sweep)) | ((with_reducible show wpAny _ _ (call (Value.ref 21) _) _ _ _); k_here; k_dflt (refine isb_ok (by k_asm) (by k_asm) (by k_asm) (by k_asm) (by rfl) (by (first | ((try dsimp only [ktrTop, Around.deeper, Around.in1]); omega) | fail)) (by (first | ((try dsimp only [ktrTop, Around.deeper, Around.in1]); omega) | fail)) (IsTup.keeps (by with_reducible assumption) (Fr.keep (by k_asm))) (after (by k_asm) (by k_asm) ?_); k_whole); intro r9 h9 tk9 F' N' K' o9; subst o9; clear K'; (try k_sweep)) | fail) | ((first | (fail_if_success (with_reducible first | show wpAny _ _ (call (Value.ref _) _) _ _ _ | show wpAny _ _ (exec (Stmt.While _ _ _ _) _) _ _ _ | show wpAny _ _ (exec (Stmt.For _ _ _ _ _) _) _ _ _ | show wpAny _ _ (pyIter _) _ _ _ | show wpAny _ _ (setItem _ _ _) _ _ _ | show wpAny _ _ (eval (Expr.ListComp _ _ _ _) _) _ _ _ | show wpAny _ _ (exec (Stmt.Assign _ (Expr.ListComp _ _ _ _) _) _) _ _ _ | show InvPostG _ _ _ _ _ _ _ _ | show InvEndG _ _ _ _ _ _ | show OnG _ _ _ _ _ _ _ | show Fin _ _ _ _ _ _ | show KswEnd _ _ _ _ _ _ _ _ _ _ _ _ | show wpAny _ _ (call (Value.builtin "sorted") _) _ _ _ | show LCg.CompEnd _ _ _ _ _ _ _ _ _ _ _ _ _ _ | show LCg.CompSrc _ _ _ _ _ _ _ _ _ _ _ _ _ _ | show LCt.CompSrcT _ _ _ _ _ _ _ _ _ _ _ _ _ _ _)) | fail); first | walk1 | (dsimp only; (try k_fold); (first | (fail_if_success (with_reducible first | show wpAny _ _ (call (Value.ref _) _) _ _ _ | show wpAny _ _ (exec (Stmt.While _ _ _ _) _) _ _ _ | show wpAny _ _ (exec (Stmt.For _ _ _ _ _) _) _ _ _ | show wpAny _ _ (pyIter _) _ _ _ | show wpAny _ _ (setItem _ _ _) _ _ _ | show wpAny _ _ (eval (Expr.ListComp _ _ _ _) _) _ _ _ | show wpAny _ _ (exec (Stmt.Assign _ (Expr.ListComp _ _ _ _) _) _) _ _ _ | show InvPostG _ _ _ _ _ _ _ _ | show InvEndG _ _ _ _ _ _ | show OnG _ _ _ _ _ _ _ | show Fin _ _ _ _ _ _ | show KswEnd _ _ _ _ _ _ _ _ _ _ _ _ | show wpAny _ _ (call (Value.builtin "sorted") _) _ _ _ | show LCg.CompEnd _ _ _ _ _ _ _ _ _ _ _ _ _ _ | show LCg.CompSrc _ _ _ _ _ _ _ _ _ _ _ _ _ _ | show LCt.CompSrcT _ _ _ _ _ _ _ _ _ _ _ _ _ _ _)) | fail); walk1)) | (leave1; walk_say "STEP leave1"; try dsimp only) | fail "no step")) | fail)
        rename Fr _ _ _ _ => F7; rename News _ _ _ _ => N7; rename (_ ≠ _ ∧ _) => l9
        dsimp only [InvPostG]
        rw [List.push_toArray] at N7
        exact end1 (c₁ := [(fl, listOf vs.toArray nn)]) (vs ++ [Value.ref _], ds ++ [newRow ks i (.bl t)], nn + 1) sep F7 N7 rfl l9 rfl (by intro p hp; cases hp) (by (first | (intro z h1 h2 h3; (simp only [List.contains_cons, List.contains_nil, Bool.or_eq_false_iff, beq_eq_false_iff_ne, ne_eq, List.forall_mem_cons, List.mem_cons, List.not_mem_nil, or_false, forall_eq_or_imp, forall_eq] at h1 h2 h3); (simp only [h1, h2, h3, if_false, ite_false, List.contains_cons, List.contains_nil, Bool.or_false, beq_iff_eq, Bool.or_eq_true, or_self, or_false, and_true, not_false_eq_true, Bool.false_eq_true]); done) | fail))
          ((hF.mono (Kn.sub (kd_sub (add := [_])))).snoc (.tuple (.inr (.tail _ (.tail _ (.head _)))) rfl rfl (.cons (.str _ _) (.cons (.str _ _) (.cons (.int _ _) (.cons (.int _ _) .nil)))))) (by dsimp only; rw [hnew, hP]; rfl)
      | imp =>
        have hdr' := hdr
        simp only [rowDat] at hdr hdr'
        refine di_rowB hdr ?_
        intro a9 t1 t2 t3 t4 ev ht
        clear hdr
        subst ev
        have hin1' : (valueAt kv1 (i : Int)).isSome = true := hin1
        have hin2' : (valueAt kv2 (i : Int)).isSome = false := by rw [show valueAt kv2 (i : Int) = none from hin2]; rfl
        clear hVr hin2 hin1
        (first | ((try k_unmd); (try k_fold); repeat' (first | (k_unfold; (try dsimp only)) | (first | ((with_reducible show wpAny _ _ (call (Value.ref 77) _) _ _ _); k_here; k_dflt (refine moved_ok (by k_asm) (by k_asm) (by k_asm) (by k_asm) (by rfl) (by (first | ((try dsimp only [ktrTop, Around.deeper, Around.in1]); omega) | fail)) (by (first | ((try dsimp only [ktrTop, Around.deeper, Around.in1]); omega) | fail)) (IsTup.keeps (by with_reducible assumption) (Fr.keep (by k_asm))) (stays_list (Fr.keep (by k_asm)) (by with_reducible assumption)) (by with_reducible assumption) (by first | (with_reducible assumption) | omega | fail) (by first | (with_reducible assumption) | omega | fail) (by first | (with_reducible assumption) | omega | fail) (by with_reducible assumption) (by with_reducible assumption) (by rfl) (by rfl) (by rfl) (after (by k_asm) (by k_asm) ?_); k_whole); (rename News _ _ _ _ => N8); (rename Fr _ _ _ _ => F8); intro r9 h9 tk9 F' N' K' o9; obtain ⟨a9, t9, n9, e9, f9, g9⟩ := o9; subst e9; (have l9 := adopt_ne N8 f9); (replace N' := adopt F8 N' f9 g9); (simp only [LCg.Off1, and_true] at l9); clear F8 N8 K' f9 g9) | ((with_reducible show wpAny _ _ (call (Value.ref 28) _) _ _ _); k_here; k_dflt (refine target_ok (by k_asm) (by k_asm) (by k_asm) (by k_asm) (by rfl) (by (first | ((try dsimp only [ktrTop, Around.deeper, Around.in1]); omega) | fail)) (by (first | ((try dsimp only [ktrTop, Around.deeper, Around.in1]); omega) | fail)) (IsTup.keeps (by with_reducible assumption) (Fr.keep (by k_asm))) (after (by k_asm) (by k_asm) ?_); k_whole); intro r9 h9 tk9 F' N' K' o9; obtain ⟨t9, o9⟩ := o9; subst o9; clear K'; (try k_sweep)) | ((with_reducible show wpAny _ _ (call (Value.ref 21) _) _ _ _); k_here; k_dflt (refine isb_ok (by k_asm) (by k_asm) (by k_asm) (by k_asm) (by rfl) (by (first | ((try dsimp only [ktrTop, Around.deeper, Around.in1]); omega) | fail)) (by (first | ((try dsimp only [ktrTop, Around.deeper, Around.in1]); omega) | fail)) (IsTup.keeps (by with_reducible assumption) (Fr.keep (by k_asm))) (after (by k_asm) (by k_asm) ?_); k_whole); intro r9 h9 tk9 F' N' K' o9; subst o9; clear K'; (try k_sweep)) | fail) | ((first | (fail_if_success (with_reducible first | show wpAny _ _ (call (Value.ref _) _) _ _ _ | show wpAny _ _ (exec (Stmt.While _ _ _ _) _) _ _ _ | show wpAny _ _ (exec (Stmt.For _ _ _ _ _) _) _ _ _ | show wpAny _ _ (pyIter _) _ _ _ | show wpAny _ _ (setItem _ _ _) _ _ _ | show wpAny _ _ (eval (Expr.ListComp _ _ _ _) _) _ _ _ | show wpAny _ _ (exec (Stmt.Assign _ (Expr.ListComp _ _ _ _) _) _) _ _ _ | show InvPostG _ _ _ _ _ _ _ _ | show InvEndG _ _ _ _ _ _ | show OnG _ _ _ _ _ _ _ | show Fin _ _ _ _ _ _ | show KswEnd _ _ _ _ _ _ _ _ _ _ _ _ | show wpAny _ _ (call (Value.builtin "sorted") _) _ _ _ | show LCg.CompEnd _ _ _ _ _ _ _ _ _ _ _ _ _ _ | show LCg.CompSrc _ _ _ _ _ _ _ _ _ _ _ _ _ _ | show LCt.CompSrcT _ _ _ _ _ _ _ _ _ _ _ _ _ _ _)) | fail); first | walk1 | (dsimp only; (try k_fold); (first | (fail_if_success (with_reducible first | show wpAny _ _ (call (Value.ref _) _) _ _ _ | show wpAny _ _ (exec (Stmt.While _ _ _ _) _) _ _ _ | show wpAny _ _ (exec (Stmt.For _ _ _ _ _) _) _ _ _ | show wpAny _ _ (pyIter _) _ _ _ | show wpAny _ _ (setItem _ _ _) _ _ _ | show wpAny _ _ (eval (Expr.ListComp _ _ _ _) _) _ _ _ | show wpAny _ _ (exec (Stmt.Assign _ (Expr.ListComp _ _ _ _) _) _) _ _ _ | show InvPostG _ _ _ _ _ _ _ _ | show InvEndG _ _ _ _ _ _ | show OnG _ _ _ _ _ _ _ | show Fin _ _ _ _ _ _ | show KswEnd _ _ _ _ _ _ _ _ _ _ _ _ | show wpAny _ _ (call (Value.builtin "sorted") _) _ _ _ | show LCg.CompEnd _ _ _ _ _ _ _ _ _ _ _ _ _ _ | show LCg.CompSrc _ _ _ _ _ _ _ _ _ _ _ _ _ _ | show LCt.CompSrcT _ _ _ _ _ _ _ _ _ _ _ _ _ _ _)) | fail); walk1)) | (leave1; walk_say "STEP leave1"; try dsimp only) | fail "no step")) | fail)
        dsimp only [InvPostG]
        rename News _ _ _ _ => N7
        rw [List.push_toArray] at N7
        exact end0 (vs ++ [Value.ref _], ds ++ [_], nn + 1) sep (by assumption) N7 rfl (by intro p hp; cases hp) (by (first | (intro z h1 h2 h3; (simp only [List.contains_cons, List.contains_nil, Bool.or_eq_false_iff, beq_eq_false_iff_ne, ne_eq, List.forall_mem_cons, List.mem_cons, List.not_mem_nil, or_false, forall_eq_or_imp, forall_eq] at h1 h2 h3); (simp only [h1, h2, h3, if_false, ite_false, List.contains_cons, List.contains_nil, Bool.or_false, beq_iff_eq, Bool.or_eq_true, or_self, or_false, and_true, not_false_eq_true, Bool.false_eq_true]); done) | fail)) (hF.snoc (hdr'.mono Kn.base)) (by dsimp only; rw [hnew, hP]; rfl)
      | addr t =>
        have hdr' := hdr
        simp only [rowDat] at hdr hdr'
        refine di_rowM hdr ?_
        intro a9 t1 t2 t3 t4 ev ht
        clear hdr
        subst ev
        have hVt : t < rows.length := hVr
        obtain ⟨ta, hv2⟩ : ∃ t, valueAt kv2 (i : Int) = some (Value.int (argOf rows i) t) := hin2
        have harg : argOf rows i = t := by unfold argOf; rw [Int.toNat_natCast, hri]
        rw [harg] at hv2
        have hin2' : (valueAt kv2 (i : Int)).isSome = true := by rw [hv2]; rfl
        have hpt : (placesN ks (ks.length + 1))[((t : Int)).toNat]? = some (cnt ks t : Int) := placesN_at (by omega)
        obtain ⟨tp, hut⟩ := hpI.get _ _ hpt
        clear hVr hin1
        (first | ((try k_unmd); (try k_fold); repeat' (first | (k_unfold; (try dsimp only)) | (first | ((with_reducible show wpAny _ _ (call (Value.ref 77) _) _ _ _); k_here; k_dflt (refine moved_ok (by k_asm) (by k_asm) (by k_asm) (by k_asm) (by rfl) (by (first | ((try dsimp only [ktrTop, Around.deeper, Around.in1]); omega) | fail)) (by (first | ((try dsimp only [ktrTop, Around.deeper, Around.in1]); omega) | fail)) (IsTup.keeps (by with_reducible assumption) (Fr.keep (by k_asm))) (stays_list (Fr.keep (by k_asm)) (by with_reducible assumption)) (by with_reducible assumption) (by first | (with_reducible assumption) | omega | fail) (by first | (with_reducible assumption) | omega | fail) (by first | (with_reducible assumption) | omega | fail) (by with_reducible assumption) (by with_reducible assumption) (by rfl) (by rfl) (by rfl) (after (by k_asm) (by k_asm) ?_); k_whole); (rename News _ _ _ _ => N8); (rename Fr _ _ _ _ => F8); intro r9 h9 tk9 F' N' K' o9; obtain ⟨a9, t9, n9, e9, f9, g9⟩ := o9; subst e9; (have l9 := adopt_ne N8 f9); (replace N' := adopt F8 N' f9 g9); (simp only [LCg.Off1, and_true] at l9); clear F8 N8 K' f9 g9) | ((with_reducible show wpAny _ _ (call (Value.ref 28) _) _ _ _); k_here; k_dflt (refine target_ok (by k_asm) (by k_asm) (by k_asm) (by k_asm) (by rfl) (by (first | ((try dsimp only [ktrTop, Around.deeper, Around.in1]); omega) | fail)) (by (first | ((try dsimp only [ktrTop, Around.deeper, Around.in1]); omega) | fail)) (IsTup.keeps (by with_reducible assumption) (Fr.keep (by k_asm))) (after (by k_asm) (by k_asm) ?_); k_whole); intro r9 h9 tk9 F' N' K' o9; obtain ⟨t9, o9⟩ := o9; subst o9; clear K'; (try k_sweep)) | ((with_reducible show wpAny _ _ (call (Value.ref 21) _) _ _ _); k_here; k_dflt (refine isb_ok (by k_asm) (by k_asm) (by k_asm) (by k_asm) (by rfl) (by (first | ((try dsimp only [ktrTop, Around.deeper, Around.in1]); omega) | fail)) (by (first | ((try dsimp only [ktrTop, Around.deeper, Around.in1]); omega) | fail)) (IsTup.keeps (by with_reducible assumption) (Fr.keep (by k_asm))) (after (by k_asm) (by k_asm) ?_); k_whole); intro r9 h9 tk9 F' N' K' o9; subst o9; clear K'; (try k_sweep)) | fail) | ((first | (fail_if_success (with_reducible first | show wpAny _ _ (call (Value.ref _) _) _ _ _ | show wpAny _ _ (exec (Stmt.While _ _ _ _) _) _ _ _ | show wpAny _ _ (exec (Stmt.For _ _ _ _ _) _) _ _ _ | show wpAny _ _ (pyIter _) _ _ _ | show wpAny _ _ (setItem _ _ _) _ _ _ | show wpAny _ _ (eval (Expr.ListComp _ _ _ _) _) _ _ _ | show wpAny _ _ (exec (Stmt.Assign _ (Expr.ListComp _ _ _ _) _) _) _ _ _ | show InvPostG _ _ _ _ _ _ _ _ | show InvEndG _ _ _ _ _ _ | show OnG _ _ _ _ _ _ _ | show Fin _ _ _ _ _ _ | show KswEnd _ _ _ _ _ _ _ _ _ _ _ _ | show wpAny _ _ (call (Value.builtin "sorted") _) _ _ _ | show LCg.CompEnd _ _ _ _ _ _ _ _ _ _ _ _ _ _ | show LCg.CompSrc _ _ _ _ _ _ _ _ _ _ _ _ _ _ | show LCt.CompSrcT _ _ _ _ _ _ _ _ _ _ _ _ _ _ _)) | fail); first | walk1 | (dsimp only; (try k_fold); (first | (fail_if_success (with_reducible first | show wpAny _ _ (call (Value.ref _) _) _ _ _ | show wpAny _ _ (exec (Stmt.While _ _ _ _) _) _ _ _ | show wpAny _ _ (exec (Stmt.For _ _ _ _ _) _) _ _ _ | show wpAny _ _ (pyIter _) _ _ _ | show wpAny _ _ (setItem _ _ _) _ _ _ | show wpAny _ _ (eval (Expr.ListComp _ _ _ _) _) _ _ _ | show wpAny _ _ (exec (Stmt.Assign _ (Expr.ListComp _ _ _ _) _) _) _ _ _ | show InvPostG _ _ _ _ _ _ _ _ | show InvEndG _ _ _ _ _ _ | show OnG _ _ _ _ _ _ _ | show Fin _ _ _ _ _ _ | show KswEnd _ _ _ _ _ _ _ _ _ _ _ _ | show wpAny _ _ (call (Value.builtin "sorted") _) _ _ _ | show LCg.CompEnd _ _ _ _ _ _ _ _ _ _ _ _ _ _ | show LCg.CompSrc _ _ _ _ _ _ _ _ _ _ _ _ _ _ | show LCt.CompSrcT _ _ _ _ _ _ _ _ _ _ _ _ _ _ _)) | fail); walk1)) | (leave1; walk_say "STEP leave1"; try dsimp only) | fail "no step")) | fail)
        rename Fr _ _ _ _ => F7; rename News _ _ _ _ => N7; rename (_ < _ ∧ _) => l9
        dsimp only [InvPostG]
        rw [List.push_toArray] at N7
        exact end1 (c₁ := [(fl, listOf vs.toArray nn)]) (vs ++ [Value.ref _], ds ++ [newRow ks i (.addr t)], nn + 1) sep F7 N7 rfl (off1_lt l9) rfl (by intro p hp; cases hp) (by (first | (intro z h1 h2 h3; (simp only [List.contains_cons, List.contains_nil, Bool.or_eq_false_iff, beq_eq_false_iff_ne, ne_eq, List.forall_mem_cons, List.mem_cons, List.not_mem_nil, or_false, forall_eq_or_imp, forall_eq] at h1 h2 h3); (simp only [h1, h2, h3, if_false, ite_false, List.contains_cons, List.contains_nil, Bool.or_false, beq_iff_eq, Bool.or_eq_true, or_self, or_false, and_true, not_false_eq_true, Bool.false_eq_true]); done) | fail))
          ((hF.mono (Kn.sub (kd_sub (add := [_])))).snoc (.tuple (.inr (.tail _ (.tail _ (.head _)))) rfl rfl (.cons (.str _ _) (.cons (.int _ _) (.cons (.int _ _) (.cons (.int _ _) .nil)))))) (by dsimp only; rw [hnew, hP]; rfl)
      | plain d =>
        have hdr' := hdr
        simp only [rowDat] at hdr hdr'
        refine di_rowM hdr ?_
        intro a9 t1 t2 t3 t4 ev ht
        clear hdr
        subst ev
        have hin2' : (valueAt kv2 (i : Int)).isSome = false := by rw [show valueAt kv2 (i : Int) = none from hin2]; rfl
        clear hVr hin2 hin1
        (first | ((try k_unmd); (try k_fold); repeat' (first | (k_unfold; (try dsimp only)) | (first | ((with_reducible show wpAny _ _ (call (Value.ref 77) _) _ _ _); k_here; k_dflt (refine moved_ok (by k_asm) (by k_asm) (by k_asm) (by k_asm) (by rfl) (by (first | ((try dsimp only [ktrTop, Around.deeper, Around.in1]); omega) | fail)) (by (first | ((try dsimp only [ktrTop, Around.deeper, Around.in1]); omega) | fail)) (IsTup.keeps (by with_reducible assumption) (Fr.keep (by k_asm))) (stays_list (Fr.keep (by k_asm)) (by with_reducible assumption)) (by with_reducible assumption) (by first | (with_reducible assumption) | omega | fail) (by first | (with_reducible assumption) | omega | fail) (by first | (with_reducible assumption) | omega | fail) (by with_reducible assumption) (by with_reducible assumption) (by rfl) (by rfl) (by rfl) (after (by k_asm) (by k_asm) ?_); k_whole); (rename News _ _ _ _ => N8); (rename Fr _ _ _ _ => F8); intro r9 h9 tk9 F' N' K' o9; obtain ⟨a9, t9, n9, e9, f9, g9⟩ := o9; subst e9; (have l9 := adopt_ne N8 f9); (replace N' := adopt F8 N' f9 g9); (simp only [LCg.Off1, and_true] at l9); clear F8 N8 K' f9 g9) | ((with_reducible show wpAny _ _ (call (Value.ref 28) _) _ _ _); k_here; k_dflt (refine target_ok (by k_asm) (by k_asm) (by k_asm) (by k_asm) (by rfl) (by (first | ((try dsimp only [ktrTop, Around.deeper, Around.in1]); omega) | fail)) (by (first | ((try dsimp only [ktrTop, Around.deeper, Around.in1]); omega) | fail)) (IsTup.keeps (by with_reducible assumption) (Fr.keep (by k_asm))) (after (by k_asm) (by k_asm) ?_); k_whole); intro r9 h9 tk9 F' N' K' o9; obtain ⟨t9, o9⟩ := o9; subst o9; clear K'; (try k_sweep)) | ((with_reducible show wpAny _ _ (call (Value.ref 21) _) _ _ _); k_here; k_dflt (refine isb_ok (by k_asm) (by k_asm) (by k_asm) (by k_asm) (by rfl) (by (first | ((try dsimp only [ktrTop, Around.deeper, Around.in1]); omega) | fail)) (by (first | ((try dsimp only [ktrTop, Around.deeper, Around.in1]); omega) | fail)) (IsTup.keeps (by with_reducible assumption) (Fr.keep (by k_asm))) (after (by k_asm) (by k_asm) ?_); k_whole); intro r9 h9 tk9 F' N' K' o9; subst o9; clear K'; (try k_sweep)) | fail) | ((first | (fail_if_success (with_reducible first | show wpAny _ _ (call (Value.ref _) _) _ _ _ | show wpAny _ _ (exec (Stmt.While _ _ _ _) _) _ _ _ | show wpAny _ _ (exec (Stmt.For _ _ _ _ _) _) _ _ _ | show wpAny _ _ (pyIter _) _ _ _ | show wpAny _ _ (setItem _ _ _) _ _ _ | show wpAny _ _ (eval (Expr.ListComp _ _ _ _) _) _ _ _ | show wpAny _ _ (exec (Stmt.Assign _ (Expr.ListComp _ _ _ _) _) _) _ _ _ | show InvPostG _ _ _ _ _ _ _ _ | show InvEndG _ _ _ _ _ _ | show OnG _ _ _ _ _ _ _ | show Fin _ _ _ _ _ _ | show KswEnd _ _ _ _ _ _ _ _ _ _ _ _ | show wpAny _ _ (call (Value.builtin "sorted") _) _ _ _ | show LCg.CompEnd _ _ _ _ _ _ _ _ _ _ _ _ _ _ | show LCg.CompSrc _ _ _ _ _ _ _ _ _ _ _ _ _ _ | show LCt.CompSrcT _ _ _ _ _ _ _ _ _ _ _ _ _ _ _)) | fail); first | walk1 | (dsimp only; (try k_fold); (first | (fail_if_success (with_reducible first | show wpAny _ _ (call (Value.ref _) _) _ _ _ | show wpAny _ _ (exec (Stmt.While _ _ _ _) _) _ _ _ | show wpAny _ _ (exec (Stmt.For _ _ _ _ _) _) _ _ _ | show wpAny _ _ (pyIter _) _ _ _ | show wpAny _ _ (setItem _ _ _) _ _ _ | show wpAny _ _ (eval (Expr.ListComp _ _ _ _) _) _ _ _ | show wpAny _ _ (exec (Stmt.Assign _ (Expr.ListComp _ _ _ _) _) _) _ _ _ | show InvPostG _ _ _ _ _ _ _ _ | show InvEndG _ _ _ _ _ _ | show OnG _ _ _ _ _ _ _ | show Fin _ _ _ _ _ _ | show KswEnd _ _ _ _ _ _ _ _ _ _ _ _ | show wpAny _ _ (call (Value.builtin "sorted") _) _ _ _ | show LCg.CompEnd _ _ _ _ _ _ _ _ _ _ _ _ _ _ | show LCg.CompSrc _ _ _ _ _ _ _ _ _ _ _ _ _ _ | show LCt.CompSrcT _ _ _ _ _ _ _ _ _ _ _ _ _ _ _)) | fail); walk1)) | (leave1; walk_say "STEP leave1"; try dsimp only) | fail "no step")) | fail)
        dsimp only [InvPostG]
        rename News _ _ _ _ => N7
        rw [List.push_toArray] at N7
        exact end0 (vs ++ [Value.ref _], ds ++ [_], nn + 1) sep (by assumption) N7 rfl (by intro p hp; cases hp) (by (first | (intro z h1 h2 h3; (simp only [List.contains_cons, List.contains_nil, Bool.or_eq_false_iff, beq_eq_false_iff_ne, ne_eq, List.forall_mem_cons, List.mem_cons, List.not_mem_nil, or_false, forall_eq_or_imp, forall_eq] at h1 h2 h3); (simp only [h1, h2, h3, if_false, ite_false, List.contains_cons, List.contains_nil, Bool.or_false, beq_iff_eq, Bool.or_eq_true, or_self, or_false, and_true, not_false_eq_true, Bool.false_eq_true]); done) | fail)) (hF.snoc (hdr'.mono Kn.base)) (by dsimp only; rw [hnew, hP]; rfl)
  · intro c tl u h tk off hF hP F6 N6
    obtain ⟨vs, ds, nn⟩ := c
    dsimp only [kstB] at F6 hP hF
    simp only [List.nil_append, List.cons_append] at N6
    dsimp only
    (first | ((try k_unmd); (try k_fold); repeat' (first | (k_unfold; (try dsimp only)) | (first | ((with_reducible show wpAny _ _ (call (Value.ref 77) _) _ _ _); k_here; k_dflt (refine moved_ok (by k_asm) (by k_asm) (by k_asm) (by k_asm) (by rfl) (by (first | ((try dsimp only [ktrTop, Around.deeper, Around.in1]); omega) | fail)) (by (first | ((try dsimp only [ktrTop, Around.deeper, Around.in1]); omega) | fail)) (IsTup.keeps (by with_reducible assumption) (Fr.keep (by k_asm))) (stays_list (Fr.keep (by k_asm)) (by with_reducible assumption)) (by with_reducible assumption) (by first | (with_reducible assumption) | omega | fail) (by first | (with_reducible assumption) | omega | fail) (by first | (with_reducible assumption) | omega | fail) (by with_reducible assumption) (by with_reducible assumption) (by rfl) (by rfl) (by rfl) (after (by k_asm) (by k_asm) ?_); k_whole); (rename News _ _ _ _ => N8); (rename Fr _ _ _ _ => F8); intro r9 h9 tk9 F' N' K' o9; obtain ⟨a9, t9, n9, e9, f9, g9⟩ := o9; subst e9; (have l9 := adopt_ne N8 f9); (replace N' := adopt F8 N' f9 g9); (simp only [LCg.Off1, and_true] at l9); clear F8 N8 K' f9 g9) | ((with_reducible show wpAny _ _ (call (Value.ref 28) _) _ _ _); k_here; k_dflt (refine target_ok (by k_asm) (by k_asm) (by k_asm) (by k_asm) (by rfl) (by (first | ((try dsimp only [ktrTop, Around.deeper, Around.in1]); omega) | fail)) (by (first | ((try dsimp only [ktrTop, Around.deeper, Around.in1]); omega) | fail)) (IsTup.keeps (by with_reducible assumption) (Fr.keep (by k_asm))) (after (by k_asm) (by k_asm) ?_); k_whole); intro r9 h9 tk9 F' N' K' o9; obtain ⟨t9, o9⟩ := o9; subst o9; clear K'; (try k_sweep)) | ((with_reducible show wpAny _ _ (call (Value.ref 21) _) _ _ _); k_here; k_dflt (refine isb_ok (by k_asm) (by k_asm) (by k_asm) (by k_asm) (by rfl) (by (first | ((try dsimp only [ktrTop, Around.deeper, Around.in1]); omega) | fail)) (by (first | ((try dsimp only [ktrTop, Around.deeper, Around.in1]); omega) | fail)) (IsTup.keeps (by with_reducible assumption) (Fr.keep (by k_asm))) (after (by k_asm) (by k_asm) ?_); k_whole); intro r9 h9 tk9 F' N' K' o9; subst o9; clear K'; (try k_sweep)) | fail) | ((first | (fail_if_success (with_reducible first | show wpAny _ _ (call (Value.ref _) _) _ _ _ | show wpAny _ _ (exec (Stmt.While _ _ _ _) _) _ _ _ | show wpAny _ _ (exec (Stmt.For _ _ _ _ _) _) _ _ _ | show wpAny _ _ (pyIter _) _ _ _ | show wpAny _ _ (setItem _ _ _) _ _ _ | show wpAny _ _ (eval (Expr.ListComp _ _ _ _) _) _ _ _ | show wpAny _ _ (exec (Stmt.Assign _ (Expr.ListComp _ _ _ _) _) _) _ _ _ | show InvPostG _ _ _ _ _ _ _ _ | show InvEndG _ _ _ _ _ _ | show OnG _ _ _ _ _ _ _ | show Fin _ _ _ _ _ _ | show KswEnd _ _ _ _ _ _ _ _ _ _ _ _ | show wpAny _ _ (call (Value.builtin "sorted") _) _ _ _ | show LCg.CompEnd _ _ _ _ _ _ _ _ _ _ _ _ _ _ | show LCg.CompSrc _ _ _ _ _ _ _ _ _ _ _ _ _ _ | show LCt.CompSrcT _ _ _ _ _ _ _ _ _ _ _ _ _ _ _)) | fail); first | walk1 | (dsimp only; (try k_fold); (first | (fail_if_success (with_reducible first | show wpAny _ _ (call (Value.ref _) _) _ _ _ | show wpAny _ _ (exec (Stmt.While _ _ _ _) _) _ _ _ | show wpAny _ _ (exec (Stmt.For _ _ _ _ _) _) _ _ _ | show wpAny _ _ (pyIter _) _ _ _ | show wpAny _ _ (setItem _ _ _) _ _ _ | show wpAny _ _ (eval (Expr.ListComp _ _ _ _) _) _ _ _ | show wpAny _ _ (exec (Stmt.Assign _ (Expr.ListComp _ _ _ _) _) _) _ _ _ | show InvPostG _ _ _ _ _ _ _ _ | show InvEndG _ _ _ _ _ _ | show OnG _ _ _ _ _ _ _ | show Fin _ _ _ _ _ _ | show KswEnd _ _ _ _ _ _ _ _ _ _ _ _ | show wpAny _ _ (call (Value.builtin "sorted") _) _ _ _ | show LCg.CompEnd _ _ _ _ _ _ _ _ _ _ _ _ _ _ | show LCg.CompSrc _ _ _ _ _ _ _ _ _ _ _ _ _ _ | show LCt.CompSrcT _ _ _ _ _ _ _ _ _ _ _ _ _ _ _)) | fail); walk1)) | (leave1; walk_say "STEP leave1"; try dsimp only) | fail "no step")) | fail)
    dsimp only
    k_unfold
    rw [List.take_length] at hP
    subst hP
    exact ⟨_, _, _, rfl, F6, fl, vs, _, rfl, fresh_of sub (N6 (fl, _) (.head _)).2.2, (N6 (fl, _) (.head _)).1, hF.mono (Kn.hp F6 N6 fun p hp => .tail _ hp)⟩

section
variable {prog : Program} {w : World} {A : Around} {E : Value → Shared → Prop} {s : Shared} {h₀ : Heap} {L d : Addr} {m : Str → Option Value} {news : List (Addr × Obj)} {Q : Value → Shared → Prop}
theorem sorted_keys {kvs : List (Int × Value)} {keys : List Int} (hh : A.handled = none) (F : Fr h₀ L s.heap m) (N : News h₀ L s.heap news) (hD : s.heap.DictOf (PySem.intKind prog w) d kvs) (lo : (d == sysModules) = false) (hk : kvs.map (·.1) = keys) (hs : keys.Pairwise (· ≤ ·)) (h64 : keys.length < 64)
    (h : ∀ D h' tk vs c, Fr h₀ L h' m → News h₀ L h' ((D, listOf (List.toArray vs) c) :: news) → (∀ q ∈ news, q.1 < D) → IntsAre vs keys → Q (.ref D) { s with heap := h', toks := tk }) :
    wpAny (model prog w) A (call (.builtin "sorted") [.ref d]) Q E s := by
  obtain ⟨ep, hat⟩ := hD.dictAt
  have hlen : kvs.length = keys.length := by rw [← hk, List.length_map]
  refine kdu_sorted (kdl_dict (knd := PySem.intKind prog w) (kvs := kvs) (ep := ep) lo) hh F N hat (by rw [sizeLine_eq]; omega) fun D h' tk vs F' N' l1 hl hv => ?_
  have hI : IntsAre vs keys := kdy_ints (by rw [hl, hlen]) fun j v hj => by
    obtain ⟨k, x, hx, hq⟩ := hv j v hj
    obtain ⟨t, rfl⟩ := Value.isInt_shape hq
    exact ⟨k, by rw [← hk, List.getElem?_map, hx]; rfl, t, rfl⟩
  refine ksk_lsort F' N' (fun o => Upd.head fun p hp => Nat.ne_of_lt (l1 p hp)) rfl hI h64 fun vs' ns' c h'' F'' N'' hI' _ hp hP _ => ?_
  have e : ns' = keys := lks_uniq hp hP hs
  subst e
  exact h D h'' tk vs' c F'' N'' l1 hI'
theorem bd_getItem {K : Type} [DecidableEq K] {knd : KeyKind prog w K} {kvs : List (K × Value)} {k : K} {key v : Value} (F : Fr h₀ L s.heap m) (hD : h₀.DictOf knd d kvs) (hkey : knd.is k key = true) (hl : valueAt kvs k = some v) (h : Q v { s with toks := s.toks + 1 }) :
    wpAny (model prog w) A (getItem (.ref d) key) Q E s := wpAny_getItem_of hkey (hD.keep F.keep).mapOf hl h
theorem bd_item {K : Type} [DecidableEq K] {knd : KeyKind prog w K} {kvs : List (K × Value)} {k : K} {key v : Value} {value slice : PySem.Expr} (F : Fr h₀ L s.heap m) (hD : h₀.DictOf knd d kvs) (hkey : knd.is k key = true) (hl : valueAt kvs k = some v) (h : Q v { s with toks := s.toks + 1 })
    (hs : subscripted slice false (.ref d) key = operate [.ref d, key] (getItem (.ref d) key) := by with_unfolding_all rfl) : wpAny (model prog w) A (subscriptTail value slice (.ref d) key) Q E s :=
  tail_any (hD.keep F.keep).typeIs slot_dict_getitem.lookup (bd_getItem F hD hkey hl h) hs
end
def stackD : Dat := .list [.int (-12), .int (-16)]
def mapsL (mk : List Nat) : List (Int × Dat) := mk.map fun (i : Nat) => ((i : Int) + 1, stackD)
def newMaps (ks : List Bool) (mk : List Nat) : List (Int × Dat) := (mk.filter (stays ks)).map fun (i : Nat) => ((cnt ks i : Int) + 1, stackD)
theorem maps_keys (mk : List Nat) : (mapsL mk).map (·.1) = mk.map fun (i : Nat) => (i : Int) + 1 := by simp [mapsL]
theorem maps_asc {mk : List Nat} (h : mk.Pairwise (· < ·)) : (mk.map fun (i : Nat) => (i : Int) + 1).Pairwise (· ≤ ·) := by
  rw [List.pairwise_map]
  exact h.imp fun h => by omega
theorem maps_find {mk : List Nat} (h : mk.Pairwise (· < ·)) {j : Nat} (hj : j ∈ mk) : ((mapsL mk).find? fun p => p.1 = (j : Int) + 1).map (·.2) = some stackD := by
  induction mk with
  | nil => cases hj
  | cons i mk ih =>
    unfold mapsL at ih ⊢
    rw [List.map_cons, List.find?_cons]
    by_cases q : i = j
    · subst q; simp
    · have q' : ¬ ((i : Int) + 1 = (j : Int) + 1) := by omega
      rcases List.mem_cons.mp hj with e | hj
      · exact absurd e.symm q
      · simp only [q', decide_false]
        exact ih (List.pairwise_cons.mp h).2 hj
theorem cnt_mono (ks : List Bool) {i j : Nat} (h : i ≤ j) : cnt ks i ≤ cnt ks j := by
  unfold cnt
  rw [show ks.take i = (ks.take j).take i by rw [List.take_take, Nat.min_eq_left h]]
  exact (((List.take_sublist i (ks.take j)).filter id).length_le)
theorem cnt_lt (ks : List Bool) {i j : Nat} (h : i < j) (hi : stays ks i = true) : cnt ks i < cnt ks j := by
  have e : ks[i]? = some true := by
    unfold stays at hi
    rw [List.getD_eq_getElem?_getD] at hi
    cases q : ks[i]? with
    | none => rw [q] at hi; cases hi
    | some b => rw [q] at hi; rw [show b = true from hi]
  have h1 := cnt_succ ks i e
  have h2 := cnt_mono ks (show i + 1 ≤ j from h)
  simp only [if_true] at h1
  omega
theorem stored_new {K : Type} [DecidableEq K] {kv : List (K × Value)} {k : K} {v : Value} (h : ∀ p ∈ kv, p.1 ≠ k) : stored kv k v = kv ++ [(k, v)] := by
  unfold stored
  rw [if_neg]
  intro hany
  obtain ⟨p, hp, e⟩ := List.any_eq_true.mp hany
  exact h p hp (of_decide_eq_true e)
theorem newMaps_snoc (ks : List Bool) {mk : List Nat} {i j : Nat} (h : mk[i]? = some j) : newMaps ks (mk.take (i + 1)) = newMaps ks (mk.take i) ++ (if stays ks j then [((cnt ks j : Int) + 1, stackD)] else []) := by
  unfold newMaps
  rw [List.take_add_one, h, Option.toList_some, List.filter_append, List.map_append]
  cases hb : stays ks j <;> simp [hb]
theorem newMaps_keys (ks : List Bool) {mk : List Nat} (hmk : mk.Pairwise (· < ·)) {i j : Nat} (h : mk[i]? = some j) : ∀ p ∈ newMaps ks (mk.take i), p.1 ≠ (cnt ks j : Int) + 1 := by
  intro p hp e
  obtain ⟨a, ha, rfl⟩ := List.mem_map.mp hp
  obtain ⟨ha1, ha2⟩ := List.mem_filter.mp ha
  obtain ⟨b, hb⟩ := List.mem_iff_getElem?.mp ha1
  rw [List.getElem?_take] at hb
  have hbi : b < i := by
    by_cases q : b < i
    · exact q
    · rw [if_neg q] at hb; cases hb
  rw [if_pos hbi] at hb
  have hlt : a < j := by
    obtain ⟨q1, e1⟩ := List.getElem?_eq_some_iff.mp hb
    obtain ⟨q2, e2⟩ := List.getElem?_eq_some_iff.mp h
    have := (List.pairwise_iff_getElem.mp hmk) b i q1 q2 hbi
    rwa [e1, e2] at this
  have := cnt_lt ks hlt ha2
  dsimp only at e
  omega
theorem maps_ok {w : World} {mean : ExcName → Option Value} {mg mb : Str → Option Value} {dp un : Nat} {gd : Option (List Code)} {cn : Str} {cs : Scope} {L a : Addr} {ccd : Value} {cl : List (Str × Addr)} {outer : List Env} {A₀ : Around} {base h₀ : Heap} {m : Str → Option Value} {s : Shared} {Q E : Value → Shared → Prop} {x ld lk lp : Addr} {es : List DictEntry} {kvs us : List Value} {mkv : List (Int × Value)} {mk : List Nat} {ks : List Bool}
    (B : Below A₀ base outer h₀) (F : Fr h₀ L s.heap m) (X : (Mine.hd.heap_1 w.params).In h₀) (T : Top Mine.hd.view_1 (looseW Mine.hd.view_1 []) mean mg mb h₀) (hk : cs.kind = .function) (hd : dp ≤ 480) (hu : un ≤ 480)
    (O : ObjAt s.heap x es) (hm : getL (Str.ofString "maps") es = some (some (.ref ld))) (hmD : s.heap.DictOf (PySem.intKind PySem.Challenge.rw_nu0316_01.row.prog w) ld mkv) (hlo : (ld == sysModules) = false) (hmK : KVs (Hp s.heap) mkv (mapsL mk)) (hmk : mk.Pairwise (· < ·)) (hmn : ∀ i ∈ mk, i < ks.length) (hml : mk.length ≤ 50)
    (hkl : s.heap.IsList lk kvs.toArray) (hkD : DIs (Hp s.heap) kvs (ks.map Dat.bool)) (hkn : ks.length ≤ 100)
    (hpl : s.heap.IsList lp us.toArray) (hpI : IntsAre us (placesN ks (ks.length + 1)))
    (ret : ∀ r h' tk, (∀ b o, s.heap.get? b = some o → b ∉ ([] : List (Addr × Obj)).map (·.1) → h'.get? b = some o) → (fun (h' : Heap) r => ∃ d kvs', r = Value.ref d ∧ s.heap.get? d = none ∧ (d == sysModules) = false ∧ h'.DictOf (PySem.intKind PySem.Challenge.rw_nu0316_01.row.prog w) d kvs' ∧ KVs (Hp h') kvs' (newMaps ks mk)) h' r → Q r { s with heap := h', toks := tk }) :
    wpAny (model PySem.Challenge.rw_nu0316_01.row.prog w) (ktrTop dp un gd cn cs L a ccd cl outer) (call (.ref 91) [.ref x, .ref lk, .ref lp]) Q E s := by
  refine wpAny_call ?_
  w_top off
  k_dflt (first | (refine' code_B ?O ?k1 ?k2 ?k3 ?k10 ?k4 ?kA ?kF ?kK ?k6 ?k7 ?k8 ?k9 ?kB ?kr ?_ ?c2 ?c3 ?c4 ?c5; (case kA | kF => exact rfl); (case kK => assumption); (case k1 | k2 | k3 => k_asm); (case k10 => first | k_asm | exact News.nil); (case k4 => k_asm); (case k6 | k7 => k_is); (case k8 => ((try simp only [depth_deeper, depth_in1, recursionLimit]); (try dsimp only [ktrTop, recursionLimit]); omega)); (case k9 => exact BindsTo.of_eq rfl); (case c5 => decide); (case kB => exact locs rfl); (case c2 | c3 | c4 => exact rfl); (case kr => assumption)) | fail)
  intro g L' h₁ sub F' N' B' X' T'
  replace sub := GSub.all sub
  replace O := O.keeps sub
  replace hkl := stays_list sub hkl
  replace hpl := stays_list sub hpl
  replace hkD : DIs (Hp g) _ _ := hkD.mono sub
  replace hmD := hmD.keep sub
  replace hmK : KVs (Hp g) _ _ := hmK.mono sub
  clear F B X T ret
  (first | ((try k_unmd); (try k_fold); repeat' (first | (k_unfold; (try dsimp only)) | (first | ((with_reducible show wpAny _ _ (subscriptTail _ _ (Value.ref _) (Value.int _ _)) _ _ _); k_here; k_dflt (refine bd_item (knd := PySem.intKind _ _) (by k_asm) (by with_reducible assumption) (intKind_is _ _ _ _) (by with_reducible assumption) ?_ (by with_unfolding_all rfl); k_whole)) | fail) | ((first | (fail_if_success (with_reducible first | show wpAny _ _ (call (Value.ref _) _) _ _ _ | show wpAny _ _ (exec (Stmt.While _ _ _ _) _) _ _ _ | show wpAny _ _ (exec (Stmt.For _ _ _ _ _) _) _ _ _ | show wpAny _ _ (pyIter _) _ _ _ | show wpAny _ _ (setItem _ _ _) _ _ _ | show wpAny _ _ (eval (Expr.ListComp _ _ _ _) _) _ _ _ | show wpAny _ _ (exec (Stmt.Assign _ (Expr.ListComp _ _ _ _) _) _) _ _ _ | show InvPostG _ _ _ _ _ _ _ _ | show InvEndG _ _ _ _ _ _ | show OnG _ _ _ _ _ _ _ | show Fin _ _ _ _ _ _ | show KswEnd _ _ _ _ _ _ _ _ _ _ _ _ | show wpAny _ _ (call (Value.builtin "sorted") _) _ _ _ | show LCg.CompEnd _ _ _ _ _ _ _ _ _ _ _ _ _ _ | show LCg.CompSrc _ _ _ _ _ _ _ _ _ _ _ _ _ _ | show LCt.CompSrcT _ _ _ _ _ _ _ _ _ _ _ _ _ _ _)) | fail); first | walk1 | (dsimp only; (try k_fold); (first | (fail_if_success (with_reducible first | show wpAny _ _ (call (Value.ref _) _) _ _ _ | show wpAny _ _ (exec (Stmt.While _ _ _ _) _) _ _ _ | show wpAny _ _ (exec (Stmt.For _ _ _ _ _) _) _ _ _ | show wpAny _ _ (pyIter _) _ _ _ | show wpAny _ _ (setItem _ _ _) _ _ _ | show wpAny _ _ (eval (Expr.ListComp _ _ _ _) _) _ _ _ | show wpAny _ _ (exec (Stmt.Assign _ (Expr.ListComp _ _ _ _) _) _) _ _ _ | show InvPostG _ _ _ _ _ _ _ _ | show InvEndG _ _ _ _ _ _ | show OnG _ _ _ _ _ _ _ | show Fin _ _ _ _ _ _ | show KswEnd _ _ _ _ _ _ _ _ _ _ _ _ | show wpAny _ _ (call (Value.builtin "sorted") _) _ _ _ | show LCg.CompEnd _ _ _ _ _ _ _ _ _ _ _ _ _ _ | show LCg.CompSrc _ _ _ _ _ _ _ _ _ _ _ _ _ _ | show LCt.CompSrcT _ _ _ _ _ _ _ _ _ _ _ _ _ _ _)) | fail); walk1)) | (leave1; walk_say "STEP leave1"; try dsimp only) | fail "no step")) | fail)
  rename Fr _ _ _ _ => F1; rename News _ _ _ _ => N1
  rename Obj.IsDictOf (intKind _ _) _ [] => hdi
  rename (_ == sysModules) = false => hlo2
  refine For_invV g (by rfl) (by rfl) ?_ (by intro _; with_unfolding_all rfl)
  (first | ((try k_unmd); (try k_fold); repeat' (first | (k_unfold; (try dsimp only)) | (first | ((with_reducible show wpAny _ _ (subscriptTail _ _ (Value.ref _) (Value.int _ _)) _ _ _); k_here; k_dflt (refine bd_item (knd := PySem.intKind _ _) (by k_asm) (by with_reducible assumption) (intKind_is _ _ _ _) (by with_reducible assumption) ?_ (by with_unfolding_all rfl); k_whole)) | fail) | ((first | (fail_if_success (with_reducible first | show wpAny _ _ (call (Value.ref _) _) _ _ _ | show wpAny _ _ (exec (Stmt.While _ _ _ _) _) _ _ _ | show wpAny _ _ (exec (Stmt.For _ _ _ _ _) _) _ _ _ | show wpAny _ _ (pyIter _) _ _ _ | show wpAny _ _ (setItem _ _ _) _ _ _ | show wpAny _ _ (eval (Expr.ListComp _ _ _ _) _) _ _ _ | show wpAny _ _ (exec (Stmt.Assign _ (Expr.ListComp _ _ _ _) _) _) _ _ _ | show InvPostG _ _ _ _ _ _ _ _ | show InvEndG _ _ _ _ _ _ | show OnG _ _ _ _ _ _ _ | show Fin _ _ _ _ _ _ | show KswEnd _ _ _ _ _ _ _ _ _ _ _ _ | show wpAny _ _ (call (Value.builtin "sorted") _) _ _ _ | show LCg.CompEnd _ _ _ _ _ _ _ _ _ _ _ _ _ _ | show LCg.CompSrc _ _ _ _ _ _ _ _ _ _ _ _ _ _ | show LCt.CompSrcT _ _ _ _ _ _ _ _ _ _ _ _ _ _ _)) | fail); first | walk1 | (dsimp only; (try k_fold); (first | (fail_if_success (with_reducible first | show wpAny _ _ (call (Value.ref _) _) _ _ _ | show wpAny _ _ (exec (Stmt.While _ _ _ _) _) _ _ _ | show wpAny _ _ (exec (Stmt.For _ _ _ _ _) _) _ _ _ | show wpAny _ _ (pyIter _) _ _ _ | show wpAny _ _ (setItem _ _ _) _ _ _ | show wpAny _ _ (eval (Expr.ListComp _ _ _ _) _) _ _ _ | show wpAny _ _ (exec (Stmt.Assign _ (Expr.ListComp _ _ _ _) _) _) _ _ _ | show InvPostG _ _ _ _ _ _ _ _ | show InvEndG _ _ _ _ _ _ | show OnG _ _ _ _ _ _ _ | show Fin _ _ _ _ _ _ | show KswEnd _ _ _ _ _ _ _ _ _ _ _ _ | show wpAny _ _ (call (Value.builtin "sorted") _) _ _ _ | show LCg.CompEnd _ _ _ _ _ _ _ _ _ _ _ _ _ _ | show LCg.CompSrc _ _ _ _ _ _ _ _ _ _ _ _ _ _ | show LCt.CompSrcT _ _ _ _ _ _ _ _ _ _ _ _ _ _ _)) | fail); walk1)) | (leave1; walk_say "STEP leave1"; try dsimp only) | fail "no step")) | fail)
  rename_i d0 _ o0 _ _ _ _ _ _
  k_dflt refine sorted_keys (by exact rfl) F1 N1 (hmD.keep F1.keep) hlo (hmK.keys.trans (maps_keys mk)) (maps_asc hmk) (by simp; omega) ?_
  intro D h2 tk2 dvs c2 F2 N2 lt2 hI2
  have lt2' : @LT.lt Nat _ d0 D := lt2 (d0, o0) (.head _)
  (first | ((try k_unmd); (try k_fold); repeat' (first | (k_unfold; (try dsimp only)) | (first | ((with_reducible show wpAny _ _ (subscriptTail _ _ (Value.ref _) (Value.int _ _)) _ _ _); k_here; k_dflt (refine bd_item (knd := PySem.intKind _ _) (by k_asm) (by with_reducible assumption) (intKind_is _ _ _ _) (by with_reducible assumption) ?_ (by with_unfolding_all rfl); k_whole)) | fail) | ((first | (fail_if_success (with_reducible first | show wpAny _ _ (call (Value.ref _) _) _ _ _ | show wpAny _ _ (exec (Stmt.While _ _ _ _) _) _ _ _ | show wpAny _ _ (exec (Stmt.For _ _ _ _ _) _) _ _ _ | show wpAny _ _ (pyIter _) _ _ _ | show wpAny _ _ (setItem _ _ _) _ _ _ | show wpAny _ _ (eval (Expr.ListComp _ _ _ _) _) _ _ _ | show wpAny _ _ (exec (Stmt.Assign _ (Expr.ListComp _ _ _ _) _) _) _ _ _ | show InvPostG _ _ _ _ _ _ _ _ | show InvEndG _ _ _ _ _ _ | show OnG _ _ _ _ _ _ _ | show Fin _ _ _ _ _ _ | show KswEnd _ _ _ _ _ _ _ _ _ _ _ _ | show wpAny _ _ (call (Value.builtin "sorted") _) _ _ _ | show LCg.CompEnd _ _ _ _ _ _ _ _ _ _ _ _ _ _ | show LCg.CompSrc _ _ _ _ _ _ _ _ _ _ _ _ _ _ | show LCt.CompSrcT _ _ _ _ _ _ _ _ _ _ _ _ _ _ _)) | fail); first | walk1 | (dsimp only; (try k_fold); (first | (fail_if_success (with_reducible first | show wpAny _ _ (call (Value.ref _) _) _ _ _ | show wpAny _ _ (exec (Stmt.While _ _ _ _) _) _ _ _ | show wpAny _ _ (exec (Stmt.For _ _ _ _ _) _) _ _ _ | show wpAny _ _ (pyIter _) _ _ _ | show wpAny _ _ (setItem _ _ _) _ _ _ | show wpAny _ _ (eval (Expr.ListComp _ _ _ _) _) _ _ _ | show wpAny _ _ (exec (Stmt.Assign _ (Expr.ListComp _ _ _ _) _) _) _ _ _ | show InvPostG _ _ _ _ _ _ _ _ | show InvEndG _ _ _ _ _ _ | show OnG _ _ _ _ _ _ _ | show Fin _ _ _ _ _ _ | show KswEnd _ _ _ _ _ _ _ _ _ _ _ _ | show wpAny _ _ (call (Value.builtin "sorted") _) _ _ _ | show LCg.CompEnd _ _ _ _ _ _ _ _ _ _ _ _ _ _ | show LCg.CompSrc _ _ _ _ _ _ _ _ _ _ _ _ _ _ | show LCt.CompSrcT _ _ _ _ _ _ _ _ _ _ _ _ _ _ _)) | fail); walk1)) | (leave1; walk_say "STEP leave1"; try dsimp only) | fail "no step")) | fail)
  refine loopL (fun c : Obj × List (Int × Value) × List (Int × Dat) => [(d0, c.1)]) [(D, listOf dvs.toArray c2)] (fun _ => []) (fun L c => c.1.IsDictOf (PySem.intKind PySem.Challenge.rw_nu0316_01.row.prog w) c.2.1 ∧ KVs (Kn g L) c.2.1 c.2.2) [Str.ofString "key"]
    (fun i c => c.2.2 = newMaps ks (mk.take i)) [d0, D] (o0, [], []) rfl (.head _) F2 N2 (by (first | (intro p hp; first | (with_reducible (repeat' (first | exact hp | exact List.mem_append_left _ hp | exact List.mem_append_right _ hp | refine List.mem_cons_of_mem _ ?_)); done) | ((simp only [List.nil_append, List.cons_append, List.append_nil, List.append_assoc, List.mem_cons, List.mem_append, List.not_mem_nil, or_false, false_or] at hp ⊢); first | done | grind)) | fail)) (fun _ => rfl) ⟨hdi, .nil⟩ (by intro p hp; cases hp) rfl ?_ ?_
  · intro c tl i v u h tk own hv sep off hF hP F6 N6
    obtain ⟨o1, kv, l⟩ := c
    dsimp only at hP hF
    obtain ⟨hd1, hkv⟩ := hF
    have hlen2 := hI2.length
    rw [List.length_map] at hlen2
    have hilt : i < mk.length := by rw [← hlen2]; exact (List.getElem?_eq_some_iff.mp hv).1
    obtain ⟨j, hj⟩ : ∃ j, mk[i]? = some j := ⟨_, List.getElem?_eq_getElem hilt⟩
    obtain ⟨tj, hvj⟩ := hI2.get i ((j : Int) + 1) (by rw [List.getElem?_map, hj]; rfl)
    rw [hvj] at hv
    cases hv
    have hjm := List.mem_of_getElem? hj
    have hjn := hmn j hjm
    obtain ⟨b, hb⟩ : ∃ b, ks[j]? = some b := ⟨_, List.getElem?_eq_getElem hjn⟩
    have hst : stays ks j = b := by unfold stays; rw [List.getD_eq_getElem?_getD, hb]; rfl
    obtain ⟨bv, hkb, hdb⟩ := hkD.get (k := j) (d := .bool b) (by rw [List.getElem?_map, hb]; rfl)
    cases hdb
    have hkb' : kvs[((j : Int) + 1 - 1).toNat]? = some (Value.bool b) := by rw [show ((j : Int) + 1 - 1).toNat = j by omega]; exact hkb
    have hpj : (placesN ks (ks.length + 1))[((j : Int) + 1 - 1).toNat]? = some (cnt ks j : Int) := by rw [show ((j : Int) + 1 - 1).toNat = j by omega]; exact placesN_at (by omega)
    obtain ⟨tp, hup⟩ := hpI.get _ _ hpj
    obtain ⟨mv, hmv, hmd⟩ := hmK.at (maps_find hmk hjm)
    dsimp only [kstB] at F6
    simp only [List.nil_append, List.cons_append] at N6
    have hKd := kdMark
    have hj0 : ¬ ((j : Int) + 1 = 0) := by omega
    clear hkb hpj
    cases b with
    | false =>
      (first | ((try k_unmd); (try k_fold); repeat' (first | (k_unfold; (try dsimp only)) | (first | ((with_reducible show wpAny _ _ (subscriptTail _ _ (Value.ref _) (Value.int _ _)) _ _ _); k_here; k_dflt (refine bd_item (knd := PySem.intKind _ _) (by k_asm) (by with_reducible assumption) (intKind_is _ _ _ _) (by with_reducible assumption) ?_ (by with_unfolding_all rfl); k_whole)) | fail) | ((first | (fail_if_success (with_reducible first | show wpAny _ _ (call (Value.ref _) _) _ _ _ | show wpAny _ _ (exec (Stmt.While _ _ _ _) _) _ _ _ | show wpAny _ _ (exec (Stmt.For _ _ _ _ _) _) _ _ _ | show wpAny _ _ (pyIter _) _ _ _ | show wpAny _ _ (setItem _ _ _) _ _ _ | show wpAny _ _ (eval (Expr.ListComp _ _ _ _) _) _ _ _ | show wpAny _ _ (exec (Stmt.Assign _ (Expr.ListComp _ _ _ _) _) _) _ _ _ | show InvPostG _ _ _ _ _ _ _ _ | show InvEndG _ _ _ _ _ _ | show OnG _ _ _ _ _ _ _ | show Fin _ _ _ _ _ _ | show KswEnd _ _ _ _ _ _ _ _ _ _ _ _ | show wpAny _ _ (call (Value.builtin "sorted") _) _ _ _ | show LCg.CompEnd _ _ _ _ _ _ _ _ _ _ _ _ _ _ | show LCg.CompSrc _ _ _ _ _ _ _ _ _ _ _ _ _ _ | show LCt.CompSrcT _ _ _ _ _ _ _ _ _ _ _ _ _ _ _)) | fail); first | walk1 | (dsimp only; (try k_fold); (first | (fail_if_success (with_reducible first | show wpAny _ _ (call (Value.ref _) _) _ _ _ | show wpAny _ _ (exec (Stmt.While _ _ _ _) _) _ _ _ | show wpAny _ _ (exec (Stmt.For _ _ _ _ _) _) _ _ _ | show wpAny _ _ (pyIter _) _ _ _ | show wpAny _ _ (setItem _ _ _) _ _ _ | show wpAny _ _ (eval (Expr.ListComp _ _ _ _) _) _ _ _ | show wpAny _ _ (exec (Stmt.Assign _ (Expr.ListComp _ _ _ _) _) _) _ _ _ | show InvPostG _ _ _ _ _ _ _ _ | show InvEndG _ _ _ _ _ _ | show OnG _ _ _ _ _ _ _ | show Fin _ _ _ _ _ _ | show KswEnd _ _ _ _ _ _ _ _ _ _ _ _ | show wpAny _ _ (call (Value.builtin "sorted") _) _ _ _ | show LCg.CompEnd _ _ _ _ _ _ _ _ _ _ _ _ _ _ | show LCg.CompSrc _ _ _ _ _ _ _ _ _ _ _ _ _ _ | show LCt.CompSrcT _ _ _ _ _ _ _ _ _ _ _ _ _ _ _)) | fail); walk1)) | (leave1; walk_say "STEP leave1"; try dsimp only) | fail "no step")) | fail)
      dsimp only [InvPostG]
      exact end0 (o1, kv, l) sep (by assumption) (by assumption) rfl (by intro p hp; cases hp) (by (first | (intro z h1 h2 h3; (simp only [List.contains_cons, List.contains_nil, Bool.or_eq_false_iff, beq_eq_false_iff_ne, ne_eq, List.forall_mem_cons, List.mem_cons, List.not_mem_nil, or_false, forall_eq_or_imp, forall_eq] at h1 h2 h3); (simp only [h1, h2, h3, if_false, ite_false, List.contains_cons, List.contains_nil, Bool.or_false, beq_iff_eq, Bool.or_eq_true, or_self, or_false, and_true, not_false_eq_true, Bool.false_eq_true]); done) | fail)) ⟨hd1, hkv⟩ (by dsimp only; rw [newMaps_snoc ks hj, hst, hP]; simp)
    | true =>
      cases hmd with
      | list ha hc he hds =>
        cases hds with
        | cons x1 r1 => cases r1 with
          | cons x2 r2 =>
            cases r2; cases x1; cases x2
            have hl9 : g.IsList _ _ := ⟨_, ha, hc, _, he⟩
            have hfr : ∀ p ∈ kv, p.1 ≠ (cnt ks j : Int) + 1 := by
              intro p hp e
              have : p.1 ∈ l.map (·.1) := hkv.keys ▸ List.mem_map_of_mem hp
              obtain ⟨q, hq, e'⟩ := List.mem_map.mp this
              rw [hP] at hq
              exact newMaps_keys ks hmk hj q hq (e'.trans e)
            have hkvl : kv.length ≤ 60 := by
              have h1 := hkv.length
              have h2 : l.length ≤ mk.length := by rw [hP]; unfold newMaps; rw [List.length_map]; exact Nat.le_trans (List.length_filter_le _ _) (by rw [List.length_take]; omega)
              omega
            (first | ((try k_unmd); (try k_fold); repeat' (first | (k_unfold; (try dsimp only)) | (first | ((with_reducible show wpAny _ _ (subscriptTail _ _ (Value.ref _) (Value.int _ _)) _ _ _); k_here; k_dflt (refine bd_item (knd := PySem.intKind _ _) (by k_asm) (by with_reducible assumption) (intKind_is _ _ _ _) (by with_reducible assumption) ?_ (by with_unfolding_all rfl); k_whole)) | fail) | ((first | (fail_if_success (with_reducible first | show wpAny _ _ (call (Value.ref _) _) _ _ _ | show wpAny _ _ (exec (Stmt.While _ _ _ _) _) _ _ _ | show wpAny _ _ (exec (Stmt.For _ _ _ _ _) _) _ _ _ | show wpAny _ _ (pyIter _) _ _ _ | show wpAny _ _ (setItem _ _ _) _ _ _ | show wpAny _ _ (eval (Expr.ListComp _ _ _ _) _) _ _ _ | show wpAny _ _ (exec (Stmt.Assign _ (Expr.ListComp _ _ _ _) _) _) _ _ _ | show InvPostG _ _ _ _ _ _ _ _ | show InvEndG _ _ _ _ _ _ | show OnG _ _ _ _ _ _ _ | show Fin _ _ _ _ _ _ | show KswEnd _ _ _ _ _ _ _ _ _ _ _ _ | show wpAny _ _ (call (Value.builtin "sorted") _) _ _ _ | show LCg.CompEnd _ _ _ _ _ _ _ _ _ _ _ _ _ _ | show LCg.CompSrc _ _ _ _ _ _ _ _ _ _ _ _ _ _ | show LCt.CompSrcT _ _ _ _ _ _ _ _ _ _ _ _ _ _ _)) | fail); first | walk1 | (dsimp only; (try k_fold); (first | (fail_if_success (with_reducible first | show wpAny _ _ (call (Value.ref _) _) _ _ _ | show wpAny _ _ (exec (Stmt.While _ _ _ _) _) _ _ _ | show wpAny _ _ (exec (Stmt.For _ _ _ _ _) _) _ _ _ | show wpAny _ _ (pyIter _) _ _ _ | show wpAny _ _ (setItem _ _ _) _ _ _ | show wpAny _ _ (eval (Expr.ListComp _ _ _ _) _) _ _ _ | show wpAny _ _ (exec (Stmt.Assign _ (Expr.ListComp _ _ _ _) _) _) _ _ _ | show InvPostG _ _ _ _ _ _ _ _ | show InvEndG _ _ _ _ _ _ | show OnG _ _ _ _ _ _ _ | show Fin _ _ _ _ _ _ | show KswEnd _ _ _ _ _ _ _ _ _ _ _ _ | show wpAny _ _ (call (Value.builtin "sorted") _) _ _ _ | show LCg.CompEnd _ _ _ _ _ _ _ _ _ _ _ _ _ _ | show LCg.CompSrc _ _ _ _ _ _ _ _ _ _ _ _ _ _ | show LCt.CompSrcT _ _ _ _ _ _ _ _ _ _ _ _ _ _ _)) | fail); walk1)) | (leave1; walk_say "STEP leave1"; try dsimp only) | fail "no step")) | fail)
            rename Fr _ _ _ _ => F7; rename News _ _ _ _ => N7; rename (_ < _ ∧ _) => l9
            (try dsimp only)
            refine kda_set (knd := PySem.intKind _ _) F7 N7 (by k_updF) hd1 (intKind_is _ _ _ _) (by rw [sizeLine_eq]; omega) ?_
            intro h4 o4 F8 N8 hd4
            rw [stored_new hfr] at hd4
            (first | ((try k_unmd); (try k_fold); repeat' (first | (k_unfold; (try dsimp only)) | (first | ((with_reducible show wpAny _ _ (subscriptTail _ _ (Value.ref _) (Value.int _ _)) _ _ _); k_here; k_dflt (refine bd_item (knd := PySem.intKind _ _) (by k_asm) (by with_reducible assumption) (intKind_is _ _ _ _) (by with_reducible assumption) ?_ (by with_unfolding_all rfl); k_whole)) | fail) | ((first | (fail_if_success (with_reducible first | show wpAny _ _ (call (Value.ref _) _) _ _ _ | show wpAny _ _ (exec (Stmt.While _ _ _ _) _) _ _ _ | show wpAny _ _ (exec (Stmt.For _ _ _ _ _) _) _ _ _ | show wpAny _ _ (pyIter _) _ _ _ | show wpAny _ _ (setItem _ _ _) _ _ _ | show wpAny _ _ (eval (Expr.ListComp _ _ _ _) _) _ _ _ | show wpAny _ _ (exec (Stmt.Assign _ (Expr.ListComp _ _ _ _) _) _) _ _ _ | show InvPostG _ _ _ _ _ _ _ _ | show InvEndG _ _ _ _ _ _ | show OnG _ _ _ _ _ _ _ | show Fin _ _ _ _ _ _ | show KswEnd _ _ _ _ _ _ _ _ _ _ _ _ | show wpAny _ _ (call (Value.builtin "sorted") _) _ _ _ | show LCg.CompEnd _ _ _ _ _ _ _ _ _ _ _ _ _ _ | show LCg.CompSrc _ _ _ _ _ _ _ _ _ _ _ _ _ _ | show LCt.CompSrcT _ _ _ _ _ _ _ _ _ _ _ _ _ _ _)) | fail); first | walk1 | (dsimp only; (try k_fold); (first | (fail_if_success (with_reducible first | show wpAny _ _ (call (Value.ref _) _) _ _ _ | show wpAny _ _ (exec (Stmt.While _ _ _ _) _) _ _ _ | show wpAny _ _ (exec (Stmt.For _ _ _ _ _) _) _ _ _ | show wpAny _ _ (pyIter _) _ _ _ | show wpAny _ _ (setItem _ _ _) _ _ _ | show wpAny _ _ (eval (Expr.ListComp _ _ _ _) _) _ _ _ | show wpAny _ _ (exec (Stmt.Assign _ (Expr.ListComp _ _ _ _) _) _) _ _ _ | show InvPostG _ _ _ _ _ _ _ _ | show InvEndG _ _ _ _ _ _ | show OnG _ _ _ _ _ _ _ | show Fin _ _ _ _ _ _ | show KswEnd _ _ _ _ _ _ _ _ _ _ _ _ | show wpAny _ _ (call (Value.builtin "sorted") _) _ _ _ | show LCg.CompEnd _ _ _ _ _ _ _ _ _ _ _ _ _ _ | show LCg.CompSrc _ _ _ _ _ _ _ _ _ _ _ _ _ _ | show LCt.CompSrcT _ _ _ _ _ _ _ _ _ _ _ _ _ _ _)) | fail); walk1)) | (leave1; walk_say "STEP leave1"; try dsimp only) | fail "no step")) | fail)
            dsimp only [InvPostG]
            exact end1 (c₁ := [(d0, o1)]) (o4, kv ++ [(_, Value.ref _)], l ++ [(_, stackD)]) sep F8 N8 rfl (off1_lt l9) rfl (by intro p hp; cases hp) (by (first | (intro z h1 h2 h3; (simp only [List.contains_cons, List.contains_nil, Bool.or_eq_false_iff, beq_eq_false_iff_ne, ne_eq, List.forall_mem_cons, List.mem_cons, List.not_mem_nil, or_false, forall_eq_or_imp, forall_eq] at h1 h2 h3); (simp only [h1, h2, h3, if_false, ite_false, List.contains_cons, List.contains_nil, Bool.or_false, beq_iff_eq, Bool.or_eq_true, or_self, or_false, and_true, not_false_eq_true, Bool.false_eq_true]); done) | fail))
              ⟨hd4, (hkv.mono (Kn.sub (kd_sub (add := [_])))).append (.cons (.list (.inr (.tail _ (.head _))) rfl rfl (.cons (.int _ _) (.cons (.int _ _) .nil))) .nil)⟩ (by dsimp only; rw [newMaps_snoc ks hj, hst, hP]; rfl)
  · intro c tl u h tk off hF hP F6 N6
    obtain ⟨o1, kv, l⟩ := c
    dsimp only [kstB] at F6 hP hF
    simp only [List.nil_append, List.cons_append] at N6
    have hlen2 := hI2.length
    rw [List.length_map] at hlen2
    rw [hlen2, List.take_length] at hP
    subst hP
    dsimp only
    (first | ((try k_unmd); (try k_fold); repeat' (first | (k_unfold; (try dsimp only)) | (first | ((with_reducible show wpAny _ _ (subscriptTail _ _ (Value.ref _) (Value.int _ _)) _ _ _); k_here; k_dflt (refine bd_item (knd := PySem.intKind _ _) (by k_asm) (by with_reducible assumption) (intKind_is _ _ _ _) (by with_reducible assumption) ?_ (by with_unfolding_all rfl); k_whole)) | fail) | ((first | (fail_if_success (with_reducible first | show wpAny _ _ (call (Value.ref _) _) _ _ _ | show wpAny _ _ (exec (Stmt.While _ _ _ _) _) _ _ _ | show wpAny _ _ (exec (Stmt.For _ _ _ _ _) _) _ _ _ | show wpAny _ _ (pyIter _) _ _ _ | show wpAny _ _ (setItem _ _ _) _ _ _ | show wpAny _ _ (eval (Expr.ListComp _ _ _ _) _) _ _ _ | show wpAny _ _ (exec (Stmt.Assign _ (Expr.ListComp _ _ _ _) _) _) _ _ _ | show InvPostG _ _ _ _ _ _ _ _ | show InvEndG _ _ _ _ _ _ | show OnG _ _ _ _ _ _ _ | show Fin _ _ _ _ _ _ | show KswEnd _ _ _ _ _ _ _ _ _ _ _ _ | show wpAny _ _ (call (Value.builtin "sorted") _) _ _ _ | show LCg.CompEnd _ _ _ _ _ _ _ _ _ _ _ _ _ _ | show LCg.CompSrc _ _ _ _ _ _ _ _ _ _ _ _ _ _ | show LCt.CompSrcT _ _ _ _ _ _ _ _ _ _ _ _ _ _ _)) | fail); first | walk1 | (dsimp only; (try k_fold); (first | (fail_if_success (with_reducible first | show wpAny _ _ (call (Value.ref _) _) _ _ _ | show wpAny _ _ (exec (Stmt.While _ _ _ _) _) _ _ _ | show wpAny _ _ (exec (Stmt.For _ _ _ _ _) _) _ _ _ | show wpAny _ _ (pyIter _) _ _ _ | show wpAny _ _ (setItem _ _ _) _ _ _ | show wpAny _ _ (eval (Expr.ListComp _ _ _ _) _) _ _ _ | show wpAny _ _ (exec (Stmt.Assign _ (Expr.ListComp _ _ _ _) _) _) _ _ _ | show InvPostG _ _ _ _ _ _ _ _ | show InvEndG _ _ _ _ _ _ | show OnG _ _ _ _ _ _ _ | show Fin _ _ _ _ _ _ | show KswEnd _ _ _ _ _ _ _ _ _ _ _ _ | show wpAny _ _ (call (Value.builtin "sorted") _) _ _ _ | show LCg.CompEnd _ _ _ _ _ _ _ _ _ _ _ _ _ _ | show LCg.CompSrc _ _ _ _ _ _ _ _ _ _ _ _ _ _ | show LCt.CompSrcT _ _ _ _ _ _ _ _ _ _ _ _ _ _ _)) | fail); walk1)) | (leave1; walk_say "STEP leave1"; try dsimp only) | fail "no step")) | fail)
    dsimp only
    k_unfold
    exact ⟨_, _, _, rfl, F6, d0, kv, rfl, fresh_of sub (N6 (d0, o1) (.head _)).2.2, hlo2, Heap.dictOf_iff.mpr ⟨o1, (N6 (d0, o1) (.head _)).1, hF.1⟩, hF.2.mono (Kn.hp F6 N6 fun p hp => .tail _ hp)⟩

/-- an attribute's datum -/
def AttD (h : Heap) (es : List DictEntry) (n : Str) (d : Dat) : Prop := ∃ v, getL n es = some (some v) ∧ DI (Hp h) v d
def AttK {K : Type} [DecidableEq K] {prog : Program} {w : World} (knd : KeyKind prog w K) (h : Heap) (es : List DictEntry) (n : Str) (l : List (K × Dat)) : Prop :=
  ∃ d kvs, getL n es = some (some (Value.ref d)) ∧ (d == sysModules) = false ∧ h.DictOf knd d kvs ∧ KVs (Hp h) kvs l
/-- an object's data -/
structure OD where
  name : Dat
  key : Dat
  imports : List Dat
  rows : List Dat
  dsize : Dat
  words : List Dat
  dfix : List Dat
  fixups : List Dat
  entries : List Dat
  pointers : List Dat
  body : Dat
  maps : List (Int × Dat)
  cmds : List (Str × Dat)
structure ObjIs (w : World) (h : Heap) (x : Addr) (es : List DictEntry) (o : OD) : Prop where
  obj : ObjAt h x es
  name : AttD h es (Str.ofString "name") o.name
  key : AttD h es (Str.ofString "key") o.key
  imports : AttD h es (Str.ofString "imports") (.list o.imports)
  rows : AttD h es (Str.ofString "rows") (.list o.rows)
  dsize : AttD h es (Str.ofString "data_size") o.dsize
  words : AttD h es (Str.ofString "words") (.list o.words)
  dfix : AttD h es (Str.ofString "data_fixups") (.list o.dfix)
  fixups : AttD h es (Str.ofString "fixups") (.list o.fixups)
  entries : AttD h es (Str.ofString "entries") (.list o.entries)
  pointers : AttD h es (Str.ofString "pointers") (.list o.pointers)
  body : AttD h es (Str.ofString "body") o.body
  maps : AttK (PySem.intKind PySem.Challenge.rw_nu0316_01.row.prog w) h es (Str.ofString "maps") o.maps
  cmds : AttK (PySem.strKind PySem.Challenge.rw_nu0316_01.row.prog w) h es (Str.ofString "commands") o.cmds
theorem AttD.keeps {h h' : Heap} {es : List DictEntry} {n : Str} {d : Dat} (k : ∀ b o, h.get? b = some o → h'.get? b = some o) (x : AttD h es n d) : AttD h' es n d := let ⟨v, e, hd⟩ := x; ⟨v, e, hd.mono k⟩
theorem AttK.keeps {K : Type} [DecidableEq K] {prog : Program} {w : World} {knd : KeyKind prog w K} {h h' : Heap} {es : List DictEntry} {n : Str} {l : List (K × Dat)} (k : ∀ b o, h.get? b = some o → h'.get? b = some o) (x : AttK knd h es n l) : AttK knd h' es n l :=
  let ⟨d, kvs, e, lo, hd, hk⟩ := x; ⟨d, kvs, e, lo, hd.keep k, hk.mono k⟩
theorem ObjIs.keeps {w : World} {h h' : Heap} {x : Addr} {es : List DictEntry} {o : OD} (k : ∀ b o, h.get? b = some o → h'.get? b = some o) (X : ObjIs w h x es o) : ObjIs w h' x es o :=
  ⟨X.obj.keeps k, X.name.keeps k, X.key.keeps k, X.imports.keeps k, X.rows.keeps k, X.dsize.keeps k, X.words.keeps k, X.dfix.keeps k, X.fixups.keeps k, X.entries.keeps k, X.pointers.keeps k, X.body.keeps k, X.maps.keeps k, X.cmds.keeps k⟩
theorem AttD.list {h : Heap} {es : List DictEntry} {n : Str} {ds : List Dat} (x : AttD h es n (.list ds)) : ∃ l vs, getL n es = some (some (.ref l)) ∧ h.IsList l (List.toArray vs) ∧ DIs (Hp h) vs ds := by
  obtain ⟨v, e, hd⟩ := x
  cases hd with
  | list ha hc he hds => exact ⟨_, _, e, ⟨_, ha, hc, _, he⟩, hds⟩
theorem AttD.int {h : Heap} {es : List DictEntry} {n : Str} {i : Int} (x : AttD h es n (.int i)) : ∃ t, getL n es = some (some (.int i t)) := by
  obtain ⟨v, e, hd⟩ := x
  cases hd
  exact ⟨_, e⟩
theorem AttD.str {h : Heap} {es : List DictEntry} {n : Str} {i : Str} (x : AttD h es n (.str i)) : ∃ t, getL n es = some (some (.str i t)) := by
  obtain ⟨v, e, hd⟩ := x
  cases hd
  exact ⟨_, e⟩
/-- the rows that leave a stack map -/
def mk (rows : List Row) : List Nat := gen (fun i r => if isBL r then [i] else []) 0 rows
def cnst (n : Int) : Dat := .int n
def odOf (rows : List Row) (c g r b : Nat) : OD where
  name := .str (Str.ofString "M")
  key := .int 7
  imports := [.tuple [.str (Str.ofString "N"), .int 9]]
  rows := rowsD rows
  dsize := .int 16
  words := [.tuple [.int 0, .int 5]]
  dfix := [.tuple [.int 4, .int 0, .int 0]]
  fixups := (fixes rows).map Fix.dat
  entries := [.tuple [.str (Str.ofString "data"), .int 8], .tuple [.str (Str.ofString "code"), .int c]]
  pointers := [.int 12]
  body := .int b
  maps := mapsL (mk rows)
  cmds := [(Str.ofString "Go", .int g), (Str.ofString "Run", .int r)]
def newFix (ks : List Bool) (f : Fix) : Dat := .tuple [.int (cnt ks f.row.toNat), .str f.kind, .int f.m, .int f.e]
def newFixes (ks : List Bool) (fx : List Fix) : List Dat := (fx.filter fun f => stays ks f.row.toNat).map (newFix ks)
def odNew (rows : List Row) (ks : List Bool) (c g r b : Nat) : OD where
  name := .str (Str.ofString "M")
  key := .int 7
  imports := [.tuple [.str (Str.ofString "N"), .int 9]]
  rows := newRows ks rows
  dsize := .int 16
  words := [.tuple [.int 0, .int 5]]
  dfix := [.tuple [.int 4, .int 0, .int 0]]
  fixups := newFixes ks (fixes rows)
  entries := [.tuple [.str (Str.ofString "data"), .int 8], .tuple [.str (Str.ofString "code"), .int (cnt ks c)]]
  pointers := [.int 12]
  body := .int (cnt ks b)
  maps := newMaps ks (mk rows)
  cmds := [(Str.ofString "Go", .int (cnt ks g)), (Str.ofString "Run", .int (cnt ks r))]
theorem rowDat_flat (i : Nat) (r : Row) : flatT (rowDat i r) = true := by cases r <;> rfl
theorem newRow_flat (ks : List Bool) (i : Nat) (r : Row) : flatT (newRow ks i r) = true := by cases r <;> rfl
theorem newRows_flat (ks : List Bool) (rows : List Row) : ∀ d ∈ newRows ks rows, flatT d = true := by
  intro d hd
  obtain ⟨k, r, _, h⟩ := gen_mem hd
  split at h
  · rw [List.mem_singleton.mp h]; exact newRow_flat _ _ _
  · cases h
theorem news_both {g h : Heap} {L : Addr} {l l' : List (Addr × Obj)} (N : News g L h l) (N' : News g L h l') : News g L h (l ++ l') := fun q hq => (List.mem_append.mp hq).elim (N q) (N' q)
theorem dict_cls {prog : Program} {w : World} {K : Type} [DecidableEq K] {knd : KeyKind prog w K} {o : Obj} {kvs : List (K × Value)} (h : o.IsDictOf knd kvs) : o.cls = .type "dict" ∧ ¬ SeqO o := by
  obtain ⟨es, ep, hx, hd, _⟩ := h
  refine ⟨hx.1, ?_⟩
  rintro ⟨xs, n, hq⟩
  rw [hd] at hq
  cases hq
theorem tl_off {g h : Heap} {L : Addr} {tl : List (Addr × Obj)} (N : News g L h tl) (ht : ∀ p ∈ tl, TupO p.2) {adr : List Addr} (ha : ∀ a ∈ adr, ∃ o, h.get? a = some o ∧ o.cls ≠ .type "tuple") : OwnOff tl adr := fun p hp b hb =>
  let ⟨_, e, hc⟩ := ha b hb; off_tup N ht e hc p hp
theorem tl_offS {g h : Heap} {L : Addr} {tl : List (Addr × Obj)} (N : News g L h tl) (ht : ∀ p ∈ tl, SeqO p.2) {adr : List Addr} (ha : ∀ a ∈ adr, ∃ o, h.get? a = some o ∧ ¬ SeqO o) : OwnOff tl adr := fun p hp b hb =>
  let ⟨_, e, hc⟩ := ha b hb; off_seq N ht e hc p hp
theorem newFixes_snoc (ks : List Bool) {fx : List Fix} {i : Nat} {f : Fix} (h : fx[i]? = some f) : newFixes ks (fx.take (i + 1)) = newFixes ks (fx.take i) ++ (if stays ks f.row.toNat then [newFix ks f] else []) := by
  unfold newFixes
  rw [List.take_add_one, h, Option.toList_some, List.filter_append, List.map_append]
  cases hb : stays ks f.row.toNat <;> simp [hb]

/-- ObjectFile(name, key): what is made -/
theorem new_ok {w : World} {mean : ExcName → Option Value} {mg mb : Str → Option Value} {dp un : Nat} {gd : Option (List Code)} {cn : Str} {cs : Scope} {L a : Addr} {ccd : Value} {cl : List (Str × Addr)} {outer : List Env} {A₀ : Around} {base h₀ : Heap} {m : Str → Option Value} {s : Shared} {Q E : Value → Shared → Prop} {news : List (Addr × Obj)} {n : Str} {tn : Tok} {k : Int} {tk : Tok}
    (B : Below A₀ base outer h₀) (F : Fr h₀ L s.heap m) (X : (Mine.hd.heap_1 w.params).In h₀) (T : Top Mine.hd.view_1 (looseW Mine.hd.view_1 []) mean mg mb h₀) (hk : cs.kind = .function) (hd : dp ≤ 480) (hu : un ≤ 480) (N : News h₀ L s.heap news)
    (ret : ∀ h' tk' (x dx l1 l2 l3 l4 l5 l6 l7 d1 d2 : Addr) (o1 o2 : Obj) (t0 t1 t2 t3 t4 t5 t6 t7 t8 t9 t10 t11 t12 s1 s2 : Tok), Fr h₀ L h' m →
      News h₀ L h' ((d2, o2) :: (d1, o1) :: (l7, listOf #[] 0) :: (l6, listOf #[] 0) :: (l5, listOf #[] 0) :: (l4, listOf #[] 0) :: (l3, listOf #[] 0) :: (l2, listOf #[] 0) :: (l1, listOf #[] 0) :: (x, instObj 45 dx) ::
        (dx, dictOf [⟨PyData.keyHash w.params (Str.ofString "name"), .str (Str.ofString "name") t0, .str n tn⟩, ⟨PyData.keyHash w.params (Str.ofString "key"), .str (Str.ofString "key") t1, .int k tk⟩,
          ⟨PyData.keyHash w.params (Str.ofString "imports"), .str (Str.ofString "imports") t2, .ref l1⟩, ⟨PyData.keyHash w.params (Str.ofString "rows"), .str (Str.ofString "rows") t3, .ref l2⟩, ⟨PyData.keyHash w.params (Str.ofString "data_size"), .str (Str.ofString "data_size") t4, .int 0 s1⟩,
          ⟨PyData.keyHash w.params (Str.ofString "words"), .str (Str.ofString "words") t5, .ref l3⟩, ⟨PyData.keyHash w.params (Str.ofString "data_fixups"), .str (Str.ofString "data_fixups") t6, .ref l4⟩, ⟨PyData.keyHash w.params (Str.ofString "fixups"), .str (Str.ofString "fixups") t7, .ref l5⟩,
          ⟨PyData.keyHash w.params (Str.ofString "entries"), .str (Str.ofString "entries") t8, .ref l6⟩, ⟨PyData.keyHash w.params (Str.ofString "pointers"), .str (Str.ofString "pointers") t9, .ref l7⟩, ⟨PyData.keyHash w.params (Str.ofString "maps"), .str (Str.ofString "maps") t10, .ref d1⟩,
          ⟨PyData.keyHash w.params (Str.ofString "commands"), .str (Str.ofString "commands") t11, .ref d2⟩, ⟨PyData.keyHash w.params (Str.ofString "body"), .str (Str.ofString "body") t12, .int 0 s2⟩] 13) :: news) →
      LtAll dx (news.map (·.1)) → LtAll x (dx :: news.map (·.1)) → LtAll l1 (x :: dx :: news.map (·.1)) → LtAll l2 (l1 :: x :: dx :: news.map (·.1)) → LtAll l3 (l2 :: l1 :: x :: dx :: news.map (·.1)) → LtAll l4 (l3 :: l2 :: l1 :: x :: dx :: news.map (·.1)) → LtAll l5 (l4 :: l3 :: l2 :: l1 :: x :: dx :: news.map (·.1)) → LtAll l6 (l5 :: l4 :: l3 :: l2 :: l1 :: x :: dx :: news.map (·.1)) → LtAll l7 (l6 :: l5 :: l4 :: l3 :: l2 :: l1 :: x :: dx :: news.map (·.1)) → LtAll d1 (l7 :: l6 :: l5 :: l4 :: l3 :: l2 :: l1 :: x :: dx :: news.map (·.1)) → LtAll d2 (d1 :: l7 :: l6 :: l5 :: l4 :: l3 :: l2 :: l1 :: x :: dx :: news.map (·.1)) →
      (d1 == sysModules) = false → (d2 == sysModules) = false → o1.IsDictOf (PySem.intKind PySem.Challenge.rw_nu0316_01.row.prog w) [] → o2.IsDictOf (PySem.strKind PySem.Challenge.rw_nu0316_01.row.prog w) [] → Q (.ref x) { s with heap := h', toks := tk' }) :
    wpAny (model PySem.Challenge.rw_nu0316_01.row.prog w) (ktrTop dp un gd cn cs L a ccd cl outer) (call (.ref 45) [.str n tn, .int k tk]) Q E s := by
  k_dflt (refine' call_cls ?k1 ?k2 ?k3 ?k4 ?k5 ?k6 ?_; (case k1 => k_asm); (case k2 => k_asm); (case k3 => k_asm); (case k4 => k_is); (case k5 => k_is); (case k6 => k_is); k_whole)
  intro x' d' h' F' N' l1 l2
  have l2' : LtAll x' (d' :: news.map (·.1)) := fun a ha => (List.mem_cons.mp ha).elim (fun e => e ▸ l2) fun ha => Nat.lt_trans (ltAll_of l1 a ha) l2
  k_lt l1
  k_lt2 l2
  k_sweep
  have hKd := kdMark
  k_dflt ktr_enter
  (first | ((try k_unmd); (try k_fold); repeat' (first | (k_unfold; (try dsimp only)) | (fail "none") | ((first | (fail_if_success (with_reducible first | show wpAny _ _ (call (Value.ref _) _) _ _ _ | show wpAny _ _ (exec (Stmt.While _ _ _ _) _) _ _ _ | show wpAny _ _ (exec (Stmt.For _ _ _ _ _) _) _ _ _ | show wpAny _ _ (pyIter _) _ _ _ | show wpAny _ _ (setItem _ _ _) _ _ _ | show wpAny _ _ (eval (Expr.ListComp _ _ _ _) _) _ _ _ | show wpAny _ _ (exec (Stmt.Assign _ (Expr.ListComp _ _ _ _) _) _) _ _ _ | show InvPostG _ _ _ _ _ _ _ _ | show InvEndG _ _ _ _ _ _ | show OnG _ _ _ _ _ _ _ | show Fin _ _ _ _ _ _ | show KswEnd _ _ _ _ _ _ _ _ _ _ _ _ | show wpAny _ _ (call (Value.builtin "sorted") _) _ _ _ | show LCg.CompEnd _ _ _ _ _ _ _ _ _ _ _ _ _ _ | show LCg.CompSrc _ _ _ _ _ _ _ _ _ _ _ _ _ _ | show LCt.CompSrcT _ _ _ _ _ _ _ _ _ _ _ _ _ _ _)) | fail); first | walk1 | (dsimp only; (try k_fold); (first | (fail_if_success (with_reducible first | show wpAny _ _ (call (Value.ref _) _) _ _ _ | show wpAny _ _ (exec (Stmt.While _ _ _ _) _) _ _ _ | show wpAny _ _ (exec (Stmt.For _ _ _ _ _) _) _ _ _ | show wpAny _ _ (pyIter _) _ _ _ | show wpAny _ _ (setItem _ _ _) _ _ _ | show wpAny _ _ (eval (Expr.ListComp _ _ _ _) _) _ _ _ | show wpAny _ _ (exec (Stmt.Assign _ (Expr.ListComp _ _ _ _) _) _) _ _ _ | show InvPostG _ _ _ _ _ _ _ _ | show InvEndG _ _ _ _ _ _ | show OnG _ _ _ _ _ _ _ | show Fin _ _ _ _ _ _ | show KswEnd _ _ _ _ _ _ _ _ _ _ _ _ | show wpAny _ _ (call (Value.builtin "sorted") _) _ _ _ | show LCg.CompEnd _ _ _ _ _ _ _ _ _ _ _ _ _ _ | show LCg.CompSrc _ _ _ _ _ _ _ _ _ _ _ _ _ _ | show LCt.CompSrcT _ _ _ _ _ _ _ _ _ _ _ _ _ _ _)) | fail); walk1)) | (leave1; walk_say "STEP leave1"; try dsimp only) | fail "no step")) | fail)
  (try k_unmd)
  rename Fr h₀ L _ m => F9; rename News h₀ L _ _ => N9
  exact ret _ _ x' d' _ _ _ _ _ _ _ _ _ _ _ _ _ _ _ _ _ _ _ _ _ _ _ _ _ _ F9 N9 (by with_reducible assumption) (by with_reducible assumption) (by with_reducible assumption) (by with_reducible assumption) (by with_reducible assumption) (by with_reducible assumption) (by with_reducible assumption) (by with_reducible assumption) (by with_reducible assumption) (by with_reducible assumption) (by with_reducible assumption) (by with_reducible assumption) (by with_reducible assumption) (by with_reducible assumption) (by with_reducible assumption)

section
variable {prog : Program} {w : World} {A : Around} {E : Value → Shared → Prop} {s : Shared} {env : Env} {h₀ : Heap} {x : Str} {body : List Stmt} {Q : Flow → Shared → Prop}
/-- a for over a dict of the base -/
theorem iterBD {K : Type} [DecidableEq K] {knd : KeyKind prog w K} {d : Addr} {kvs : List (K × Value)} {m₀ : Str → Option Value} {news : List (Addr × Obj)} (J : Nat → (Str → Option Value) → List (Addr × Obj) → Prop)
    (hh : A.handled = none) (lo : (d == sysModules) = false) (hl : h₀.DictOf knd d kvs) (F : Fr h₀ env.locals s.heap m₀) (N : News h₀ env.locals s.heap news) (hj : J 0 m₀ news)
    (turn : ∀ i k y v m₁ news₁ h tk own, kvs[i]? = some (k, y) → knd.is k v = true → OwnOff own (news₁.map (·.1)) → J i m₁ news₁ → Fr h₀ env.locals h (fun y => if y = x then some v else m₁ y) → News h₀ env.locals h (news₁ ++ own) →
      wpAny (model prog w) A (execs body env) (InvPostG h₀ env.locals (J (i + 1)) own { s with heap := h, toks := tk } Q) E { s with heap := h, toks := tk })
    (done : ∀ m₁ news₁ h tk, J kvs.length m₁ news₁ → Fr h₀ env.locals h m₁ → News h₀ env.locals h news₁ → Q .next { s with heap := h, toks := tk }) :
    wpAny (model prog w) A (pyIter (.ref d)) (fun it s₂ => LoopAtV prog w A h₀ env x body Q E it s₂) E s := by
  obtain ⟨od, hod, hpd⟩ := Heap.dictOf_iff.mp hl
  have hls : s.heap.DictOf knd d kvs := hl.keep F.keep
  obtain ⟨ep, hat⟩ := hls.dictAt
  have hlt : d < h₀.objs.size := Heap.lt_size hod
  have hne : d ≠ s.heap.objs.size := Nat.ne_of_lt hat.lt_size
  refine wpAny_pyIter_dict lo hat ?_
  refine ⟨_, _, _, kvs.length, _, _, m₀, news, J, rfl, Walks.dictKeys (prog := prog) (w := w) (knd := knd) hh s.heap.objs.size d hne kvs ep, ?_, ?_, ?_, ⟨⟨_, Heap.get?_push_size _ rfl, rfl, rfl⟩, hat.push _⟩, F.push _, (fun p hp => ⟨Heap.get?_push_of_some _ (N p hp).1, (N p hp).2⟩), hj, ?_, ?_⟩
  · intro hm
    rcases List.mem_cons.mp hm with e | hm
    · exact absurd F.ns.lt (e ▸ Nat.lt_irrefl _)
    · exact absurd (Nat.lt_of_lt_of_le hlt F.above) ((List.mem_singleton.mp hm) ▸ Nat.lt_irrefl _)
  · intro b hb
    rw [List.mem_singleton.mp hb]
    exact next_is_new F
  · intro p hp hI
    exact absurd (Heap.lt_size (N p hp).1) ((List.mem_singleton.mp hI) ▸ Nat.lt_irrefl _)
  · rintro i v m₁ news₁ s₁ own ⟨hh', tk', rfl⟩ hin ⟨k, y, hP, hkv⟩ hJ hoff hown _ hfp hst F₁ N₁
    have hI0 : h₀.get? s.heap.objs.size = none := next_is_new F
    obtain ⟨⟨oI, hoI, _⟩, _⟩ := id hst
    have hIown : (s.heap.objs.size, oI) ∈ own := hfp _ (List.mem_cons.mpr (.inl rfl)) hI0 _ hoI
    have hsep : OwnOff own (news₁.map (·.1)) := by
      intro p hp b hb e
      obtain ⟨q, hq, rfl⟩ := List.mem_map.mp hb
      rcases List.mem_cons.mp (hown p hp) with h1 | h1
      · exact hoff q hq (List.mem_singleton.mpr (e ▸ h1))
      · have h2 := List.mem_singleton.mp h1
        have h3 := (N₁ q (List.mem_append.mpr (.inr hq))).2.2
        rw [← e, h2, hod] at h3
        cases h3
    have N₂ : News h₀ env.locals hh' (news₁ ++ own) := fun p hp => N₁ p ((List.mem_append.mp hp).elim (fun h => List.mem_append.mpr (.inr h)) fun h => List.mem_append.mpr (.inl h))
    refine wpAny_mono (turn i k y v m₁ news₁ hh' tk' own hP hkv hsep hJ F₁ N₂) (fun f s₂ p => ?_) fun _ _ e => e
    have fin : InvEndG h₀ env.locals (J (i + 1)) own { s with heap := hh', toks := tk' } s₂ → LoopStepU h₀ env.locals [s.heap.objs.size] own (J (i + 1)) { s with heap := hh', toks := tk' } .next s₂ := by
      rintro ⟨h', tk, m', news', nx, e, F', N', hn, ho, ha, hm⟩
      refine ⟨rfl, h', tk, m', nx, e, F', fun p hp => N' p ((List.mem_append.mp hp).elim (ho p) (hn p)), fun p hp hq => ?_, hm⟩
      exact ha _ hIown p.1 (List.mem_map.mpr ⟨p, hp, rfl⟩) (List.mem_singleton.mp hq).symm
    cases f with
    | ret v => exact .ret p
    | brk => exact .brk p
    | next => exact .next (fin p)
    | cont => exact .cont (fin p)
  · rintro h' tk m' news' F' N' _ hJ
    exact done m' news' h' tk hJ F' N'
set_option maxHeartbeats 3200000 in
theorem loopBD {K : Type} [DecidableEq K] {knd : KeyKind prog w K} {σ : Type} {d : Addr} {kvs : List (K × Value)} {m₀ : Str → Option Value} {news : List (Addr × Obj)} (Led : σ → List (Addr × Obj)) (cst : List (Addr × Obj)) (ps : σ → List (Str × Value)) (Facts : List (Addr × Obj) → σ → Prop) (stored : List Str) (P : Nat → σ → Prop) (adr : List Addr) (c₀ : σ)
    (hh : A.handled = none) (lo : (d == sysModules) = false) (hl : h₀.DictOf knd d kvs) (F : Fr h₀ env.locals s.heap m₀) (N : News h₀ env.locals s.heap news) (hn : ∀ p ∈ Led c₀ ++ (cst ++ []), p ∈ news) (hadr : ∀ c, (Led c ++ cst).map (·.1) = adr) (hf : Facts (cst ++ []) c₀) (hk : ∀ p ∈ ps c₀, m₀ p.1 = some p.2) (hp : P 0 c₀)
    (turn : ∀ (c : σ) tl i k y v (u : Str → Option Value) h tk own, kvs[i]? = some (k, y) → knd.is k v = true → KdSep own tl adr → OwnOff (tl ++ own) adr → Facts (cst ++ tl) c → P i c →
      Fr h₀ env.locals h (fun y => if y = x then some v else kstB (fun z => if stored.contains z then u z else m₀ z) (ps c) y) → News h₀ env.locals h (Led c ++ (cst ++ (tl ++ own))) →
      wpAny (model prog w) A (execs body env) (InvPostG h₀ env.locals (KdS Led cst ps Facts x stored m₀ P adr (i + 1)) own { s with heap := h, toks := tk } Q) E { s with heap := h, toks := tk })
    (done : ∀ (c : σ) tl (u : Str → Option Value) h tk, OwnOff tl adr → Facts (cst ++ tl) c → P kvs.length c → Fr h₀ env.locals h (fun y => if y = x then u y else kstB (fun z => if stored.contains z then u z else m₀ z) (ps c) y) → News h₀ env.locals h (Led c ++ (cst ++ tl)) → Q .next { s with heap := h, toks := tk }) :
    wpAny (model prog w) A (pyIter (.ref d)) (fun it s₂ => LoopAtV prog w A h₀ env x body Q E it s₂) E s := by
  refine iterBD (fun i m nx => KdS Led cst ps Facts x stored m₀ P adr i m nx) hh lo hl F (fun p hp => N p (hn p hp)) ⟨c₀, [], rfl, fun _ hp => (nomatch hp), hf, hk, fun _ _ _ _ => rfl, hp⟩ ?_ ?_
  · rintro i k y v m₁ nx h tk own hv hkv hoff ⟨c, tl, rfl, ht, hf', h1, h2, hp'⟩ F₁ N₁
    obtain ⟨o1, o2⟩ := kd_split (hadr c) hoff
    rw [List.append_assoc, List.append_assoc] at N₁
    exact turn c tl i k y v m₁ h tk own hv hkv ⟨o1, o2, ht⟩ (kd_off o1 ht) hf' hp' (kst_fr h1 h2 F₁) N₁
  · rintro m₁ nx h tk ⟨c, tl, rfl, ht, hf', h1, h2, hp'⟩ F₁ N₁
    exact done c tl m₁ h tk ht hf' hp' (kst_frOut h1 h2 F₁) N₁
end

theorem news_take {g h : Heap} {L : Addr} {l : List (Addr × Obj)} (k : Nat) (N : News g L h l) : News g L h (l.take k) := fun q hq => N q (List.mem_of_mem_take hq)
theorem off_join {tl t2 : List (Addr × Obj)} {adr adr2 : List Addr} (h1 : OwnOff tl adr) (hs : ∀ b ∈ adr2, b ∈ adr) (h2 : OwnOff t2 adr2) : OwnOff (tl ++ t2) adr2 := fun q hq b hb =>
  (List.mem_append.mp hq).elim (fun h => h1 q h b (hs b hb)) fun h => h2 q h b hb
theorem mk_in {i : Nat} {l : List Row} {x : Nat} (h : x ∈ gen (fun i r => if isBL r then [i] else []) i l) : i ≤ x ∧ x < i + l.length := by
  obtain ⟨k, r, e, hx⟩ := gen_mem h
  have hk := (List.getElem?_eq_some_iff.mp e).1
  split at hx
  · have := List.mem_singleton.mp hx; omega
  · cases hx
theorem mk_pairwise (rows : List Row) : (mk rows).Pairwise (· < ·) := by
  have : ∀ (l : List Row) (i : Nat), (gen (fun i r => if isBL r then [i] else []) i l).Pairwise (· < ·) := by
    intro l
    induction l with
    | nil => intro i; exact .nil
    | cons r l ih =>
      intro i
      rw [gen]
      split
      · exact .cons (fun x hx => by have := mk_in hx; omega) (ih (i + 1))
      · exact ih (i + 1)
  exact this rows 0
theorem mk_lt (rows : List Row) : ∀ i ∈ mk rows, i < rows.length := fun i h => by have := mk_in h; omega
theorem mk_len (rows : List Row) : (mk rows).length ≤ rows.length := by
  have : ∀ (l : List Row) (i : Nat), (gen (fun i r => if isBL r then [i] else []) i l).length ≤ l.length := by
    intro l
    induction l with
    | nil => intro i; exact Nat.le_refl _
    | cons r l ih =>
      intro i
      rw [gen, List.length_append, List.length_cons]
      have h1 := ih (i + 1)
      have h2 : (if isBL r then [i] else []).length ≤ 1 := by split <;> simp
      omega
  exact this rows 0
theorem lst_att {g h : Heap} {L a : Addr} {l : List (Addr × Obj)} {vs : List Value} {n : Nat} {es : List DictEntry} {name : Str} {ds : List Dat} (N : News g L h l) (hm : (a, listOf vs.toArray n) ∈ l) (e : getL name es = some (some (Value.ref a))) (hd : DIs (Hp h) vs ds) : AttD h es name (.list ds) := ⟨_, e, .list (N _ hm).1 rfl rfl hd⟩
theorem newFixes_flat (ks : List Bool) (fx : List Fix) : ∀ d ∈ newFixes ks fx, flatT d = true := by
  intro d hd
  unfold newFixes at hd
  obtain ⟨f, _, rfl⟩ := List.mem_map.mp hd
  rfl
/-- the object's own parts are new -/
structure Fresh (H h : Heap) (x : Addr) (es : List DictEntry) : Prop where
  inst : ∃ dx n, h.get? x = some (instObj 45 dx) ∧ h.get? dx = some (dictOf es n) ∧ H.get? x = none ∧ H.get? dx = none
  maps : ∀ d, getL (Str.ofString "maps") es = some (some (.ref d)) → H.get? d = none
  cmds : ∀ d, getL (Str.ofString "commands") es = some (some (.ref d)) → H.get? d = none
theorem remap_ok {w : World} {mean : ExcName → Option Value} {mg mb : Str → Option Value} {dp un : Nat} {gd : Option (List Code)} {cn : Str} {cs : Scope} {L a : Addr} {ccd : Value} {cl : List (Str × Addr)} {outer : List Env} {A₀ : Around} {base h₀ : Heap} {m : Str → Option Value} {s : Shared} {Q E : Value → Shared → Prop} {x lr lk : Addr} {es : List DictEntry} {rvs kvs : List Value} {rows : List Row} {ks : List Bool} {c₀ gg r b : Nat}
    (B : Below A₀ base outer h₀) (F : Fr h₀ L s.heap m) (X : (Mine.hd.heap_1 w.params).In h₀) (T : Top Mine.hd.view_1 (looseW Mine.hd.view_1 []) mean mg mb h₀) (hk : cs.kind = .function) (hd : dp ≤ 470) (hu : un ≤ 470)
    (O : ObjIs w s.heap x es (odOf rows c₀ gg r b)) (hr : getL (Str.ofString "rows") es = some (some (.ref lr)))
    (hkl : s.heap.IsList lk kvs.toArray) (hkD : DIs (Hp s.heap) kvs (ks.map Dat.bool)) (hkn : ks.length = rows.length)
    (hn : rows.length ≤ 50) (hV : ∀ r ∈ rows, Valid rows.length r) (hc : c₀ < rows.length) (hg : gg < rows.length) (hrr : r < rows.length) (hb : b < rows.length)
    (ret : ∀ r' h' tk, (∀ b o, s.heap.get? b = some o → b ∉ ([] : List (Addr × Obj)).map (·.1) → h'.get? b = some o) → (fun (h' : Heap) r' => ∃ x' es', r' = Value.ref x' ∧ ObjIs w h' x' es' (odNew rows ks c₀ gg r b) ∧ Fresh s.heap h' x' es') h' r' → Q r' { s with heap := h', toks := tk }) :
    wpAny (model PySem.Challenge.rw_nu0316_01.row.prog w) (ktrTop dp un gd cn cs L a ccd cl outer) (call (.ref 98) [.ref x, .ref lr, .ref lk]) Q E s := by
  refine wpAny_call ?_
  w_top off
  k_dflt (first | (refine' code_B ?O ?k1 ?k2 ?k3 ?k10 ?k4 ?kA ?kF ?kK ?k6 ?k7 ?k8 ?k9 ?kB ?kr ?_ ?c2 ?c3 ?c4 ?c5; (case kA | kF => exact rfl); (case kK => assumption); (case k1 | k2 | k3 => k_asm); (case k10 => first | k_asm | exact News.nil); (case k4 => k_asm); (case k6 | k7 => k_is); (case k8 => ((try simp only [depth_deeper, depth_in1, recursionLimit]); (try dsimp only [ktrTop, recursionLimit]); omega)); (case k9 => exact BindsTo.of_eq rfl); (case c5 => decide); (case kB => exact locs rfl); (case c2 | c3 | c4 => exact rfl); (case kr => assumption)) | fail)
  intro g L' h₁ sub F' N' B' X' T'
  replace sub := GSub.all sub
  replace O := O.keeps sub
  replace hkl := stays_list sub hkl
  replace hkD : DIs (Hp g) _ _ := hkD.mono sub
  have hkl' := hkD.length
  rw [List.length_map] at hkl'
  obtain ⟨tn, hname⟩ := O.name.str
  obtain ⟨tk7, hkey⟩ := O.key.int
  obtain ⟨li, vi, hi1, hi2, hi3⟩ := O.imports.list
  obtain ⟨lr', vr, hr1, hr2, hr3⟩ := O.rows.list
  rw [hr] at hr1
  cases hr1
  obtain ⟨td, hds⟩ := O.dsize.int
  obtain ⟨lw, vw, hw1, hw2, hw3⟩ := O.words.list
  obtain ⟨ldf, vdf, hdf1, hdf2, hdf3⟩ := O.dfix.list
  obtain ⟨lf, vf, hf1, hf2, hf3⟩ := O.fixups.list
  obtain ⟨le, ve, he1, he2, he3⟩ := O.entries.list
  obtain ⟨lp, vp, hp1, hp2, hp3⟩ := O.pointers.list
  obtain ⟨tb, hbody⟩ := O.body.int
  obtain ⟨ldm, mkv, hm1, hm2, hm3, hm4⟩ := O.maps
  obtain ⟨ldc, ckv, hc1, hc2, hc3, hc4⟩ := O.cmds
  have Ob := O.obj
  clear F B X T ret
  (first | ((try k_unmd); (try k_fold); repeat' (first | (k_unfold; (try dsimp only)) | (first | ((with_reducible show wpAny _ _ (subscriptTail _ _ (Value.ref _) (Value.str _ _)) _ _ _); k_here; k_dflt (refine bd_item (knd := PySem.strKind _ _) (by k_asm) (by with_reducible assumption) (strKind_is _ _ _ _) (by with_reducible assumption) ?_ (by with_unfolding_all rfl); k_whole)) | ((with_reducible show wpAny _ _ (subscriptTail _ _ (Value.ref _) (Value.int _ _)) _ _ _); k_here; k_dflt (refine bd_item (knd := PySem.intKind _ _) (by k_asm) (by with_reducible assumption) (intKind_is _ _ _ _) (by with_reducible assumption) ?_ (by with_unfolding_all rfl); k_whole)) | fail) | ((first | (fail_if_success (with_reducible first | show wpAny _ _ (call (Value.ref _) _) _ _ _ | show wpAny _ _ (exec (Stmt.While _ _ _ _) _) _ _ _ | show wpAny _ _ (exec (Stmt.For _ _ _ _ _) _) _ _ _ | show wpAny _ _ (pyIter _) _ _ _ | show wpAny _ _ (setItem _ _ _) _ _ _ | show wpAny _ _ (eval (Expr.ListComp _ _ _ _) _) _ _ _ | show wpAny _ _ (exec (Stmt.Assign _ (Expr.ListComp _ _ _ _) _) _) _ _ _ | show InvPostG _ _ _ _ _ _ _ _ | show InvEndG _ _ _ _ _ _ | show OnG _ _ _ _ _ _ _ | show Fin _ _ _ _ _ _ | show KswEnd _ _ _ _ _ _ _ _ _ _ _ _ | show wpAny _ _ (call (Value.builtin "sorted") _) _ _ _ | show LCg.CompEnd _ _ _ _ _ _ _ _ _ _ _ _ _ _ | show LCg.CompSrc _ _ _ _ _ _ _ _ _ _ _ _ _ _ | show LCt.CompSrcT _ _ _ _ _ _ _ _ _ _ _ _ _ _ _)) | fail); first | walk1 | (dsimp only; (try k_fold); (first | (fail_if_success (with_reducible first | show wpAny _ _ (call (Value.ref _) _) _ _ _ | show wpAny _ _ (exec (Stmt.While _ _ _ _) _) _ _ _ | show wpAny _ _ (exec (Stmt.For _ _ _ _ _) _) _ _ _ | show wpAny _ _ (pyIter _) _ _ _ | show wpAny _ _ (setItem _ _ _) _ _ _ | show wpAny _ _ (eval (Expr.ListComp _ _ _ _) _) _ _ _ | show wpAny _ _ (exec (Stmt.Assign _ (Expr.ListComp _ _ _ _) _) _) _ _ _ | show InvPostG _ _ _ _ _ _ _ _ | show InvEndG _ _ _ _ _ _ | show OnG _ _ _ _ _ _ _ | show Fin _ _ _ _ _ _ | show KswEnd _ _ _ _ _ _ _ _ _ _ _ _ | show wpAny _ _ (call (Value.builtin "sorted") _) _ _ _ | show LCg.CompEnd _ _ _ _ _ _ _ _ _ _ _ _ _ _ | show LCg.CompSrc _ _ _ _ _ _ _ _ _ _ _ _ _ _ | show LCt.CompSrcT _ _ _ _ _ _ _ _ _ _ _ _ _ _ _)) | fail); walk1)) | (leave1; walk_say "STEP leave1"; try dsimp only) | fail "no step")) | fail)
  rename Fr _ _ _ _ => F1
  k_dflt refine places_ok (by k_asm) (by k_asm) (by k_asm) (by k_asm) rfl (by (first | ((try dsimp only [ktrTop, Around.deeper, Around.in1]); omega) | fail)) (by (first | ((try dsimp only [ktrTop, Around.deeper, Around.in1]); omega) | fail)) (stays_list F1.keep hkl) (hkD.mono F1.keep) (by omega) (after (by k_asm) (by k_asm) ?_)
  rintro r1 h1 tk1 F2 N2 K2 ⟨p, us, pn, rfl, pfr, pobj, hpI⟩
  replace N2 := adopt F1 N2 pfr pobj
  clear F1 K2 pfr pobj
  (try dsimp only)
  (first | ((try k_unmd); (try k_fold); repeat' (first | (k_unfold; (try dsimp only)) | (first | ((with_reducible show wpAny _ _ (subscriptTail _ _ (Value.ref _) (Value.str _ _)) _ _ _); k_here; k_dflt (refine bd_item (knd := PySem.strKind _ _) (by k_asm) (by with_reducible assumption) (strKind_is _ _ _ _) (by with_reducible assumption) ?_ (by with_unfolding_all rfl); k_whole)) | ((with_reducible show wpAny _ _ (subscriptTail _ _ (Value.ref _) (Value.int _ _)) _ _ _); k_here; k_dflt (refine bd_item (knd := PySem.intKind _ _) (by k_asm) (by with_reducible assumption) (intKind_is _ _ _ _) (by with_reducible assumption) ?_ (by with_unfolding_all rfl); k_whole)) | fail) | ((first | (fail_if_success (with_reducible first | show wpAny _ _ (call (Value.ref _) _) _ _ _ | show wpAny _ _ (exec (Stmt.While _ _ _ _) _) _ _ _ | show wpAny _ _ (exec (Stmt.For _ _ _ _ _) _) _ _ _ | show wpAny _ _ (pyIter _) _ _ _ | show wpAny _ _ (setItem _ _ _) _ _ _ | show wpAny _ _ (eval (Expr.ListComp _ _ _ _) _) _ _ _ | show wpAny _ _ (exec (Stmt.Assign _ (Expr.ListComp _ _ _ _) _) _) _ _ _ | show InvPostG _ _ _ _ _ _ _ _ | show InvEndG _ _ _ _ _ _ | show OnG _ _ _ _ _ _ _ | show Fin _ _ _ _ _ _ | show KswEnd _ _ _ _ _ _ _ _ _ _ _ _ | show wpAny _ _ (call (Value.builtin "sorted") _) _ _ _ | show LCg.CompEnd _ _ _ _ _ _ _ _ _ _ _ _ _ _ | show LCg.CompSrc _ _ _ _ _ _ _ _ _ _ _ _ _ _ | show LCt.CompSrcT _ _ _ _ _ _ _ _ _ _ _ _ _ _ _)) | fail); first | walk1 | (dsimp only; (try k_fold); (first | (fail_if_success (with_reducible first | show wpAny _ _ (call (Value.ref _) _) _ _ _ | show wpAny _ _ (exec (Stmt.While _ _ _ _) _) _ _ _ | show wpAny _ _ (exec (Stmt.For _ _ _ _ _) _) _ _ _ | show wpAny _ _ (pyIter _) _ _ _ | show wpAny _ _ (setItem _ _ _) _ _ _ | show wpAny _ _ (eval (Expr.ListComp _ _ _ _) _) _ _ _ | show wpAny _ _ (exec (Stmt.Assign _ (Expr.ListComp _ _ _ _) _) _) _ _ _ | show InvPostG _ _ _ _ _ _ _ _ | show InvEndG _ _ _ _ _ _ | show OnG _ _ _ _ _ _ _ | show Fin _ _ _ _ _ _ | show KswEnd _ _ _ _ _ _ _ _ _ _ _ _ | show wpAny _ _ (call (Value.builtin "sorted") _) _ _ _ | show LCg.CompEnd _ _ _ _ _ _ _ _ _ _ _ _ _ _ | show LCg.CompSrc _ _ _ _ _ _ _ _ _ _ _ _ _ _ | show LCt.CompSrcT _ _ _ _ _ _ _ _ _ _ _ _ _ _ _)) | fail); walk1)) | (leave1; walk_say "STEP leave1"; try dsimp only) | fail "no step")) | fail)
  rename Fr _ _ _ _ => F3; rename News _ _ _ _ => N3
  k_dflt refine new_ok (by k_asm) (by k_asm) (by k_asm) (by k_asm) rfl (by (first | ((try dsimp only [ktrTop, Around.deeper, Around.in1]); omega) | fail)) (by (first | ((try dsimp only [ktrTop, Around.deeper, Around.in1]); omega) | fail)) N3 ?_
  intro h2 tk2 x' dx l1 l2 l3 l4 l5 l6 l7 d1 d2 o1 o2 t0 t1 t2 t3 t4 t5 t6 t7 t8 t9 t10 t11 t12 s1 s2 F4 N4 g0 g1 g2 g3 g4 g5 g6 g7 g8 g9 g10 lo1 lo2 hi1' hs2'
  clear g2 g3 g4 g5 g8 g9
  dsimp only [List.map] at g0 g1 g6 g7 g10
  replace N4 : News g L' h2 [(x', instObj 45 dx), (dx, dictOf _ 13), (l5, listOf #[] 0), (l6, listOf #[] 0), (d2, o2), (p, listOf us.toArray pn)] := kst_newsOf N4 (by kst_anyIn)
  have hvi : vi.length = 1 := hi3.length
  have hvw : vw.length = 1 := hw3.length
  have hvdf : vdf.length = 1 := hdf3.length
  have hvp : vp.length = 1 := hp3.length
  clear F3 N3 lo1 hi1'
  have hname' := hname
  (try dsimp only)
  (first | ((try k_unmd); (try k_fold); repeat' (first | (k_unfold; (try dsimp only)) | (first | ((with_reducible show wpAny _ _ (subscriptTail _ _ (Value.ref _) (Value.str _ _)) _ _ _); k_here; k_dflt (refine bd_item (knd := PySem.strKind _ _) (by k_asm) (by with_reducible assumption) (strKind_is _ _ _ _) (by with_reducible assumption) ?_ (by with_unfolding_all rfl); k_whole)) | ((with_reducible show wpAny _ _ (subscriptTail _ _ (Value.ref _) (Value.int _ _)) _ _ _); k_here; k_dflt (refine bd_item (knd := PySem.intKind _ _) (by k_asm) (by with_reducible assumption) (intKind_is _ _ _ _) (by with_reducible assumption) ?_ (by with_unfolding_all rfl); k_whole)) | fail) | ((first | (fail_if_success (with_reducible first | show wpAny _ _ (call (Value.ref _) _) _ _ _ | show wpAny _ _ (exec (Stmt.While _ _ _ _) _) _ _ _ | show wpAny _ _ (exec (Stmt.For _ _ _ _ _) _) _ _ _ | show wpAny _ _ (pyIter _) _ _ _ | show wpAny _ _ (setItem _ _ _) _ _ _ | show wpAny _ _ (eval (Expr.ListComp _ _ _ _) _) _ _ _ | show wpAny _ _ (exec (Stmt.Assign _ (Expr.ListComp _ _ _ _) _) _) _ _ _ | show InvPostG _ _ _ _ _ _ _ _ | show InvEndG _ _ _ _ _ _ | show OnG _ _ _ _ _ _ _ | show Fin _ _ _ _ _ _ | show KswEnd _ _ _ _ _ _ _ _ _ _ _ _ | show wpAny _ _ (call (Value.builtin "sorted") _) _ _ _ | show LCg.CompEnd _ _ _ _ _ _ _ _ _ _ _ _ _ _ | show LCg.CompSrc _ _ _ _ _ _ _ _ _ _ _ _ _ _ | show LCt.CompSrcT _ _ _ _ _ _ _ _ _ _ _ _ _ _ _)) | fail); first | walk1 | (dsimp only; (try k_fold); (first | (fail_if_success (with_reducible first | show wpAny _ _ (call (Value.ref _) _) _ _ _ | show wpAny _ _ (exec (Stmt.While _ _ _ _) _) _ _ _ | show wpAny _ _ (exec (Stmt.For _ _ _ _ _) _) _ _ _ | show wpAny _ _ (pyIter _) _ _ _ | show wpAny _ _ (setItem _ _ _) _ _ _ | show wpAny _ _ (eval (Expr.ListComp _ _ _ _) _) _ _ _ | show wpAny _ _ (exec (Stmt.Assign _ (Expr.ListComp _ _ _ _) _) _) _ _ _ | show InvPostG _ _ _ _ _ _ _ _ | show InvEndG _ _ _ _ _ _ | show OnG _ _ _ _ _ _ _ | show Fin _ _ _ _ _ _ | show KswEnd _ _ _ _ _ _ _ _ _ _ _ _ | show wpAny _ _ (call (Value.builtin "sorted") _) _ _ _ | show LCg.CompEnd _ _ _ _ _ _ _ _ _ _ _ _ _ _ | show LCg.CompSrc _ _ _ _ _ _ _ _ _ _ _ _ _ _ | show LCt.CompSrcT _ _ _ _ _ _ _ _ _ _ _ _ _ _ _)) | fail); walk1)) | (leave1; walk_say "STEP leave1"; try dsimp only) | fail "no step")) | fail)
  rename Fr _ _ _ _ => F5; rename News _ _ _ _ => N5
  k_dflt refine rows_ok (by k_asm) (by k_asm) (by k_asm) (by k_asm) rfl (by (first | ((try dsimp only [ktrTop, Around.deeper, Around.in1]); omega) | fail)) (by (first | ((try dsimp only [ktrTop, Around.deeper, Around.in1]); omega) | fail)) (Ob.keeps F5.keep) hf1 (stays_list F5.keep hf2) (hf3.mono F5.keep) hr (stays_list F5.keep hr2) (hr3.mono F5.keep)
    (stays_list F5.keep hkl) (hkD.mono F5.keep) hkn ⟨_, (N5 (p, _) (by k_mem)).1, rfl, _, rfl⟩ hpI (by omega) hV (after (by k_asm) (by k_asm) ?_)
  rintro r6 h6 tk6 F6 N6 K6 ⟨pr, rws, rn, rfl, rfr, robj, rD⟩
  have lt6 := neAll_of (adopt_ne N5 rfr)
  dsimp only [List.map] at lt6
  replace N6 := adopt F5 N6 rfr robj
  obtain ⟨tl, NT, hT, rD⟩ := absorbF F6 rD (newRows_flat ks rows)
  have hoff : OwnOff tl [dx, l5, l6, d2] := tl_off NT hT (by
    refine List.forall_mem_cons.mpr ⟨?_, List.forall_mem_cons.mpr ⟨?_, List.forall_mem_cons.mpr ⟨?_, List.forall_mem_cons.mpr ⟨?_, List.forall_mem_nil _⟩⟩⟩⟩
    · exact ⟨_, (N6 (_, dictOf _ 13) (by k_mem)).1, by show Value.type "dict" ≠ Value.type "tuple"; decide⟩
    · exact ⟨_, (N6 (_, listOf #[] 0) (by k_mem)).1, by show Value.type "list" ≠ Value.type "tuple"; decide⟩
    · exact ⟨_, (N6 (_, listOf #[] 0) (by k_mem)).1, by show Value.type "list" ≠ Value.type "tuple"; decide⟩
    · exact ⟨_, (N6 (_, o2) (by k_mem)).1, by rw [(dict_cls hs2').1]; decide⟩)
  replace N6 := news_both N6 NT
  clear NT hT K6 rfr robj F5 N5
  simp only [List.cons_append, List.nil_append] at N6
  have hKd := kdMark
  (try dsimp only)
  (first | ((try k_unmd); (try k_fold); repeat' (first | (k_unfold; (try dsimp only)) | (first | ((with_reducible show wpAny _ _ (subscriptTail _ _ (Value.ref _) (Value.str _ _)) _ _ _); k_here; k_dflt (refine bd_item (knd := PySem.strKind _ _) (by k_asm) (by with_reducible assumption) (strKind_is _ _ _ _) (by with_reducible assumption) ?_ (by with_unfolding_all rfl); k_whole)) | ((with_reducible show wpAny _ _ (subscriptTail _ _ (Value.ref _) (Value.int _ _)) _ _ _); k_here; k_dflt (refine bd_item (knd := PySem.intKind _ _) (by k_asm) (by with_reducible assumption) (intKind_is _ _ _ _) (by with_reducible assumption) ?_ (by with_unfolding_all rfl); k_whole)) | fail) | ((first | (fail_if_success (with_reducible first | show wpAny _ _ (call (Value.ref _) _) _ _ _ | show wpAny _ _ (exec (Stmt.While _ _ _ _) _) _ _ _ | show wpAny _ _ (exec (Stmt.For _ _ _ _ _) _) _ _ _ | show wpAny _ _ (pyIter _) _ _ _ | show wpAny _ _ (setItem _ _ _) _ _ _ | show wpAny _ _ (eval (Expr.ListComp _ _ _ _) _) _ _ _ | show wpAny _ _ (exec (Stmt.Assign _ (Expr.ListComp _ _ _ _) _) _) _ _ _ | show InvPostG _ _ _ _ _ _ _ _ | show InvEndG _ _ _ _ _ _ | show OnG _ _ _ _ _ _ _ | show Fin _ _ _ _ _ _ | show KswEnd _ _ _ _ _ _ _ _ _ _ _ _ | show wpAny _ _ (call (Value.builtin "sorted") _) _ _ _ | show LCg.CompEnd _ _ _ _ _ _ _ _ _ _ _ _ _ _ | show LCg.CompSrc _ _ _ _ _ _ _ _ _ _ _ _ _ _ | show LCt.CompSrcT _ _ _ _ _ _ _ _ _ _ _ _ _ _ _)) | fail); first | walk1 | (dsimp only; (try k_fold); (first | (fail_if_success (with_reducible first | show wpAny _ _ (call (Value.ref _) _) _ _ _ | show wpAny _ _ (exec (Stmt.While _ _ _ _) _) _ _ _ | show wpAny _ _ (exec (Stmt.For _ _ _ _ _) _) _ _ _ | show wpAny _ _ (pyIter _) _ _ _ | show wpAny _ _ (setItem _ _ _) _ _ _ | show wpAny _ _ (eval (Expr.ListComp _ _ _ _) _) _ _ _ | show wpAny _ _ (exec (Stmt.Assign _ (Expr.ListComp _ _ _ _) _) _) _ _ _ | show InvPostG _ _ _ _ _ _ _ _ | show InvEndG _ _ _ _ _ _ | show OnG _ _ _ _ _ _ _ | show Fin _ _ _ _ _ _ | show KswEnd _ _ _ _ _ _ _ _ _ _ _ _ | show wpAny _ _ (call (Value.builtin "sorted") _) _ _ _ | show LCg.CompEnd _ _ _ _ _ _ _ _ _ _ _ _ _ _ | show LCg.CompSrc _ _ _ _ _ _ _ _ _ _ _ _ _ _ | show LCt.CompSrcT _ _ _ _ _ _ _ _ _ _ _ _ _ _ _)) | fail); walk1)) | (leave1; walk_say "STEP leave1"; try dsimp only) | fail "no step")) | fail)
  rename Fr _ _ _ _ => F7; rename News _ _ _ _ => N7
  replace N7 := pull 6 N7 rfl
  dsimp only [List.eraseIdx] at N7
  refine split_head N7 ?_
  clear N7
  intro cst hcst N7
  refine For_invT g ?_ (by intro _; with_unfolding_all rfl)
  (first | ((try k_unmd); (try k_fold); repeat' (first | (k_unfold; (try dsimp only)) | (first | ((with_reducible show wpAny _ _ (subscriptTail _ _ (Value.ref _) (Value.str _ _)) _ _ _); k_here; k_dflt (refine bd_item (knd := PySem.strKind _ _) (by k_asm) (by with_reducible assumption) (strKind_is _ _ _ _) (by with_reducible assumption) ?_ (by with_unfolding_all rfl); k_whole)) | ((with_reducible show wpAny _ _ (subscriptTail _ _ (Value.ref _) (Value.int _ _)) _ _ _); k_here; k_dflt (refine bd_item (knd := PySem.intKind _ _) (by k_asm) (by with_reducible assumption) (intKind_is _ _ _ _) (by with_reducible assumption) ?_ (by with_unfolding_all rfl); k_whole)) | fail) | ((first | (fail_if_success (with_reducible first | show wpAny _ _ (call (Value.ref _) _) _ _ _ | show wpAny _ _ (exec (Stmt.While _ _ _ _) _) _ _ _ | show wpAny _ _ (exec (Stmt.For _ _ _ _ _) _) _ _ _ | show wpAny _ _ (pyIter _) _ _ _ | show wpAny _ _ (setItem _ _ _) _ _ _ | show wpAny _ _ (eval (Expr.ListComp _ _ _ _) _) _ _ _ | show wpAny _ _ (exec (Stmt.Assign _ (Expr.ListComp _ _ _ _) _) _) _ _ _ | show InvPostG _ _ _ _ _ _ _ _ | show InvEndG _ _ _ _ _ _ | show OnG _ _ _ _ _ _ _ | show Fin _ _ _ _ _ _ | show KswEnd _ _ _ _ _ _ _ _ _ _ _ _ | show wpAny _ _ (call (Value.builtin "sorted") _) _ _ _ | show LCg.CompEnd _ _ _ _ _ _ _ _ _ _ _ _ _ _ | show LCg.CompSrc _ _ _ _ _ _ _ _ _ _ _ _ _ _ | show LCt.CompSrcT _ _ _ _ _ _ _ _ _ _ _ _ _ _ _)) | fail); first | walk1 | (dsimp only; (try k_fold); (first | (fail_if_success (with_reducible first | show wpAny _ _ (call (Value.ref _) _) _ _ _ | show wpAny _ _ (exec (Stmt.While _ _ _ _) _) _ _ _ | show wpAny _ _ (exec (Stmt.For _ _ _ _ _) _) _ _ _ | show wpAny _ _ (pyIter _) _ _ _ | show wpAny _ _ (setItem _ _ _) _ _ _ | show wpAny _ _ (eval (Expr.ListComp _ _ _ _) _) _ _ _ | show wpAny _ _ (exec (Stmt.Assign _ (Expr.ListComp _ _ _ _) _) _) _ _ _ | show InvPostG _ _ _ _ _ _ _ _ | show InvEndG _ _ _ _ _ _ | show OnG _ _ _ _ _ _ _ | show Fin _ _ _ _ _ _ | show KswEnd _ _ _ _ _ _ _ _ _ _ _ _ | show wpAny _ _ (call (Value.builtin "sorted") _) _ _ _ | show LCg.CompEnd _ _ _ _ _ _ _ _ _ _ _ _ _ _ | show LCg.CompSrc _ _ _ _ _ _ _ _ _ _ _ _ _ _ | show LCt.CompSrcT _ _ _ _ _ _ _ _ _ _ _ _ _ _ _)) | fail); walk1)) | (leave1; walk_say "STEP leave1"; try dsimp only) | fail "no step")) | fail)
  refine loopBT (Str.ofString "row") (fun c : List Value × List Dat × Nat => [(l5, listOf c.1.toArray c.2.2)]) cst (fun _ => []) (fun L c => DIs (Kn g L) c.1 c.2.1) [Str.ofString "row", Str.ofString "kind", Str.ofString "module", Str.ofString "entry"]
    (fun i c => c.2.1 = newFixes ks ((fixes rows).take i)) (l5 :: cst.map (·.1)) ([], [], 0) rfl hf2 F7 N7 rfl (by intro q hq; simpa using hq) (fun _ => rfl) .nil (by intro p hp; cases hp) rfl ?_ ?_
  · intro c tl' i v u h gens drawn tk os own hv sep off hF hP F8 N8
    subst hcst
    obtain ⟨vs, ds, nn⟩ := c
    dsimp only [kstB] at F8 hP hF
    simp only [List.nil_append, List.cons_append, List.append_assoc] at N8
    obtain ⟨d1', hd1, hv1⟩ := (show DIs (Hp g) vf ((fixes rows).map Fix.dat) from hf3).at hv
    rw [List.getElem?_map] at hd1
    obtain ⟨f, hf0, rfl⟩ := Option.map_eq_some_iff.mp hd1
    obtain ⟨j, rj, hrj, _, hrow⟩ := fixes_mem (List.mem_of_getElem? hf0)
    have hjlt := (List.getElem?_eq_some_iff.mp hrj).1
    have hilt := (List.getElem?_eq_some_iff.mp hf0).1
    have hfl := fixes_len rows
    have hvl := hF.length
    have hdl : ds.length ≤ i := by rw [hP]; unfold newFixes; rw [List.length_map]; exact Nat.le_trans (List.length_filter_le _ _) (by rw [List.length_take]; omega)
    obtain ⟨bb, hb9⟩ : ∃ b, ks[j]? = some b := ⟨_, List.getElem?_eq_getElem (by omega)⟩
    have hst : stays ks j = bb := by unfold stays; rw [List.getD_eq_getElem?_getD, hb9]; rfl
    obtain ⟨bv, hkb, hdb⟩ := hkD.get (k := j) (d := .bool bb) (by rw [List.getElem?_map, hb9]; rfl)
    cases hdb
    have hkb' : kvs[(j : Int).toNat]? = some (Value.bool bb) := hkb
    obtain ⟨tp, hup⟩ := hpI.get _ _ (placesN_at (ks := ks) (k := ks.length + 1) (i := j) (by omega))
    have hup' : us[(j : Int).toNat]? = some (Value.int (cnt ks j) tp) := hup
    have hsn := newFixes_snoc ks hf0
    obtain ⟨frow, fkind, fm, fe⟩ := f
    dsimp only at hrow hsn
    subst hrow
    rw [Int.toNat_natCast, hst] at hsn
    clear hkb hup hd1 hrj
    refine di_fix hv1 ?_
    intro a9 t1 t2 t3 t4 ev ht
    clear hv1
    subst ev
    dsimp only at ht
    cases bb with
    | false =>
      (first | ((try k_unmd); (try k_fold); repeat' (first | (k_unfold; (try dsimp only)) | (first | ((with_reducible show wpAny _ _ (subscriptTail _ _ (Value.ref _) (Value.str _ _)) _ _ _); k_here; k_dflt (refine bd_item (knd := PySem.strKind _ _) (by k_asm) (by with_reducible assumption) (strKind_is _ _ _ _) (by with_reducible assumption) ?_ (by with_unfolding_all rfl); k_whole)) | ((with_reducible show wpAny _ _ (subscriptTail _ _ (Value.ref _) (Value.int _ _)) _ _ _); k_here; k_dflt (refine bd_item (knd := PySem.intKind _ _) (by k_asm) (by with_reducible assumption) (intKind_is _ _ _ _) (by with_reducible assumption) ?_ (by with_unfolding_all rfl); k_whole)) | fail) | ((first | (fail_if_success (with_reducible first | show wpAny _ _ (call (Value.ref _) _) _ _ _ | show wpAny _ _ (exec (Stmt.While _ _ _ _) _) _ _ _ | show wpAny _ _ (exec (Stmt.For _ _ _ _ _) _) _ _ _ | show wpAny _ _ (pyIter _) _ _ _ | show wpAny _ _ (setItem _ _ _) _ _ _ | show wpAny _ _ (eval (Expr.ListComp _ _ _ _) _) _ _ _ | show wpAny _ _ (exec (Stmt.Assign _ (Expr.ListComp _ _ _ _) _) _) _ _ _ | show InvPostG _ _ _ _ _ _ _ _ | show InvEndG _ _ _ _ _ _ | show OnG _ _ _ _ _ _ _ | show Fin _ _ _ _ _ _ | show KswEnd _ _ _ _ _ _ _ _ _ _ _ _ | show wpAny _ _ (call (Value.builtin "sorted") _) _ _ _ | show LCg.CompEnd _ _ _ _ _ _ _ _ _ _ _ _ _ _ | show LCg.CompSrc _ _ _ _ _ _ _ _ _ _ _ _ _ _ | show LCt.CompSrcT _ _ _ _ _ _ _ _ _ _ _ _ _ _ _)) | fail); first | walk1 | (dsimp only; (try k_fold); (first | (fail_if_success (with_reducible first | show wpAny _ _ (call (Value.ref _) _) _ _ _ | show wpAny _ _ (exec (Stmt.While _ _ _ _) _) _ _ _ | show wpAny _ _ (exec (Stmt.For _ _ _ _ _) _) _ _ _ | show wpAny _ _ (pyIter _) _ _ _ | show wpAny _ _ (setItem _ _ _) _ _ _ | show wpAny _ _ (eval (Expr.ListComp _ _ _ _) _) _ _ _ | show wpAny _ _ (exec (Stmt.Assign _ (Expr.ListComp _ _ _ _) _) _) _ _ _ | show InvPostG _ _ _ _ _ _ _ _ | show InvEndG _ _ _ _ _ _ | show OnG _ _ _ _ _ _ _ | show Fin _ _ _ _ _ _ | show KswEnd _ _ _ _ _ _ _ _ _ _ _ _ | show wpAny _ _ (call (Value.builtin "sorted") _) _ _ _ | show LCg.CompEnd _ _ _ _ _ _ _ _ _ _ _ _ _ _ | show LCg.CompSrc _ _ _ _ _ _ _ _ _ _ _ _ _ _ | show LCt.CompSrcT _ _ _ _ _ _ _ _ _ _ _ _ _ _ _)) | fail); walk1)) | (leave1; walk_say "STEP leave1"; try dsimp only) | fail "no step")) | fail)
      rename Fr _ _ _ _ => F9; rename News _ _ _ _ => N9
      exact ⟨rfl, end0 (vs, ds, nn) sep F9 (by show News _ L' _ _; simpa only [List.nil_append, List.append_assoc, List.cons_append] using N9) rfl (by intro p hp; cases hp) (by (first | (intro z h1 h2 h3; (simp only [List.contains_cons, List.contains_nil, Bool.or_eq_false_iff, beq_eq_false_iff_ne, ne_eq, List.forall_mem_cons, List.mem_cons, List.not_mem_nil, or_false, forall_eq_or_imp, forall_eq] at h1 h2 h3); (simp only [h1, h2, h3, if_false, ite_false, List.contains_cons, List.contains_nil, Bool.or_false, beq_iff_eq, Bool.or_eq_true, or_self, or_false, and_true, not_false_eq_true, Bool.false_eq_true]); done) | fail)) hF (by dsimp only; rw [hsn, hP]; simp)⟩
    | true =>
      (first | ((try k_unmd); (try k_fold); repeat' (first | (k_unfold; (try dsimp only)) | (first | ((with_reducible show wpAny _ _ (subscriptTail _ _ (Value.ref _) (Value.str _ _)) _ _ _); k_here; k_dflt (refine bd_item (knd := PySem.strKind _ _) (by k_asm) (by with_reducible assumption) (strKind_is _ _ _ _) (by with_reducible assumption) ?_ (by with_unfolding_all rfl); k_whole)) | ((with_reducible show wpAny _ _ (subscriptTail _ _ (Value.ref _) (Value.int _ _)) _ _ _); k_here; k_dflt (refine bd_item (knd := PySem.intKind _ _) (by k_asm) (by with_reducible assumption) (intKind_is _ _ _ _) (by with_reducible assumption) ?_ (by with_unfolding_all rfl); k_whole)) | fail) | ((first | (fail_if_success (with_reducible first | show wpAny _ _ (call (Value.ref _) _) _ _ _ | show wpAny _ _ (exec (Stmt.While _ _ _ _) _) _ _ _ | show wpAny _ _ (exec (Stmt.For _ _ _ _ _) _) _ _ _ | show wpAny _ _ (pyIter _) _ _ _ | show wpAny _ _ (setItem _ _ _) _ _ _ | show wpAny _ _ (eval (Expr.ListComp _ _ _ _) _) _ _ _ | show wpAny _ _ (exec (Stmt.Assign _ (Expr.ListComp _ _ _ _) _) _) _ _ _ | show InvPostG _ _ _ _ _ _ _ _ | show InvEndG _ _ _ _ _ _ | show OnG _ _ _ _ _ _ _ | show Fin _ _ _ _ _ _ | show KswEnd _ _ _ _ _ _ _ _ _ _ _ _ | show wpAny _ _ (call (Value.builtin "sorted") _) _ _ _ | show LCg.CompEnd _ _ _ _ _ _ _ _ _ _ _ _ _ _ | show LCg.CompSrc _ _ _ _ _ _ _ _ _ _ _ _ _ _ | show LCt.CompSrcT _ _ _ _ _ _ _ _ _ _ _ _ _ _ _)) | fail); first | walk1 | (dsimp only; (try k_fold); (first | (fail_if_success (with_reducible first | show wpAny _ _ (call (Value.ref _) _) _ _ _ | show wpAny _ _ (exec (Stmt.While _ _ _ _) _) _ _ _ | show wpAny _ _ (exec (Stmt.For _ _ _ _ _) _) _ _ _ | show wpAny _ _ (pyIter _) _ _ _ | show wpAny _ _ (setItem _ _ _) _ _ _ | show wpAny _ _ (eval (Expr.ListComp _ _ _ _) _) _ _ _ | show wpAny _ _ (exec (Stmt.Assign _ (Expr.ListComp _ _ _ _) _) _) _ _ _ | show InvPostG _ _ _ _ _ _ _ _ | show InvEndG _ _ _ _ _ _ | show OnG _ _ _ _ _ _ _ | show Fin _ _ _ _ _ _ | show KswEnd _ _ _ _ _ _ _ _ _ _ _ _ | show wpAny _ _ (call (Value.builtin "sorted") _) _ _ _ | show LCg.CompEnd _ _ _ _ _ _ _ _ _ _ _ _ _ _ | show LCg.CompSrc _ _ _ _ _ _ _ _ _ _ _ _ _ _ | show LCt.CompSrcT _ _ _ _ _ _ _ _ _ _ _ _ _ _ _)) | fail); walk1)) | (leave1; walk_say "STEP leave1"; try dsimp only) | fail "no step")) | fail)
      rename Fr _ _ _ _ => F9; rename News _ _ _ _ => N9; rename (_ < _ ∧ _) => l9
      rw [List.push_toArray] at N9
      exact ⟨rfl, end1 (c₁ := [(l5, listOf vs.toArray nn)]) (vs ++ [Value.ref _], ds ++ [newFix ks ⟨(j : Int), fkind, fm, fe⟩], nn + 1) sep F9 (by show News _ L' _ _; simpa only [List.nil_append, List.append_assoc, List.cons_append] using N9) rfl
        (off1_lt l9) rfl (by intro p hp; cases hp) (by (first | (intro z h1 h2 h3; (simp only [List.contains_cons, List.contains_nil, Bool.or_eq_false_iff, beq_eq_false_iff_ne, ne_eq, List.forall_mem_cons, List.mem_cons, List.not_mem_nil, or_false, forall_eq_or_imp, forall_eq] at h1 h2 h3); (simp only [h1, h2, h3, if_false, ite_false, List.contains_cons, List.contains_nil, Bool.or_false, beq_iff_eq, Bool.or_eq_true, or_self, or_false, and_true, not_false_eq_true, Bool.false_eq_true]); done) | fail))
        ((hF.mono (Kn.sub (kd_sub (add := [_])))).snoc (.tuple (.inr (List.mem_append.mpr (.inr (.head _)))) rfl rfl (.cons (.int _ _) (.cons (.str _ _) (.cons (.int _ _) (.cons (.int _ _) .nil)))))) (by dsimp only; rw [hsn, hP]; simp)⟩
  · intro c tl' u h tk off hF hP F8 N8
    subst hcst
    obtain ⟨vs, ds, nn⟩ := c
    dsimp only [kstB] at F8 hP hF
    obtain ⟨t2, NT2, hT2, fD⟩ := absorbF F8 (hF.mono (Kn.hp F8 N8 fun p hp => .tail _ hp)) (by subst hP; exact newFixes_flat ks _)
    have hvfl := (show DIs (Hp g) vf ((fixes rows).map Fix.dat) from hf3).length
    rw [List.length_map] at hvfl
    rw [hvfl, List.take_length] at hP
    subst hP
    simp only [List.nil_append, List.cons_append, List.append_assoc] at N8
    have NT := news_both (show News g L' h tl from fun q hq => N8 q (by simp only [List.mem_cons, List.mem_append]; simp [hq])) NT2
    have hoff2 : OwnOff (tl ++ t2) [dx, l6, d2] := by
      intro q hq b hb
      rcases List.mem_append.mp hq with hq | hq
      · exact hoff q hq b (by
          simp only [List.mem_cons, List.not_mem_nil, or_false] at hb ⊢
          rcases hb with h | h | h <;> simp [h])
      · refine tl_off NT2 hT2 (adr := [dx, l6, d2]) (List.forall_mem_cons.mpr ⟨?_, List.forall_mem_cons.mpr ⟨?_, List.forall_mem_cons.mpr ⟨?_, List.forall_mem_nil _⟩⟩⟩) q hq b hb
        · exact ⟨_, (N8 (_, dictOf _ 13) (by k_mem)).1, by show Value.type "dict" ≠ Value.type "tuple"; decide⟩
        · exact ⟨_, (N8 (_, listOf #[] 0) (by k_mem)).1, by show Value.type "list" ≠ Value.type "tuple"; decide⟩
        · exact ⟨_, (N8 (_, o2) (by k_mem)).1, by rw [(dict_cls hs2').1]; decide⟩
    replace rD := rD.mono (Kn.sub (l' := tl ++ t2) fun q hq => List.mem_append.mpr (.inl hq))
    replace fD := fD.mono (Kn.sub (l' := tl ++ t2) fun q hq => List.mem_append.mpr (.inr hq))
    replace N8 : News g L' h _ := N8
    replace NT : News g L' h _ := NT
    replace F8 : Fr g L' h _ := F8
    have N9 := news_take 10 N8
    simp only [List.take_succ_cons, List.take_zero] at N9
    replace N9 := news_both N9 NT
    clear F7 N7 N8 off hF NT NT2 hT2 hoff
    simp only [List.nil_append, List.cons_append] at N9
    generalize tl ++ t2 = tl at N9 hoff2 rD fD
    dsimp only
    have hKd := kdMark
    (first | ((try k_unmd); (try k_fold); repeat' (first | (k_unfold; (try dsimp only)) | (first | ((with_reducible show wpAny _ _ (subscriptTail _ _ (Value.ref _) (Value.str _ _)) _ _ _); k_here; k_dflt (refine bd_item (knd := PySem.strKind _ _) (by k_asm) (by with_reducible assumption) (strKind_is _ _ _ _) (by with_reducible assumption) ?_ (by with_unfolding_all rfl); k_whole)) | ((with_reducible show wpAny _ _ (subscriptTail _ _ (Value.ref _) (Value.int _ _)) _ _ _); k_here; k_dflt (refine bd_item (knd := PySem.intKind _ _) (by k_asm) (by with_reducible assumption) (intKind_is _ _ _ _) (by with_reducible assumption) ?_ (by with_unfolding_all rfl); k_whole)) | fail) | ((first | (fail_if_success (with_reducible first | show wpAny _ _ (call (Value.ref _) _) _ _ _ | show wpAny _ _ (exec (Stmt.While _ _ _ _) _) _ _ _ | show wpAny _ _ (exec (Stmt.For _ _ _ _ _) _) _ _ _ | show wpAny _ _ (pyIter _) _ _ _ | show wpAny _ _ (setItem _ _ _) _ _ _ | show wpAny _ _ (eval (Expr.ListComp _ _ _ _) _) _ _ _ | show wpAny _ _ (exec (Stmt.Assign _ (Expr.ListComp _ _ _ _) _) _) _ _ _ | show InvPostG _ _ _ _ _ _ _ _ | show InvEndG _ _ _ _ _ _ | show OnG _ _ _ _ _ _ _ | show Fin _ _ _ _ _ _ | show KswEnd _ _ _ _ _ _ _ _ _ _ _ _ | show wpAny _ _ (call (Value.builtin "sorted") _) _ _ _ | show LCg.CompEnd _ _ _ _ _ _ _ _ _ _ _ _ _ _ | show LCg.CompSrc _ _ _ _ _ _ _ _ _ _ _ _ _ _ | show LCt.CompSrcT _ _ _ _ _ _ _ _ _ _ _ _ _ _ _)) | fail); first | walk1 | (dsimp only; (try k_fold); (first | (fail_if_success (with_reducible first | show wpAny _ _ (call (Value.ref _) _) _ _ _ | show wpAny _ _ (exec (Stmt.While _ _ _ _) _) _ _ _ | show wpAny _ _ (exec (Stmt.For _ _ _ _ _) _) _ _ _ | show wpAny _ _ (pyIter _) _ _ _ | show wpAny _ _ (setItem _ _ _) _ _ _ | show wpAny _ _ (eval (Expr.ListComp _ _ _ _) _) _ _ _ | show wpAny _ _ (exec (Stmt.Assign _ (Expr.ListComp _ _ _ _) _) _) _ _ _ | show InvPostG _ _ _ _ _ _ _ _ | show InvEndG _ _ _ _ _ _ | show OnG _ _ _ _ _ _ _ | show Fin _ _ _ _ _ _ | show KswEnd _ _ _ _ _ _ _ _ _ _ _ _ | show wpAny _ _ (call (Value.builtin "sorted") _) _ _ _ | show LCg.CompEnd _ _ _ _ _ _ _ _ _ _ _ _ _ _ | show LCg.CompSrc _ _ _ _ _ _ _ _ _ _ _ _ _ _ | show LCt.CompSrcT _ _ _ _ _ _ _ _ _ _ _ _ _ _ _)) | fail); walk1)) | (leave1; walk_say "STEP leave1"; try dsimp only) | fail "no step")) | fail)
    rename Fr _ _ _ _ => F7; rename News _ _ _ _ => N7
    replace N7 := pull 7 N7 rfl
    dsimp only [List.eraseIdx] at N7
    refine split_head N7 ?_
    clear N7
    intro cst hcst N7
    refine For_invT g ?_ (by intro _; with_unfolding_all rfl)
    (first | ((try k_unmd); (try k_fold); repeat' (first | (k_unfold; (try dsimp only)) | (first | ((with_reducible show wpAny _ _ (subscriptTail _ _ (Value.ref _) (Value.str _ _)) _ _ _); k_here; k_dflt (refine bd_item (knd := PySem.strKind _ _) (by k_asm) (by with_reducible assumption) (strKind_is _ _ _ _) (by with_reducible assumption) ?_ (by with_unfolding_all rfl); k_whole)) | ((with_reducible show wpAny _ _ (subscriptTail _ _ (Value.ref _) (Value.int _ _)) _ _ _); k_here; k_dflt (refine bd_item (knd := PySem.intKind _ _) (by k_asm) (by with_reducible assumption) (intKind_is _ _ _ _) (by with_reducible assumption) ?_ (by with_unfolding_all rfl); k_whole)) | fail) | ((first | (fail_if_success (with_reducible first | show wpAny _ _ (call (Value.ref _) _) _ _ _ | show wpAny _ _ (exec (Stmt.While _ _ _ _) _) _ _ _ | show wpAny _ _ (exec (Stmt.For _ _ _ _ _) _) _ _ _ | show wpAny _ _ (pyIter _) _ _ _ | show wpAny _ _ (setItem _ _ _) _ _ _ | show wpAny _ _ (eval (Expr.ListComp _ _ _ _) _) _ _ _ | show wpAny _ _ (exec (Stmt.Assign _ (Expr.ListComp _ _ _ _) _) _) _ _ _ | show InvPostG _ _ _ _ _ _ _ _ | show InvEndG _ _ _ _ _ _ | show OnG _ _ _ _ _ _ _ | show Fin _ _ _ _ _ _ | show KswEnd _ _ _ _ _ _ _ _ _ _ _ _ | show wpAny _ _ (call (Value.builtin "sorted") _) _ _ _ | show LCg.CompEnd _ _ _ _ _ _ _ _ _ _ _ _ _ _ | show LCg.CompSrc _ _ _ _ _ _ _ _ _ _ _ _ _ _ | show LCt.CompSrcT _ _ _ _ _ _ _ _ _ _ _ _ _ _ _)) | fail); first | walk1 | (dsimp only; (try k_fold); (first | (fail_if_success (with_reducible first | show wpAny _ _ (call (Value.ref _) _) _ _ _ | show wpAny _ _ (exec (Stmt.While _ _ _ _) _) _ _ _ | show wpAny _ _ (exec (Stmt.For _ _ _ _ _) _) _ _ _ | show wpAny _ _ (pyIter _) _ _ _ | show wpAny _ _ (setItem _ _ _) _ _ _ | show wpAny _ _ (eval (Expr.ListComp _ _ _ _) _) _ _ _ | show wpAny _ _ (exec (Stmt.Assign _ (Expr.ListComp _ _ _ _) _) _) _ _ _ | show InvPostG _ _ _ _ _ _ _ _ | show InvEndG _ _ _ _ _ _ | show OnG _ _ _ _ _ _ _ | show Fin _ _ _ _ _ _ | show KswEnd _ _ _ _ _ _ _ _ _ _ _ _ | show wpAny _ _ (call (Value.builtin "sorted") _) _ _ _ | show LCg.CompEnd _ _ _ _ _ _ _ _ _ _ _ _ _ _ | show LCg.CompSrc _ _ _ _ _ _ _ _ _ _ _ _ _ _ | show LCt.CompSrcT _ _ _ _ _ _ _ _ _ _ _ _ _ _ _)) | fail); walk1)) | (leave1; walk_say "STEP leave1"; try dsimp only) | fail "no step")) | fail)
    rename Fr _ _ _ _ => F7; rename News _ _ _ _ => N7
    refine loopBT (Str.ofString "kind") (fun c : List Value × List Dat × Nat => [(l6, listOf c.1.toArray c.2.2)]) cst (fun _ => []) (fun L c => DIs (Kn g L) c.1 c.2.1) [Str.ofString "kind", Str.ofString "offset"]
      (fun i c => c.2.1 = [Dat.tuple [.str (Str.ofString "data"), .int 8], .tuple [.str (Str.ofString "code"), .int (cnt ks c₀)]].take i) (l6 :: cst.map (·.1)) ([], [], 0) rfl he2 F7 N7 rfl (by intro q hq; simpa using hq) (fun _ => rfl) .nil (by intro p hp; cases hp) rfl ?_ ?_
    · intro c tl' i v u h gens drawn tk os own hv sep off hF hP F8 N8
      subst hcst
      obtain ⟨vs, ds, nn⟩ := c
      dsimp only [kstB] at F8 hP hF
      simp only [List.nil_append, List.cons_append, List.append_assoc] at N8
      obtain ⟨d1', hd1, hv1⟩ := he3.at hv
      have hil := (List.getElem?_eq_some_iff.mp hd1).1
      have hvl := hF.length
      have hdl : ds.length ≤ 2 := by rw [hP, List.length_take]; simp only [List.length_cons, List.length_nil]; omega
      have hi2 : i = 0 ∨ i = 1 := by simp only [odOf, List.length_cons, List.length_nil] at hil; omega
      clear F7 N7
      rcases hi2 with rfl | rfl
      · have hd2 := Option.some.inj hd1
        subst hd2
        clear hd1
        refine di_pair hv1 ?_
        intro a9 t1 t2 ev ht
        clear hv1
        subst ev
        (try dsimp only at ht)
        have hKd := kdMark
        (first | ((try k_unmd); (try k_fold); repeat' (first | (k_unfold; (try dsimp only)) | (first | ((with_reducible show wpAny _ _ (subscriptTail _ _ (Value.ref _) (Value.str _ _)) _ _ _); k_here; k_dflt (refine bd_item (knd := PySem.strKind _ _) (by k_asm) (by with_reducible assumption) (strKind_is _ _ _ _) (by with_reducible assumption) ?_ (by with_unfolding_all rfl); k_whole)) | ((with_reducible show wpAny _ _ (subscriptTail _ _ (Value.ref _) (Value.int _ _)) _ _ _); k_here; k_dflt (refine bd_item (knd := PySem.intKind _ _) (by k_asm) (by with_reducible assumption) (intKind_is _ _ _ _) (by with_reducible assumption) ?_ (by with_unfolding_all rfl); k_whole)) | fail) | ((first | (fail_if_success (with_reducible first | show wpAny _ _ (call (Value.ref _) _) _ _ _ | show wpAny _ _ (exec (Stmt.While _ _ _ _) _) _ _ _ | show wpAny _ _ (exec (Stmt.For _ _ _ _ _) _) _ _ _ | show wpAny _ _ (pyIter _) _ _ _ | show wpAny _ _ (setItem _ _ _) _ _ _ | show wpAny _ _ (eval (Expr.ListComp _ _ _ _) _) _ _ _ | show wpAny _ _ (exec (Stmt.Assign _ (Expr.ListComp _ _ _ _) _) _) _ _ _ | show InvPostG _ _ _ _ _ _ _ _ | show InvEndG _ _ _ _ _ _ | show OnG _ _ _ _ _ _ _ | show Fin _ _ _ _ _ _ | show KswEnd _ _ _ _ _ _ _ _ _ _ _ _ | show wpAny _ _ (call (Value.builtin "sorted") _) _ _ _ | show LCg.CompEnd _ _ _ _ _ _ _ _ _ _ _ _ _ _ | show LCg.CompSrc _ _ _ _ _ _ _ _ _ _ _ _ _ _ | show LCt.CompSrcT _ _ _ _ _ _ _ _ _ _ _ _ _ _ _)) | fail); first | walk1 | (dsimp only; (try k_fold); (first | (fail_if_success (with_reducible first | show wpAny _ _ (call (Value.ref _) _) _ _ _ | show wpAny _ _ (exec (Stmt.While _ _ _ _) _) _ _ _ | show wpAny _ _ (exec (Stmt.For _ _ _ _ _) _) _ _ _ | show wpAny _ _ (pyIter _) _ _ _ | show wpAny _ _ (setItem _ _ _) _ _ _ | show wpAny _ _ (eval (Expr.ListComp _ _ _ _) _) _ _ _ | show wpAny _ _ (exec (Stmt.Assign _ (Expr.ListComp _ _ _ _) _) _) _ _ _ | show InvPostG _ _ _ _ _ _ _ _ | show InvEndG _ _ _ _ _ _ | show OnG _ _ _ _ _ _ _ | show Fin _ _ _ _ _ _ | show KswEnd _ _ _ _ _ _ _ _ _ _ _ _ | show wpAny _ _ (call (Value.builtin "sorted") _) _ _ _ | show LCg.CompEnd _ _ _ _ _ _ _ _ _ _ _ _ _ _ | show LCg.CompSrc _ _ _ _ _ _ _ _ _ _ _ _ _ _ | show LCt.CompSrcT _ _ _ _ _ _ _ _ _ _ _ _ _ _ _)) | fail); walk1)) | (leave1; walk_say "STEP leave1"; try dsimp only) | fail "no step")) | fail)
        rename Fr _ _ _ _ => F9; rename News _ _ _ _ => N9; rename (_ < _ ∧ _) => l9
        rw [List.push_toArray] at N9
        exact ⟨rfl, end1 (c₁ := [(l6, listOf vs.toArray nn)]) (vs ++ [Value.ref _], ds ++ [.tuple [.str (Str.ofString "data"), .int 8]], nn + 1) sep F9 (by show News _ L' _ _; simpa only [List.nil_append, List.append_assoc, List.cons_append] using N9) rfl
          (off1_lt l9) rfl (by intro p hp; cases hp) (by (first | (intro z h1 h2 h3; (simp only [List.contains_cons, List.contains_nil, Bool.or_eq_false_iff, beq_eq_false_iff_ne, ne_eq, List.forall_mem_cons, List.mem_cons, List.not_mem_nil, or_false, forall_eq_or_imp, forall_eq] at h1 h2 h3); (simp only [h1, h2, h3, if_false, ite_false, List.contains_cons, List.contains_nil, Bool.or_false, beq_iff_eq, Bool.or_eq_true, or_self, or_false, and_true, not_false_eq_true, Bool.false_eq_true]); done) | fail))
          ((hF.mono (Kn.sub (kd_sub (add := [_])))).snoc (.tuple (.inr (List.mem_append.mpr (.inr (.head _)))) rfl rfl (.cons (.str _ _) (.cons (.int _ _) .nil)))) (by dsimp only; rw [hP]; rfl)⟩
      · have hd2 := Option.some.inj hd1
        subst hd2
        clear hd1
        obtain ⟨tp, hup⟩ := hpI.get _ _ (placesN_at (ks := ks) (k := ks.length + 1) (i := c₀) (by omega))
        have hup' : us[(c₀ : Int).toNat]? = some (Value.int (cnt ks c₀) tp) := hup
        refine di_pair hv1 ?_
        intro a9 t1 t2 ev ht
        clear hv1
        subst ev
        (try dsimp only at ht)
        have hKd := kdMark
        (first | ((try k_unmd); (try k_fold); repeat' (first | (k_unfold; (try dsimp only)) | (first | ((with_reducible show wpAny _ _ (subscriptTail _ _ (Value.ref _) (Value.str _ _)) _ _ _); k_here; k_dflt (refine bd_item (knd := PySem.strKind _ _) (by k_asm) (by with_reducible assumption) (strKind_is _ _ _ _) (by with_reducible assumption) ?_ (by with_unfolding_all rfl); k_whole)) | ((with_reducible show wpAny _ _ (subscriptTail _ _ (Value.ref _) (Value.int _ _)) _ _ _); k_here; k_dflt (refine bd_item (knd := PySem.intKind _ _) (by k_asm) (by with_reducible assumption) (intKind_is _ _ _ _) (by with_reducible assumption) ?_ (by with_unfolding_all rfl); k_whole)) | fail) | ((first | (fail_if_success (with_reducible first | show wpAny _ _ (call (Value.ref _) _) _ _ _ | show wpAny _ _ (exec (Stmt.While _ _ _ _) _) _ _ _ | show wpAny _ _ (exec (Stmt.For _ _ _ _ _) _) _ _ _ | show wpAny _ _ (pyIter _) _ _ _ | show wpAny _ _ (setItem _ _ _) _ _ _ | show wpAny _ _ (eval (Expr.ListComp _ _ _ _) _) _ _ _ | show wpAny _ _ (exec (Stmt.Assign _ (Expr.ListComp _ _ _ _) _) _) _ _ _ | show InvPostG _ _ _ _ _ _ _ _ | show InvEndG _ _ _ _ _ _ | show OnG _ _ _ _ _ _ _ | show Fin _ _ _ _ _ _ | show KswEnd _ _ _ _ _ _ _ _ _ _ _ _ | show wpAny _ _ (call (Value.builtin "sorted") _) _ _ _ | show LCg.CompEnd _ _ _ _ _ _ _ _ _ _ _ _ _ _ | show LCg.CompSrc _ _ _ _ _ _ _ _ _ _ _ _ _ _ | show LCt.CompSrcT _ _ _ _ _ _ _ _ _ _ _ _ _ _ _)) | fail); first | walk1 | (dsimp only; (try k_fold); (first | (fail_if_success (with_reducible first | show wpAny _ _ (call (Value.ref _) _) _ _ _ | show wpAny _ _ (exec (Stmt.While _ _ _ _) _) _ _ _ | show wpAny _ _ (exec (Stmt.For _ _ _ _ _) _) _ _ _ | show wpAny _ _ (pyIter _) _ _ _ | show wpAny _ _ (setItem _ _ _) _ _ _ | show wpAny _ _ (eval (Expr.ListComp _ _ _ _) _) _ _ _ | show wpAny _ _ (exec (Stmt.Assign _ (Expr.ListComp _ _ _ _) _) _) _ _ _ | show InvPostG _ _ _ _ _ _ _ _ | show InvEndG _ _ _ _ _ _ | show OnG _ _ _ _ _ _ _ | show Fin _ _ _ _ _ _ | show KswEnd _ _ _ _ _ _ _ _ _ _ _ _ | show wpAny _ _ (call (Value.builtin "sorted") _) _ _ _ | show LCg.CompEnd _ _ _ _ _ _ _ _ _ _ _ _ _ _ | show LCg.CompSrc _ _ _ _ _ _ _ _ _ _ _ _ _ _ | show LCt.CompSrcT _ _ _ _ _ _ _ _ _ _ _ _ _ _ _)) | fail); walk1)) | (leave1; walk_say "STEP leave1"; try dsimp only) | fail "no step")) | fail)
        rename Fr _ _ _ _ => F9; rename News _ _ _ _ => N9; rename (_ < _ ∧ _) => l9
        rw [List.push_toArray] at N9
        exact ⟨rfl, end1 (c₁ := [(l6, listOf vs.toArray nn)]) (vs ++ [Value.ref _], ds ++ [.tuple [.str (Str.ofString "code"), .int (cnt ks c₀)]], nn + 1) sep F9 (by show News _ L' _ _; simpa only [List.nil_append, List.append_assoc, List.cons_append] using N9) rfl
          (off1_lt l9) rfl (by intro p hp; cases hp) (by (first | (intro z h1 h2 h3; (simp only [List.contains_cons, List.contains_nil, Bool.or_eq_false_iff, beq_eq_false_iff_ne, ne_eq, List.forall_mem_cons, List.mem_cons, List.not_mem_nil, or_false, forall_eq_or_imp, forall_eq] at h1 h2 h3); (simp only [h1, h2, h3, if_false, ite_false, List.contains_cons, List.contains_nil, Bool.or_false, beq_iff_eq, Bool.or_eq_true, or_self, or_false, and_true, not_false_eq_true, Bool.false_eq_true]); done) | fail))
          ((hF.mono (Kn.sub (kd_sub (add := [_])))).snoc (.tuple (.inr (List.mem_append.mpr (.inr (.head _)))) rfl rfl (.cons (.str _ _) (.cons (.int _ _) .nil)))) (by dsimp only; rw [hP]; rfl)⟩
    · intro c tl' u h tk off hF hP F8 N8
      subst hcst
      obtain ⟨vs2, ds2, nn2⟩ := c
      dsimp only [kstB] at F8 hP hF
      have hvel : ve.length = 2 := he3.length
      rw [hvel] at hP
      replace hP : ds2 = [Dat.tuple [.str (Str.ofString "data"), .int 8], .tuple [.str (Str.ofString "code"), .int (cnt ks c₀)]] := hP
      subst hP
      obtain ⟨t2, NT2, hT2, eD⟩ := absorbF F8 (hF.mono (Kn.hp F8 N8 fun p hp => .tail _ hp)) (by
        intro d hd
        simp only [List.mem_cons, List.not_mem_nil, or_false] at hd
        rcases hd with rfl | rfl <;> rfl)
      simp only [List.nil_append, List.cons_append, List.append_assoc] at N8
      have NT := news_both (show News g L' h tl from fun q hq => N8 q (by simp only [List.mem_cons, List.mem_append]; simp [hq])) NT2
      have hoff3 : OwnOff (tl ++ t2) [dx, d2] := off_join hoff2 (by simp) (tl_off NT2 hT2 (by
        refine List.forall_mem_cons.mpr ⟨?_, List.forall_mem_cons.mpr ⟨?_, List.forall_mem_nil _⟩⟩
        · exact ⟨_, (N8 (_, dictOf _ 13) (by k_mem)).1, by show Value.type "dict" ≠ Value.type "tuple"; decide⟩
        · exact ⟨_, (N8 (_, o2) (by k_mem)).1, by rw [(dict_cls hs2').1]; decide⟩))
      replace rD := rD.mono (Kn.sub (l' := tl ++ t2) fun q hq => List.mem_append.mpr (.inl hq))
      replace fD := fD.mono (Kn.sub (l' := tl ++ t2) fun q hq => List.mem_append.mpr (.inl hq))
      replace eD := eD.mono (Kn.sub (l' := tl ++ t2) fun q hq => List.mem_append.mpr (.inr hq))
      replace N8 : News g L' h _ := N8
      replace NT : News g L' h _ := NT
      replace F8 : Fr g L' h _ := F8
      have N9 := news_take 10 N8
      simp only [List.take_succ_cons, List.take_zero] at N9
      replace N9 := news_both N9 NT
      clear F7 N7 N8 off hF NT NT2 hT2 hoff2
      simp only [List.nil_append, List.cons_append] at N9
      generalize tl ++ t2 = tl at N9 hoff3 rD fD eD
      dsimp only
      have hKd := kdMark
      (first | ((try k_unmd); (try k_fold); repeat' (first | (k_unfold; (try dsimp only)) | (first | ((with_reducible show wpAny _ _ (subscriptTail _ _ (Value.ref _) (Value.str _ _)) _ _ _); k_here; k_dflt (refine bd_item (knd := PySem.strKind _ _) (by k_asm) (by with_reducible assumption) (strKind_is _ _ _ _) (by with_reducible assumption) ?_ (by with_unfolding_all rfl); k_whole)) | ((with_reducible show wpAny _ _ (subscriptTail _ _ (Value.ref _) (Value.int _ _)) _ _ _); k_here; k_dflt (refine bd_item (knd := PySem.intKind _ _) (by k_asm) (by with_reducible assumption) (intKind_is _ _ _ _) (by with_reducible assumption) ?_ (by with_unfolding_all rfl); k_whole)) | fail) | ((first | (fail_if_success (with_reducible first | show wpAny _ _ (call (Value.ref _) _) _ _ _ | show wpAny _ _ (exec (Stmt.While _ _ _ _) _) _ _ _ | show wpAny _ _ (exec (Stmt.For _ _ _ _ _) _) _ _ _ | show wpAny _ _ (pyIter _) _ _ _ | show wpAny _ _ (setItem _ _ _) _ _ _ | show wpAny _ _ (eval (Expr.ListComp _ _ _ _) _) _ _ _ | show wpAny _ _ (exec (Stmt.Assign _ (Expr.ListComp _ _ _ _) _) _) _ _ _ | show InvPostG _ _ _ _ _ _ _ _ | show InvEndG _ _ _ _ _ _ | show OnG _ _ _ _ _ _ _ | show Fin _ _ _ _ _ _ | show KswEnd _ _ _ _ _ _ _ _ _ _ _ _ | show wpAny _ _ (call (Value.builtin "sorted") _) _ _ _ | show LCg.CompEnd _ _ _ _ _ _ _ _ _ _ _ _ _ _ | show LCg.CompSrc _ _ _ _ _ _ _ _ _ _ _ _ _ _ | show LCt.CompSrcT _ _ _ _ _ _ _ _ _ _ _ _ _ _ _)) | fail); first | walk1 | (dsimp only; (try k_fold); (first | (fail_if_success (with_reducible first | show wpAny _ _ (call (Value.ref _) _) _ _ _ | show wpAny _ _ (exec (Stmt.While _ _ _ _) _) _ _ _ | show wpAny _ _ (exec (Stmt.For _ _ _ _ _) _) _ _ _ | show wpAny _ _ (pyIter _) _ _ _ | show wpAny _ _ (setItem _ _ _) _ _ _ | show wpAny _ _ (eval (Expr.ListComp _ _ _ _) _) _ _ _ | show wpAny _ _ (exec (Stmt.Assign _ (Expr.ListComp _ _ _ _) _) _) _ _ _ | show InvPostG _ _ _ _ _ _ _ _ | show InvEndG _ _ _ _ _ _ | show OnG _ _ _ _ _ _ _ | show Fin _ _ _ _ _ _ | show KswEnd _ _ _ _ _ _ _ _ _ _ _ _ | show wpAny _ _ (call (Value.builtin "sorted") _) _ _ _ | show LCg.CompEnd _ _ _ _ _ _ _ _ _ _ _ _ _ _ | show LCg.CompSrc _ _ _ _ _ _ _ _ _ _ _ _ _ _ | show LCt.CompSrcT _ _ _ _ _ _ _ _ _ _ _ _ _ _ _)) | fail); walk1)) | (leave1; walk_say "STEP leave1"; try dsimp only) | fail "no step")) | fail)
      rename Fr _ _ _ _ => F5; rename News _ _ _ _ => N5
      k_dflt refine maps_ok (by k_asm) (by k_asm) (by k_asm) (by k_asm) rfl (by (first | ((try dsimp only [ktrTop, Around.deeper, Around.in1]); omega) | fail)) (by (first | ((try dsimp only [ktrTop, Around.deeper, Around.in1]); omega) | fail)) (Ob.keeps F5.keep) hm1 (hm3.keep F5.keep) hm2 (hm4.mono F5.keep) (mk_pairwise rows) (by rw [hkn]; exact mk_lt rows) (Nat.le_trans (mk_len rows) hn)
        (stays_list F5.keep hkl) (hkD.mono F5.keep) (by omega) ⟨_, (N5 (p, _) (by k_mem)).1, rfl, _, rfl⟩ hpI (after (by k_asm) (by k_asm) ?_)
      rintro r6 h6 tk6 F6 N6 K6 ⟨dm, mkv', rfl, mfr, mlo, mD, mK⟩
      obtain ⟨om, hom, hmd⟩ := Heap.dictOf_iff.mp mD
      have lt6 := neAll_of (adopt_ne N5 mfr)
      dsimp only [List.map] at lt6
      replace N6 := adopt F5 N6 mfr hom
      obtain ⟨t2, NT2, hT2, mK⟩ := absorbKV F6 mK
      have hoff4 : OwnOff (tl ++ t2) [dx, d2] := off_join hoff3 (by simp) (tl_offS NT2 hT2 (by
        refine List.forall_mem_cons.mpr ⟨?_, List.forall_mem_cons.mpr ⟨?_, List.forall_mem_nil _⟩⟩
        · exact ⟨_, (N6 (_, dictOf _ 13) (by k_mem)).1, by rintro ⟨_, _, hq⟩; cases hq⟩
        · exact ⟨_, (N6 (_, o2) (by k_mem)).1, (dict_cls hs2').2⟩))
      have NT := news_both (show News g L' h6 tl from fun q hq => N6 q (by simp only [List.mem_cons, List.mem_append]; simp [hq])) NT2
      replace rD := rD.mono (Kn.sub (l' := tl ++ t2) fun q hq => List.mem_append.mpr (.inl hq))
      replace fD := fD.mono (Kn.sub (l' := tl ++ t2) fun q hq => List.mem_append.mpr (.inl hq))
      replace eD := eD.mono (Kn.sub (l' := tl ++ t2) fun q hq => List.mem_append.mpr (.inl hq))
      replace mK := mK.mono (Kn.sub (l' := tl ++ t2) fun q hq => List.mem_append.mpr (.inr hq))
      have N7 := news_take 12 N6
      simp only [List.take_succ_cons, List.take_zero] at N7
      replace N7 := news_both N7 NT
      clear N6 NT NT2 hT2 hoff3 K6 mfr mD hom F5 N5
      simp only [List.nil_append, List.cons_append] at N7
      generalize tl ++ t2 = tl at N7 hoff4 rD fD eD mK
      (try dsimp only)
      (first | ((try k_unmd); (try k_fold); repeat' (first | (k_unfold; (try dsimp only)) | (first | ((with_reducible show wpAny _ _ (subscriptTail _ _ (Value.ref _) (Value.str _ _)) _ _ _); k_here; k_dflt (refine bd_item (knd := PySem.strKind _ _) (by k_asm) (by with_reducible assumption) (strKind_is _ _ _ _) (by with_reducible assumption) ?_ (by with_unfolding_all rfl); k_whole)) | ((with_reducible show wpAny _ _ (subscriptTail _ _ (Value.ref _) (Value.int _ _)) _ _ _); k_here; k_dflt (refine bd_item (knd := PySem.intKind _ _) (by k_asm) (by with_reducible assumption) (intKind_is _ _ _ _) (by with_reducible assumption) ?_ (by with_unfolding_all rfl); k_whole)) | fail) | ((first | (fail_if_success (with_reducible first | show wpAny _ _ (call (Value.ref _) _) _ _ _ | show wpAny _ _ (exec (Stmt.While _ _ _ _) _) _ _ _ | show wpAny _ _ (exec (Stmt.For _ _ _ _ _) _) _ _ _ | show wpAny _ _ (pyIter _) _ _ _ | show wpAny _ _ (setItem _ _ _) _ _ _ | show wpAny _ _ (eval (Expr.ListComp _ _ _ _) _) _ _ _ | show wpAny _ _ (exec (Stmt.Assign _ (Expr.ListComp _ _ _ _) _) _) _ _ _ | show InvPostG _ _ _ _ _ _ _ _ | show InvEndG _ _ _ _ _ _ | show OnG _ _ _ _ _ _ _ | show Fin _ _ _ _ _ _ | show KswEnd _ _ _ _ _ _ _ _ _ _ _ _ | show wpAny _ _ (call (Value.builtin "sorted") _) _ _ _ | show LCg.CompEnd _ _ _ _ _ _ _ _ _ _ _ _ _ _ | show LCg.CompSrc _ _ _ _ _ _ _ _ _ _ _ _ _ _ | show LCt.CompSrcT _ _ _ _ _ _ _ _ _ _ _ _ _ _ _)) | fail); first | walk1 | (dsimp only; (try k_fold); (first | (fail_if_success (with_reducible first | show wpAny _ _ (call (Value.ref _) _) _ _ _ | show wpAny _ _ (exec (Stmt.While _ _ _ _) _) _ _ _ | show wpAny _ _ (exec (Stmt.For _ _ _ _ _) _) _ _ _ | show wpAny _ _ (pyIter _) _ _ _ | show wpAny _ _ (setItem _ _ _) _ _ _ | show wpAny _ _ (eval (Expr.ListComp _ _ _ _) _) _ _ _ | show wpAny _ _ (exec (Stmt.Assign _ (Expr.ListComp _ _ _ _) _) _) _ _ _ | show InvPostG _ _ _ _ _ _ _ _ | show InvEndG _ _ _ _ _ _ | show OnG _ _ _ _ _ _ _ | show Fin _ _ _ _ _ _ | show KswEnd _ _ _ _ _ _ _ _ _ _ _ _ | show wpAny _ _ (call (Value.builtin "sorted") _) _ _ _ | show LCg.CompEnd _ _ _ _ _ _ _ _ _ _ _ _ _ _ | show LCg.CompSrc _ _ _ _ _ _ _ _ _ _ _ _ _ _ | show LCt.CompSrcT _ _ _ _ _ _ _ _ _ _ _ _ _ _ _)) | fail); walk1)) | (leave1; walk_say "STEP leave1"; try dsimp only) | fail "no step")) | fail)
      rename Fr _ _ _ _ => F7; rename News _ _ _ _ => N7
      replace N7 := pull 10 N7 rfl
      dsimp only [List.eraseIdx] at N7
      refine split_head N7 ?_
      clear N7
      intro cst hcst N7
      refine For_invV g (by rfl) (by rfl) ?_ (by intro _; with_unfolding_all rfl)
      (first | ((try k_unmd); (try k_fold); repeat' (first | (k_unfold; (try dsimp only)) | (first | ((with_reducible show wpAny _ _ (subscriptTail _ _ (Value.ref _) (Value.str _ _)) _ _ _); k_here; k_dflt (refine bd_item (knd := PySem.strKind _ _) (by k_asm) (by with_reducible assumption) (strKind_is _ _ _ _) (by with_reducible assumption) ?_ (by with_unfolding_all rfl); k_whole)) | ((with_reducible show wpAny _ _ (subscriptTail _ _ (Value.ref _) (Value.int _ _)) _ _ _); k_here; k_dflt (refine bd_item (knd := PySem.intKind _ _) (by k_asm) (by with_reducible assumption) (intKind_is _ _ _ _) (by with_reducible assumption) ?_ (by with_unfolding_all rfl); k_whole)) | fail) | ((first | (fail_if_success (with_reducible first | show wpAny _ _ (call (Value.ref _) _) _ _ _ | show wpAny _ _ (exec (Stmt.While _ _ _ _) _) _ _ _ | show wpAny _ _ (exec (Stmt.For _ _ _ _ _) _) _ _ _ | show wpAny _ _ (pyIter _) _ _ _ | show wpAny _ _ (setItem _ _ _) _ _ _ | show wpAny _ _ (eval (Expr.ListComp _ _ _ _) _) _ _ _ | show wpAny _ _ (exec (Stmt.Assign _ (Expr.ListComp _ _ _ _) _) _) _ _ _ | show InvPostG _ _ _ _ _ _ _ _ | show InvEndG _ _ _ _ _ _ | show OnG _ _ _ _ _ _ _ | show Fin _ _ _ _ _ _ | show KswEnd _ _ _ _ _ _ _ _ _ _ _ _ | show wpAny _ _ (call (Value.builtin "sorted") _) _ _ _ | show LCg.CompEnd _ _ _ _ _ _ _ _ _ _ _ _ _ _ | show LCg.CompSrc _ _ _ _ _ _ _ _ _ _ _ _ _ _ | show LCt.CompSrcT _ _ _ _ _ _ _ _ _ _ _ _ _ _ _)) | fail); first | walk1 | (dsimp only; (try k_fold); (first | (fail_if_success (with_reducible first | show wpAny _ _ (call (Value.ref _) _) _ _ _ | show wpAny _ _ (exec (Stmt.While _ _ _ _) _) _ _ _ | show wpAny _ _ (exec (Stmt.For _ _ _ _ _) _) _ _ _ | show wpAny _ _ (pyIter _) _ _ _ | show wpAny _ _ (setItem _ _ _) _ _ _ | show wpAny _ _ (eval (Expr.ListComp _ _ _ _) _) _ _ _ | show wpAny _ _ (exec (Stmt.Assign _ (Expr.ListComp _ _ _ _) _) _) _ _ _ | show InvPostG _ _ _ _ _ _ _ _ | show InvEndG _ _ _ _ _ _ | show OnG _ _ _ _ _ _ _ | show Fin _ _ _ _ _ _ | show KswEnd _ _ _ _ _ _ _ _ _ _ _ _ | show wpAny _ _ (call (Value.builtin "sorted") _) _ _ _ | show LCg.CompEnd _ _ _ _ _ _ _ _ _ _ _ _ _ _ | show LCg.CompSrc _ _ _ _ _ _ _ _ _ _ _ _ _ _ | show LCt.CompSrcT _ _ _ _ _ _ _ _ _ _ _ _ _ _ _)) | fail); walk1)) | (leave1; walk_say "STEP leave1"; try dsimp only) | fail "no step")) | fail)
      rename Fr _ _ _ _ => F7; rename News _ _ _ _ => N7
      cases hc4 with
      | cons y1 z1 => cases z1 with
        | cons y2 z2 =>
        cases z2
        cases y1
        cases y2
        rename_i tg trr
        refine loopBD (knd := PySem.strKind PySem.Challenge.rw_nu0316_01.row.prog w) (fun c : Obj × List (Str × Value) => [(d2, c.1)]) cst (fun _ => []) (fun _ c => c.1.IsDictOf (PySem.strKind PySem.Challenge.rw_nu0316_01.row.prog w) c.2) []
          (fun i c => KVs (Kn g []) c.2 ([(Str.ofString "Go", .int (cnt ks gg)), (Str.ofString "Run", .int (cnt ks r))].take i)) (d2 :: cst.map (·.1)) (o2, []) rfl hc2 hc3 F7 N7 (by intro q hq; simpa using hq) (fun _ => rfl) hs2' (by intro p hp; cases hp) .nil ?_ ?_
        · intro c tl' i k y v u h tk own hv hkv sep off hF hP F8 N8
          subst hcst
          obtain ⟨oc, kvc⟩ := c
          dsimp only [kstB] at F8 hP hF
          simp only [List.nil_append, List.cons_append, List.append_assoc] at N8
          obtain ⟨t9, rfl⟩ := Value.isStrOf_shape hkv
          have hil := (List.getElem?_eq_some_iff.mp hv).1
          have hi2 : i = 0 ∨ i = 1 := by simp only [List.length_cons, List.length_nil] at hil; omega
          clear F7 N7 hkv
          rcases hi2 with rfl | rfl
          · obtain ⟨rfl, rfl⟩ := Prod.mk.inj (Option.some.inj hv)
            obtain ⟨tp, hup⟩ := hpI.get _ _ (placesN_at (ks := ks) (k := ks.length + 1) (i := gg) (by omega))
            have hup' : us[(gg : Int).toNat]? = some (Value.int (cnt ks gg) tp) := hup
            have hva : valueAt [(Str.ofString "Go", Value.int (gg : Int) tg), (Str.ofString "Run", Value.int (r : Int) trr)] (Str.ofString "Go") = some (.int gg tg) := rfl
            have hk0 : kvc = [] := by cases hP; rfl
            subst hk0
            clear hup hP hv
            have hKd := kdMark
            (first | ((try k_unmd); (try k_fold); repeat' (first | (k_unfold; (try dsimp only)) | (first | ((with_reducible show wpAny _ _ (subscriptTail _ _ (Value.ref _) (Value.str _ _)) _ _ _); k_here; k_dflt (refine bd_item (knd := PySem.strKind _ _) (by k_asm) (by with_reducible assumption) (strKind_is _ _ _ _) (by with_reducible assumption) ?_ (by with_unfolding_all rfl); k_whole)) | ((with_reducible show wpAny _ _ (subscriptTail _ _ (Value.ref _) (Value.int _ _)) _ _ _); k_here; k_dflt (refine bd_item (knd := PySem.intKind _ _) (by k_asm) (by with_reducible assumption) (intKind_is _ _ _ _) (by with_reducible assumption) ?_ (by with_unfolding_all rfl); k_whole)) | fail) | ((first | (fail_if_success (with_reducible first | show wpAny _ _ (call (Value.ref _) _) _ _ _ | show wpAny _ _ (exec (Stmt.While _ _ _ _) _) _ _ _ | show wpAny _ _ (exec (Stmt.For _ _ _ _ _) _) _ _ _ | show wpAny _ _ (pyIter _) _ _ _ | show wpAny _ _ (setItem _ _ _) _ _ _ | show wpAny _ _ (eval (Expr.ListComp _ _ _ _) _) _ _ _ | show wpAny _ _ (exec (Stmt.Assign _ (Expr.ListComp _ _ _ _) _) _) _ _ _ | show InvPostG _ _ _ _ _ _ _ _ | show InvEndG _ _ _ _ _ _ | show OnG _ _ _ _ _ _ _ | show Fin _ _ _ _ _ _ | show KswEnd _ _ _ _ _ _ _ _ _ _ _ _ | show wpAny _ _ (call (Value.builtin "sorted") _) _ _ _ | show LCg.CompEnd _ _ _ _ _ _ _ _ _ _ _ _ _ _ | show LCg.CompSrc _ _ _ _ _ _ _ _ _ _ _ _ _ _ | show LCt.CompSrcT _ _ _ _ _ _ _ _ _ _ _ _ _ _ _)) | fail); first | walk1 | (dsimp only; (try k_fold); (first | (fail_if_success (with_reducible first | show wpAny _ _ (call (Value.ref _) _) _ _ _ | show wpAny _ _ (exec (Stmt.While _ _ _ _) _) _ _ _ | show wpAny _ _ (exec (Stmt.For _ _ _ _ _) _) _ _ _ | show wpAny _ _ (pyIter _) _ _ _ | show wpAny _ _ (setItem _ _ _) _ _ _ | show wpAny _ _ (eval (Expr.ListComp _ _ _ _) _) _ _ _ | show wpAny _ _ (exec (Stmt.Assign _ (Expr.ListComp _ _ _ _) _) _) _ _ _ | show InvPostG _ _ _ _ _ _ _ _ | show InvEndG _ _ _ _ _ _ | show OnG _ _ _ _ _ _ _ | show Fin _ _ _ _ _ _ | show KswEnd _ _ _ _ _ _ _ _ _ _ _ _ | show wpAny _ _ (call (Value.builtin "sorted") _) _ _ _ | show LCg.CompEnd _ _ _ _ _ _ _ _ _ _ _ _ _ _ | show LCg.CompSrc _ _ _ _ _ _ _ _ _ _ _ _ _ _ | show LCt.CompSrcT _ _ _ _ _ _ _ _ _ _ _ _ _ _ _)) | fail); walk1)) | (leave1; walk_say "STEP leave1"; try dsimp only) | fail "no step")) | fail)
            rename Fr _ _ _ _ => F9; rename News _ _ _ _ => N9
            (try dsimp only)
            refine kda_set (knd := PySem.strKind PySem.Challenge.rw_nu0316_01.row.prog w) F9 N9 (by k_updF) hF (strKind_is _ _ _ _) (by rw [sizeLine_eq]; simp only [List.length_cons, List.length_nil]; omega) ?_
            intro h4 o4 F9 N9 hd4
            (first | ((try k_unmd); (try k_fold); repeat' (first | (k_unfold; (try dsimp only)) | (first | ((with_reducible show wpAny _ _ (subscriptTail _ _ (Value.ref _) (Value.str _ _)) _ _ _); k_here; k_dflt (refine bd_item (knd := PySem.strKind _ _) (by k_asm) (by with_reducible assumption) (strKind_is _ _ _ _) (by with_reducible assumption) ?_ (by with_unfolding_all rfl); k_whole)) | ((with_reducible show wpAny _ _ (subscriptTail _ _ (Value.ref _) (Value.int _ _)) _ _ _); k_here; k_dflt (refine bd_item (knd := PySem.intKind _ _) (by k_asm) (by with_reducible assumption) (intKind_is _ _ _ _) (by with_reducible assumption) ?_ (by with_unfolding_all rfl); k_whole)) | fail) | ((first | (fail_if_success (with_reducible first | show wpAny _ _ (call (Value.ref _) _) _ _ _ | show wpAny _ _ (exec (Stmt.While _ _ _ _) _) _ _ _ | show wpAny _ _ (exec (Stmt.For _ _ _ _ _) _) _ _ _ | show wpAny _ _ (pyIter _) _ _ _ | show wpAny _ _ (setItem _ _ _) _ _ _ | show wpAny _ _ (eval (Expr.ListComp _ _ _ _) _) _ _ _ | show wpAny _ _ (exec (Stmt.Assign _ (Expr.ListComp _ _ _ _) _) _) _ _ _ | show InvPostG _ _ _ _ _ _ _ _ | show InvEndG _ _ _ _ _ _ | show OnG _ _ _ _ _ _ _ | show Fin _ _ _ _ _ _ | show KswEnd _ _ _ _ _ _ _ _ _ _ _ _ | show wpAny _ _ (call (Value.builtin "sorted") _) _ _ _ | show LCg.CompEnd _ _ _ _ _ _ _ _ _ _ _ _ _ _ | show LCg.CompSrc _ _ _ _ _ _ _ _ _ _ _ _ _ _ | show LCt.CompSrcT _ _ _ _ _ _ _ _ _ _ _ _ _ _ _)) | fail); first | walk1 | (dsimp only; (try k_fold); (first | (fail_if_success (with_reducible first | show wpAny _ _ (call (Value.ref _) _) _ _ _ | show wpAny _ _ (exec (Stmt.While _ _ _ _) _) _ _ _ | show wpAny _ _ (exec (Stmt.For _ _ _ _ _) _) _ _ _ | show wpAny _ _ (pyIter _) _ _ _ | show wpAny _ _ (setItem _ _ _) _ _ _ | show wpAny _ _ (eval (Expr.ListComp _ _ _ _) _) _ _ _ | show wpAny _ _ (exec (Stmt.Assign _ (Expr.ListComp _ _ _ _) _) _) _ _ _ | show InvPostG _ _ _ _ _ _ _ _ | show InvEndG _ _ _ _ _ _ | show OnG _ _ _ _ _ _ _ | show Fin _ _ _ _ _ _ | show KswEnd _ _ _ _ _ _ _ _ _ _ _ _ | show wpAny _ _ (call (Value.builtin "sorted") _) _ _ _ | show LCg.CompEnd _ _ _ _ _ _ _ _ _ _ _ _ _ _ | show LCg.CompSrc _ _ _ _ _ _ _ _ _ _ _ _ _ _ | show LCt.CompSrcT _ _ _ _ _ _ _ _ _ _ _ _ _ _ _)) | fail); walk1)) | (leave1; walk_say "STEP leave1"; try dsimp only) | fail "no step")) | fail)
            dsimp only [InvPostG]
            exact end0 (o4, _) sep F9 (by simpa only [List.nil_append, List.append_assoc, List.cons_append] using N9) rfl (by intro p hp; cases hp) (by (first | (intro z h1 h2 h3; (simp only [List.contains_cons, List.contains_nil, Bool.or_eq_false_iff, beq_eq_false_iff_ne, ne_eq, List.forall_mem_cons, List.mem_cons, List.not_mem_nil, or_false, forall_eq_or_imp, forall_eq] at h1 h2 h3); (simp only [h1, h2, h3, if_false, ite_false, List.contains_cons, List.contains_nil, Bool.or_false, beq_iff_eq, Bool.or_eq_true, or_self, or_false, and_true, not_false_eq_true, Bool.false_eq_true]); done) | fail)) hd4 (.cons (.int _ _) .nil)
          · obtain ⟨rfl, rfl⟩ := Prod.mk.inj (Option.some.inj hv)
            obtain ⟨tp, hup⟩ := hpI.get _ _ (placesN_at (ks := ks) (k := ks.length + 1) (i := r) (by omega))
            have hup' : us[(r : Int).toNat]? = some (Value.int (cnt ks r) tp) := hup
            have hva : valueAt [(Str.ofString "Go", Value.int (gg : Int) tg), (Str.ofString "Run", Value.int (r : Int) trr)] (Str.ofString "Run") = some (.int r trr) := rfl
            obtain ⟨tq, hk0⟩ : ∃ tq, kvc = [(Str.ofString "Go", Value.int (cnt ks gg : Nat) tq)] := by
              replace hP : KVs (Kn g []) kvc [(Str.ofString "Go", Dat.int (cnt ks gg))] := hP
              cases hP with
              | cons q1 q2 => cases q2; cases q1; exact ⟨_, rfl⟩
            subst hk0
            clear hup hP hv
            have hKd := kdMark
            (first | ((try k_unmd); (try k_fold); repeat' (first | (k_unfold; (try dsimp only)) | (first | ((with_reducible show wpAny _ _ (subscriptTail _ _ (Value.ref _) (Value.str _ _)) _ _ _); k_here; k_dflt (refine bd_item (knd := PySem.strKind _ _) (by k_asm) (by with_reducible assumption) (strKind_is _ _ _ _) (by with_reducible assumption) ?_ (by with_unfolding_all rfl); k_whole)) | ((with_reducible show wpAny _ _ (subscriptTail _ _ (Value.ref _) (Value.int _ _)) _ _ _); k_here; k_dflt (refine bd_item (knd := PySem.intKind _ _) (by k_asm) (by with_reducible assumption) (intKind_is _ _ _ _) (by with_reducible assumption) ?_ (by with_unfolding_all rfl); k_whole)) | fail) | ((first | (fail_if_success (with_reducible first | show wpAny _ _ (call (Value.ref _) _) _ _ _ | show wpAny _ _ (exec (Stmt.While _ _ _ _) _) _ _ _ | show wpAny _ _ (exec (Stmt.For _ _ _ _ _) _) _ _ _ | show wpAny _ _ (pyIter _) _ _ _ | show wpAny _ _ (setItem _ _ _) _ _ _ | show wpAny _ _ (eval (Expr.ListComp _ _ _ _) _) _ _ _ | show wpAny _ _ (exec (Stmt.Assign _ (Expr.ListComp _ _ _ _) _) _) _ _ _ | show InvPostG _ _ _ _ _ _ _ _ | show InvEndG _ _ _ _ _ _ | show OnG _ _ _ _ _ _ _ | show Fin _ _ _ _ _ _ | show KswEnd _ _ _ _ _ _ _ _ _ _ _ _ | show wpAny _ _ (call (Value.builtin "sorted") _) _ _ _ | show LCg.CompEnd _ _ _ _ _ _ _ _ _ _ _ _ _ _ | show LCg.CompSrc _ _ _ _ _ _ _ _ _ _ _ _ _ _ | show LCt.CompSrcT _ _ _ _ _ _ _ _ _ _ _ _ _ _ _)) | fail); first | walk1 | (dsimp only; (try k_fold); (first | (fail_if_success (with_reducible first | show wpAny _ _ (call (Value.ref _) _) _ _ _ | show wpAny _ _ (exec (Stmt.While _ _ _ _) _) _ _ _ | show wpAny _ _ (exec (Stmt.For _ _ _ _ _) _) _ _ _ | show wpAny _ _ (pyIter _) _ _ _ | show wpAny _ _ (setItem _ _ _) _ _ _ | show wpAny _ _ (eval (Expr.ListComp _ _ _ _) _) _ _ _ | show wpAny _ _ (exec (Stmt.Assign _ (Expr.ListComp _ _ _ _) _) _) _ _ _ | show InvPostG _ _ _ _ _ _ _ _ | show InvEndG _ _ _ _ _ _ | show OnG _ _ _ _ _ _ _ | show Fin _ _ _ _ _ _ | show KswEnd _ _ _ _ _ _ _ _ _ _ _ _ | show wpAny _ _ (call (Value.builtin "sorted") _) _ _ _ | show LCg.CompEnd _ _ _ _ _ _ _ _ _ _ _ _ _ _ | show LCg.CompSrc _ _ _ _ _ _ _ _ _ _ _ _ _ _ | show LCt.CompSrcT _ _ _ _ _ _ _ _ _ _ _ _ _ _ _)) | fail); walk1)) | (leave1; walk_say "STEP leave1"; try dsimp only) | fail "no step")) | fail)
            rename Fr _ _ _ _ => F9; rename News _ _ _ _ => N9
            (try dsimp only)
            refine kda_set (knd := PySem.strKind PySem.Challenge.rw_nu0316_01.row.prog w) F9 N9 (by k_updF) hF (strKind_is _ _ _ _) (by rw [sizeLine_eq]; simp only [List.length_cons, List.length_nil]; omega) ?_
            intro h4 o4 F9 N9 hd4
            (first | ((try k_unmd); (try k_fold); repeat' (first | (k_unfold; (try dsimp only)) | (first | ((with_reducible show wpAny _ _ (subscriptTail _ _ (Value.ref _) (Value.str _ _)) _ _ _); k_here; k_dflt (refine bd_item (knd := PySem.strKind _ _) (by k_asm) (by with_reducible assumption) (strKind_is _ _ _ _) (by with_reducible assumption) ?_ (by with_unfolding_all rfl); k_whole)) | ((with_reducible show wpAny _ _ (subscriptTail _ _ (Value.ref _) (Value.int _ _)) _ _ _); k_here; k_dflt (refine bd_item (knd := PySem.intKind _ _) (by k_asm) (by with_reducible assumption) (intKind_is _ _ _ _) (by with_reducible assumption) ?_ (by with_unfolding_all rfl); k_whole)) | fail) | ((first | (fail_if_success (with_reducible first | show wpAny _ _ (call (Value.ref _) _) _ _ _ | show wpAny _ _ (exec (Stmt.While _ _ _ _) _) _ _ _ | show wpAny _ _ (exec (Stmt.For _ _ _ _ _) _) _ _ _ | show wpAny _ _ (pyIter _) _ _ _ | show wpAny _ _ (setItem _ _ _) _ _ _ | show wpAny _ _ (eval (Expr.ListComp _ _ _ _) _) _ _ _ | show wpAny _ _ (exec (Stmt.Assign _ (Expr.ListComp _ _ _ _) _) _) _ _ _ | show InvPostG _ _ _ _ _ _ _ _ | show InvEndG _ _ _ _ _ _ | show OnG _ _ _ _ _ _ _ | show Fin _ _ _ _ _ _ | show KswEnd _ _ _ _ _ _ _ _ _ _ _ _ | show wpAny _ _ (call (Value.builtin "sorted") _) _ _ _ | show LCg.CompEnd _ _ _ _ _ _ _ _ _ _ _ _ _ _ | show LCg.CompSrc _ _ _ _ _ _ _ _ _ _ _ _ _ _ | show LCt.CompSrcT _ _ _ _ _ _ _ _ _ _ _ _ _ _ _)) | fail); first | walk1 | (dsimp only; (try k_fold); (first | (fail_if_success (with_reducible first | show wpAny _ _ (call (Value.ref _) _) _ _ _ | show wpAny _ _ (exec (Stmt.While _ _ _ _) _) _ _ _ | show wpAny _ _ (exec (Stmt.For _ _ _ _ _) _) _ _ _ | show wpAny _ _ (pyIter _) _ _ _ | show wpAny _ _ (setItem _ _ _) _ _ _ | show wpAny _ _ (eval (Expr.ListComp _ _ _ _) _) _ _ _ | show wpAny _ _ (exec (Stmt.Assign _ (Expr.ListComp _ _ _ _) _) _) _ _ _ | show InvPostG _ _ _ _ _ _ _ _ | show InvEndG _ _ _ _ _ _ | show OnG _ _ _ _ _ _ _ | show Fin _ _ _ _ _ _ | show KswEnd _ _ _ _ _ _ _ _ _ _ _ _ | show wpAny _ _ (call (Value.builtin "sorted") _) _ _ _ | show LCg.CompEnd _ _ _ _ _ _ _ _ _ _ _ _ _ _ | show LCg.CompSrc _ _ _ _ _ _ _ _ _ _ _ _ _ _ | show LCt.CompSrcT _ _ _ _ _ _ _ _ _ _ _ _ _ _ _)) | fail); walk1)) | (leave1; walk_say "STEP leave1"; try dsimp only) | fail "no step")) | fail)
            dsimp only [InvPostG]
            exact end0 (o4, _) sep F9 (by simpa only [List.nil_append, List.append_assoc, List.cons_append] using N9) rfl (by intro p hp; cases hp) (by (first | (intro z h1 h2 h3; (simp only [List.contains_cons, List.contains_nil, Bool.or_eq_false_iff, beq_eq_false_iff_ne, ne_eq, List.forall_mem_cons, List.mem_cons, List.not_mem_nil, or_false, forall_eq_or_imp, forall_eq] at h1 h2 h3); (simp only [h1, h2, h3, if_false, ite_false, List.contains_cons, List.contains_nil, Bool.or_false, beq_iff_eq, Bool.or_eq_true, or_self, or_false, and_true, not_false_eq_true, Bool.false_eq_true]); done) | fail)) hd4 (.cons (.int _ _) (.cons (.int _ _) .nil))
        · intro c tl' u h tk off hF hP F8 N8
          subst hcst
          obtain ⟨oc, kvc⟩ := c
          dsimp only [kstB] at F8 hP hF
          simp only [List.nil_append, List.cons_append, List.append_assoc] at N8
          replace hP : KVs (Kn g []) kvc [(Str.ofString "Go", Dat.int (cnt ks gg)), (Str.ofString "Run", Dat.int (cnt ks r))] := hP
          obtain ⟨tp, hup⟩ := hpI.get _ _ (placesN_at (ks := ks) (k := ks.length + 1) (i := b) (by omega))
          have hup' : us[(b : Int).toNat]? = some (Value.int (cnt ks b) tp) := hup
          clear F7 N7 hup
          dsimp only
          have hKd := kdMark
          (first | ((try k_unmd); (try k_fold); repeat' (first | (k_unfold; (try dsimp only)) | (first | ((with_reducible show wpAny _ _ (subscriptTail _ _ (Value.ref _) (Value.str _ _)) _ _ _); k_here; k_dflt (refine bd_item (knd := PySem.strKind _ _) (by k_asm) (by with_reducible assumption) (strKind_is _ _ _ _) (by with_reducible assumption) ?_ (by with_unfolding_all rfl); k_whole)) | ((with_reducible show wpAny _ _ (subscriptTail _ _ (Value.ref _) (Value.int _ _)) _ _ _); k_here; k_dflt (refine bd_item (knd := PySem.intKind _ _) (by k_asm) (by with_reducible assumption) (intKind_is _ _ _ _) (by with_reducible assumption) ?_ (by with_unfolding_all rfl); k_whole)) | fail) | ((first | (fail_if_success (with_reducible first | show wpAny _ _ (call (Value.ref _) _) _ _ _ | show wpAny _ _ (exec (Stmt.While _ _ _ _) _) _ _ _ | show wpAny _ _ (exec (Stmt.For _ _ _ _ _) _) _ _ _ | show wpAny _ _ (pyIter _) _ _ _ | show wpAny _ _ (setItem _ _ _) _ _ _ | show wpAny _ _ (eval (Expr.ListComp _ _ _ _) _) _ _ _ | show wpAny _ _ (exec (Stmt.Assign _ (Expr.ListComp _ _ _ _) _) _) _ _ _ | show InvPostG _ _ _ _ _ _ _ _ | show InvEndG _ _ _ _ _ _ | show OnG _ _ _ _ _ _ _ | show Fin _ _ _ _ _ _ | show KswEnd _ _ _ _ _ _ _ _ _ _ _ _ | show wpAny _ _ (call (Value.builtin "sorted") _) _ _ _ | show LCg.CompEnd _ _ _ _ _ _ _ _ _ _ _ _ _ _ | show LCg.CompSrc _ _ _ _ _ _ _ _ _ _ _ _ _ _ | show LCt.CompSrcT _ _ _ _ _ _ _ _ _ _ _ _ _ _ _)) | fail); first | walk1 | (dsimp only; (try k_fold); (first | (fail_if_success (with_reducible first | show wpAny _ _ (call (Value.ref _) _) _ _ _ | show wpAny _ _ (exec (Stmt.While _ _ _ _) _) _ _ _ | show wpAny _ _ (exec (Stmt.For _ _ _ _ _) _) _ _ _ | show wpAny _ _ (pyIter _) _ _ _ | show wpAny _ _ (setItem _ _ _) _ _ _ | show wpAny _ _ (eval (Expr.ListComp _ _ _ _) _) _ _ _ | show wpAny _ _ (exec (Stmt.Assign _ (Expr.ListComp _ _ _ _) _) _) _ _ _ | show InvPostG _ _ _ _ _ _ _ _ | show InvEndG _ _ _ _ _ _ | show OnG _ _ _ _ _ _ _ | show Fin _ _ _ _ _ _ | show KswEnd _ _ _ _ _ _ _ _ _ _ _ _ | show wpAny _ _ (call (Value.builtin "sorted") _) _ _ _ | show LCg.CompEnd _ _ _ _ _ _ _ _ _ _ _ _ _ _ | show LCg.CompSrc _ _ _ _ _ _ _ _ _ _ _ _ _ _ | show LCt.CompSrcT _ _ _ _ _ _ _ _ _ _ _ _ _ _ _)) | fail); walk1)) | (leave1; walk_say "STEP leave1"; try dsimp only) | fail "no step")) | fail)
          rename Fr _ _ _ _ => F9; rename News _ _ _ _ => N9
          (try k_unfold)
          refine ⟨_, _, _, rfl, F9, x', _, rfl, ⟨⟨_, _, InstAt.of_news N9 (by k_mem) (by k_mem)⟩, ⟨_, rfl, .str _ _⟩, ⟨_, rfl, .int _ _⟩, ?_, ?_, ⟨_, rfl, .int _ _⟩, ?_, ?_, ?_, ?_, ?_, ⟨_, rfl, .int _ _⟩, ?_, ?_⟩, ?_⟩
          · exact lst_att N9 (by k_mem) rfl (hi3.mono F9.keep)
          · exact lst_att N9 (by k_mem) rfl (rD.mono (Kn.hp F9 N9 fun q hq => by simp [hq]))
          · exact lst_att N9 (by k_mem) rfl (hw3.mono F9.keep)
          · exact lst_att N9 (by k_mem) rfl (hdf3.mono F9.keep)
          · exact lst_att N9 (by k_mem) rfl (fD.mono (Kn.hp F9 N9 fun q hq => by simp [hq]))
          · exact lst_att N9 (by k_mem) rfl (eD.mono (Kn.hp F9 N9 fun q hq => by simp [hq]))
          · exact lst_att N9 (by k_mem) rfl (hp3.mono F9.keep)
          · exact ⟨_, _, rfl, mlo, Heap.dictOf_iff.mpr ⟨_, (N9 (_, om) (by k_mem)).1, hmd⟩, mK.mono (Kn.hp F9 N9 fun q hq => by simp [hq])⟩
          · exact ⟨_, _, rfl, lo2, Heap.dictOf_iff.mpr ⟨_, (N9 (_, oc) (by k_mem)).1, hF⟩, hP.mono (Kn.hp F9 N9 (l := []) fun q hq => by cases hq)⟩
          · refine ⟨⟨dx, _, (N9 (x', _) (by k_mem)).1, (N9 (dx, _) (by k_mem)).1, fresh_of sub (N9 (x', _) (by k_mem)).2.2, fresh_of sub (N9 (dx, _) (by k_mem)).2.2⟩, fun d e => ?_, fun d e => ?_⟩
            · replace e : some (some (Value.ref dm)) = some (some (Value.ref d)) := e
              cases e
              exact fresh_of sub (N9 (dm, _) (by k_mem)).2.2
            · replace e : some (some (Value.ref d2)) = some (some (Value.ref d)) := e
              cases e
              exact fresh_of sub (N9 (d2, _) (by k_mem)).2.2

section
variable {prog : Program} {w : World} {A₀ A : Around} {E : Value → Shared → Prop} {s : Shared} {base h₀ : Heap} {outer : List Env} {L : Addr} {m : Str → Option Value} {env : Env} {news : List (Addr × Obj)}
theorem code_BC {K : Frag} {p : Program} {loose : List Str} {mean : ExcName → Option Value} {mg mb : Str → Option Value} {Q : Value → Shared → Prop} {name qual : Str} {params : Arguments} {body : List Stmt} {scope : Scope} {dV kV doc pm cdv ct oc : Value} {an od : Option Addr} {osl : Array (Option Value)} {f : Addr} {args : Args} {binds : List (Str × Value)}
    (Out : Heap → Value → Prop)
    (B : Below A₀ base outer h₀) (F : Fr h₀ L s.heap m) (X₀ : K.In h₀) (N : News h₀ L s.heap news) (T : Top p loose mean mg mb h₀) (hA : A.frames = some (env :: outer)) (hf : env.frame = some L) (hke : env.scope.kind = .function)
    (ho : K.lookup f = some ⟨oc, od, .func (fnOf name qual params body scope dV kV doc pm an cdv ct), osl⟩) (hcd : codeIn K cdv qual = true) (hroom : A.depth < recursionLimit)
    (hbind : BindsTo s (fnOf name qual params body scope dV kV doc pm an cdv ct) args binds) (hkind : (binds.all fun y => scope.names.lookup y.1 == some .local || scope.names.lookup y.1 == some .cell) = true)
    (hnd : ((cellsFrom 0 scope.names []).map (·.1)).Nodup)
    (ret : ∀ r h' tk, (∀ b o, s.heap.get? b = some o → b ∉ news.map (·.1) → h'.get? b = some o) → Out h' r → Q r { s with heap := h', toks := tk })
    (h : ∀ g L' h₁ tk cells, GSub s.heap g (news.map (·.1)) → Fr g L' h₁ (bindL (envOfC qual scope L' f cdv).kindOf binds fun _ => none) → News g L' h₁ (cells ++ news) →
      CellsAre (bindC (envOfC qual scope L' f cdv).kindOf binds fun _ => none) (cellsFrom (L' + 1) scope.names []) cells → Below A base (env :: outer) g → K.In g → Top p loose mean mg mb g →
      wpAny (model prog w) (A.deeper (envOfC qual scope L' f cdv)) (execs body (envOfC qual scope L' f cdv))
        (Fin g L' s Out)
        (fun e s' => wpAny (model prog w) (A.deeper (envOfC qual scope L' f cdv)) (leaving (envOfC qual scope L' f cdv) e) (fun _ s'' => E e s'') (fun e' s'' => E e' s'') s')
        { s with heap := h₁, toks := tk })
    (hco : scope.isCoroutine = false) (hgen : scope.isGenerator = false) (hk : scope.kind = .function) :
    codeAny (model prog w) A (.call (.ref f) args) (fun r s' => match r with | .ok (.ret v) => Q v s' | .ok _ => False | .error e => E e s') s := by
  obtain ⟨FG, BG, st, lv⟩ := groundX (R := fun r s' => match r with | .ok (.ret v) => Q v s' | .ok _ => False | .error e => E e s') B F N hA hf hke
  refine codeAny_call_function hroom ((X₀.keeps F.keep) _ _ ho) rfl hco hgen rfl (codeRec_of (X₀.keeps F.keep) hcd) (hbind _ _ _ _ ?_)
  refine wpAny_newFunctionEnv_cells hk (kindsX hkind _) fun env' he s' x => ?_
  subst he
  refine ⟨(T.nolimit.keeps F.keep).keeps x.toInCall.keep, codeAny_func ?_⟩
  obtain ⟨h₁, tk, rfl, _⟩ := x.done
  have hk₁ := x.toInCall.keep
  obtain ⟨cells, NC, Y⟩ := Cl.news (h₀ := s.heap) (Nat.le_refl _) fun n c hm => ⟨x.cell n c (lookup_of_mem_nodup (cellsFrom_names scope.names 0 (s.heap.objs.size + 1) [] [] rfl ▸ hnd) hm), x.above n c hm⟩
  refine wpAny_mono (h _ s.heap.objs.size h₁ tk cells (fun b o e n => hideAll_get _ e n) ⟨x.toInCall.ns, fun b o e => hk₁ b o (of_hideAll _ e), Nat.le_of_eq (hideAll_size _ _)⟩ (fun p hp => ?_) Y BG (X₀.keeps st) (T.keeps st)) (fun fl s' hf => ?_) fun _ _ y => y
  · rcases List.mem_append.mp hp with hp | hp
    · refine ⟨(NC p hp).1, (NC p hp).2.1, ?_⟩
      cases q : (hideAll s.heap (news.map (·.1))).get? p.1 with
      | none => rfl
      | some o => have := of_hideAll _ q; rw [(NC p hp).2.2] at this; cases this
    · exact ⟨hk₁ _ _ (N p hp).1, Nat.ne_of_lt (Heap.lt_size (N p hp).1), hideAll_none _ (List.mem_map_of_mem hp)⟩
  · obtain ⟨m', h', tk', rfl, Fe, O⟩ := hf
    exact lv _ _ ⟨_, m', [], Fe, News.nil, fun _ _ => ret _ h' tk' (fun b o e hb => Fe.keep b o (hideAll_get _ e hb)) O⟩
end
section
variable {prog : Program} {w : World} {A : Around} {h₀ : Heap} {L : Addr} {m : Str → Option Value} {env : Env} {ct elt : Expr} {x : Str} {scope : Scope} {cl : List (Str × Addr)} {s : Shared} {S : List (Addr × Obj) → Prop} {P : Nat → Value → Prop} {Fn : List Value → List (Addr × Obj) → Prop}
/-- a comprehension's turns, by an invariant -/
theorem compI {σ : Type} {n : Nat} (Led : σ → List (Addr × Obj)) (J : Nat → List Value → σ → Prop) (c₀ : σ) (h0 : J 0 [] c₀)
    (turn : ∀ i ys c v I oI C oC D m₂ h tk (E' : Value → Shared → Prop), i < n → P i v → J i ys c → LCg.NsObj oC m₂ → m₂ x = some v → Fr h₀ L h m → News h₀ L h ((I, oI) :: (C, oC) :: (D, LCg.lst ys) :: Led c) → LCg.Off3 I C D (Led c) → ((@Ne Nat I C) ∧ (@Ne Nat I D) ∧ (@Ne Nat C D)) →
      wpAny (model prog w) A (eval elt (compEnvC scope cl C env)) (LCg.CompEnd h₀ L m { s with heap := h, toks := tk } I oI C oC D (LCg.lst ys) S (fun y news' => ∃ c', news' = Led c' ∧ J (i + 1) (ys ++ [y]) c')) E' { s with heap := h, toks := tk })
    (fin : ∀ ys c, J n ys c → Fn ys (Led c)) : LCg.CompRest prog w A h₀ L m env elt x scope cl s S P Fn n 0 [] (Led c₀) := by
  have key : ∀ (j i : Nat) (ys : List Value) (c : σ), i + j = n → J i ys c → LCg.CompRest prog w A h₀ L m env elt x scope cl s S P Fn j i ys (Led c) := by
    intro j
    induction j with
    | zero =>
      intro i ys c hi hy
      obtain rfl : i = n := by omega
      exact LCg.CompRest.zero (fin ys c hy)
    | succ j ih =>
      intro i ys c hi hy
      refine LCg.CompRest.succ ?_
      intro v I oI C oC D m₂ h tk E' hv hC hx F N off ne
      refine wpAny_mono (turn i ys c v I oI C oC D m₂ h tk E' (by omega) hv hy hC hx F N off ne) (fun y s₂ hq => ?_) fun _ _ e => e
      obtain ⟨h', tk', nw, e, F', N', off', hS, c', rfl, hJ⟩ := hq
      exact ⟨h', tk', _, e, F', N', off', hS, ih (i + 1) _ c' (by omega) hJ⟩
  exact key n 0 [] c₀ (by omega) h0
/-- one with a test -/
theorem compIT {σ : Type} {n : Nat} (Led : σ → List (Addr × Obj)) (J : Nat → List Value → σ → Prop) (c₀ : σ) (h0 : J 0 [] c₀)
    (turn : ∀ i ys c v I oI C oC D m₂ h tk (E' : Value → Shared → Prop), i < n → P i v → J i ys c → LCg.NsObj oC m₂ → m₂ x = some v → Fr h₀ L h m → News h₀ L h ((I, oI) :: (C, oC) :: (D, LCg.lst ys) :: Led c) → LCg.Off3 I C D (Led c) → ((@Ne Nat I C) ∧ (@Ne Nat I D) ∧ (@Ne Nat C D)) →
      wpAny (model prog w) A (isTrue ct (compEnvC scope cl C env) (eval ct (compEnvC scope cl C env))) (fun ok s' => if ok = true then
        wpAny (model prog w) A (eval elt (compEnvC scope cl C env)) (LCg.CompEnd h₀ L m { s with heap := h, toks := tk } I oI C oC D (LCg.lst ys) S (fun y news' => ∃ c', news' = Led c' ∧ J (i + 1) (ys ++ [y]) c')) E' s'
        else LCg.CompEnd h₀ L m { s with heap := h, toks := tk } I oI C oC D (LCg.lst ys) S (fun _ news' => ∃ c', news' = Led c' ∧ J (i + 1) ys c') Value.none s') E' { s with heap := h, toks := tk })
    (fin : ∀ ys c, J n ys c → Fn ys (Led c)) : LCt.CompRestT prog w A h₀ L m env ct elt x scope cl s S P Fn n 0 [] (Led c₀) := by
  have key : ∀ (j i : Nat) (ys : List Value) (c : σ), i + j = n → J i ys c → LCt.CompRestT prog w A h₀ L m env ct elt x scope cl s S P Fn j i ys (Led c) := by
    intro j
    induction j with
    | zero =>
      intro i ys c hi hy
      obtain rfl : i = n := by omega
      exact LCt.CompRestT.zero (fin ys c hy)
    | succ j ih =>
      intro i ys c hi hy
      refine LCt.CompRestT.succ ?_
      intro v I oI C oC D m₂ h tk E' hv hC hx F N off ne
      refine wpAny_mono (turn i ys c v I oI C oC D m₂ h tk E' (by omega) hv hy hC hx F N off ne) (fun ok s₂ hq => ?_) fun _ _ e => e
      cases ok with
      | true =>
        simp only [if_true] at hq ⊢
        refine wpAny_mono hq (fun y s₃ hq => ?_) fun _ _ e => e
        obtain ⟨h', tk', nw, e, F', N', off', hS, c', rfl, hJ⟩ := hq
        exact ⟨h', tk', _, e, F', N', off', hS, ih (i + 1) _ c' (by omega) hJ⟩
      | false =>
        simp only [Bool.false_eq_true, if_false] at hq ⊢
        obtain ⟨h', tk', nw, e, F', N', off', hS, c', rfl, hJ⟩ := hq
        exact ⟨h', tk', _, e, F', N', off', hS, ih (i + 1) _ c' (by omega) hJ⟩
  exact key n 0 [] c₀ (by omega) h0
end

section
variable {prog : Program} {w : World} {A : Around} {E : Value → Shared → Prop} {s : Shared} {h₀ : Heap} {L d : Addr} {m : Str → Option Value} {news : List (Addr × Obj)} {Q : Value → Shared → Prop}
theorem sorted_cmds {kvs : List (Str × Value)} (hh : A.handled = none) (F : Fr h₀ L s.heap m) (N : News h₀ L s.heap news) (hD : s.heap.DictOf (PySem.strKind prog w) d kvs) (lo : (d == sysModules) = false) (hk : kvs.map (·.1) = [Str.ofString "Go", Str.ofString "Run"])
    (h : ∀ D h' tk t1 t2 c, Fr h₀ L h' m → News h₀ L h' ((D, listOf (List.toArray [Value.str (Str.ofString "Go") t1, Value.str (Str.ofString "Run") t2]) c) :: news) → (∀ q ∈ news, q.1 < D) → Q (.ref D) { s with heap := h', toks := tk }) :
    wpAny (model prog w) A (call (.builtin "sorted") [.ref d]) Q E s := by
  obtain ⟨ep, hat⟩ := hD.dictAt
  have hlen : kvs.length = 2 := by rw [← List.length_map (f := (·.1)), hk]; rfl
  refine kdu_sorted (kdl_dict (knd := PySem.strKind prog w) (kvs := kvs) (ep := ep) lo) hh F N hat (by rw [sizeLine_eq]; omega) fun D h' tk vs F' N' l1 hl hv => ?_
  have key : ∀ (j : Nat) (k : Str) (v : Value), [Str.ofString "Go", Str.ofString "Run"][j]? = some k → vs[j]? = some v → ∃ t, v = Value.str k t := by
    intro j k v e hj
    obtain ⟨k', x, hx, hq⟩ := hv j v hj
    have : (kvs.map (·.1))[j]? = some k' := by rw [List.getElem?_map, hx]; rfl
    rw [hk, e] at this
    cases this
    exact Value.isStrOf_shape hq
  match vs, hl, key with
  | [v1, v2], _, key =>
    obtain ⟨t1, rfl⟩ := key 0 _ v1 rfl rfl
    obtain ⟨t2, rfl⟩ := key 1 _ v2 rfl rfl
    refine kas_lsort (vs := [Value.str (Str.ofString "Go") t1, Value.str (Str.ofString "Run") t2]) F' N' (by k_updF) rfl (Nat.le_refl 2) (by show 2 < 64; omega) (T := Value.type "str") (by intro e1 h9 _ _; kas_types) rfl ?_
    intro e1 h9 F9 N9
    kas_step
    refine kas_lt_str ?_
    kas_known
    kas_step
    kas_out
    refine KasFin.intro F9 N9 (by k_updF) ?_
    intro h' c' F' N'
    exact h D h' _ t1 t2 c' F' N' l1
  | [], e, _ => rw [hlen] at e; cases e
  | [_], e, _ => rw [hlen] at e; cases e
  | _ :: _ :: _ :: _, e, _ => rw [hlen] at e; simp at e
end

def seenD (o : OD) : Dat := .tuple [o.name, o.key, .list o.imports, .list o.rows, o.dsize, .list o.words, .list o.dfix, .list o.fixups, .list o.entries, .list o.pointers, .list (o.maps.map fun p => .tuple [.int p.1, p.2]), .list (o.cmds.map fun p => .tuple [.str p.1, p.2]), o.body]
theorem find_asc {l : List (Int × Dat)} (h : (l.map (·.1)).Pairwise (· < ·)) {k : Int} {d : Dat} (hm : (k, d) ∈ l) : (l.find? fun p => p.1 = k).map (·.2) = some d := by
  induction l with
  | nil => cases hm
  | cons p l ih =>
    rw [List.map_cons, List.pairwise_cons] at h
    rw [List.find?_cons]
    rcases List.mem_cons.mp hm with e | hm
    · rw [← e]; simp
    · have : ¬ p.1 = k := by
        have := h.1 k (List.mem_map.mpr ⟨_, hm, rfl⟩)
        omega
      simp only [this, decide_false]
      exact ih h.2 hm
theorem cp_known {g : Heap} {cst : List (Addr × Obj)} {a : Addr} {c : Nat} {vs : List Value} {ds : List Dat} (hm : (a, listOf vs.toArray c) ∈ cst) (h : DIs (Hp g) vs ds) : DI (Kn g cst) (.ref a) (.list ds) := .list (.inr hm) rfl rfl (h.mono Kn.base)
theorem off3_two {I C D : Addr} {p q : Addr × Obj} {l : List (Addr × Obj)} (h : LCg.Off3 I C D l) (p1 : @LT.lt Nat _ I p.1) (p2 : @LT.lt Nat _ C p.1) (p3 : @LT.lt Nat _ D p.1) (q1 : @LT.lt Nat _ I q.1) (q2 : @LT.lt Nat _ C q.1) (q3 : @LT.lt Nat _ D q.1) : LCg.Off3 I C D (p :: q :: l) :=
  ⟨⟨Nat.ne_of_gt p1, Nat.ne_of_gt p2, Nat.ne_of_gt p3⟩, ⟨Nat.ne_of_gt q1, Nat.ne_of_gt q2, Nat.ne_of_gt q3⟩, h⟩
theorem off3_one {I C D : Addr} {p : Addr × Obj} {l : List (Addr × Obj)} (h : LCg.Off3 I C D l) (p1 : @LT.lt Nat _ I p.1) (p2 : @LT.lt Nat _ C p.1) (p3 : @LT.lt Nat _ D p.1) : LCg.Off3 I C D (p :: l) :=
  ⟨⟨Nat.ne_of_gt p1, Nat.ne_of_gt p2, Nat.ne_of_gt p3⟩, h⟩
theorem sub_mid {α : Type} {A B C : List α} : ∀ p ∈ A ++ (B ++ C), p ∈ B ++ (A ++ C) := fun p hp => by
  simp only [List.mem_append] at hp ⊢
  rcases hp with h | h | h
  · exact .inr (.inl h)
  · exact .inl h
  · exact .inr (.inr h)
theorem cend {h₀ : Heap} {L I C D : Addr} {m : Str → Option Value} {s₁ : Shared} {oI oC oD : Obj} {S : List (Addr × Obj) → Prop} {rest : Value → List (Addr × Obj) → Prop} {y : Value} {h' : Heap} {tk : Nat} (pre cst c new : List (Addr × Obj))
    (F : Fr h₀ L h' m) (N : News h₀ L h' (new ++ ((I, oI) :: (C, oC) :: (D, oD) :: (pre ++ (cst ++ c))))) (hne : LCg.Off3 I C D new) (off : LCg.Off3 I C D (pre ++ (cst ++ c))) (hS : S (pre ++ (cst ++ (new ++ c)))) (r : rest y (pre ++ (cst ++ (new ++ c)))) :
    LCg.CompEnd h₀ L m s₁ I oI C oC D oD S rest y { s₁ with heap := h', toks := tk } := by
  refine LCg.CompEnd.intro F N (pre ++ (cst ++ (new ++ c))) (fun p hp => ?_) (LCg.Off3.of fun p hp => ?_) hS r
  · simp only [List.mem_cons, List.mem_append] at hp ⊢
    rcases hp with h | h | h | h | h | h | h
    · exact .inr (.inl h)
    · exact .inr (.inr (.inl h))
    · exact .inr (.inr (.inr (.inl h)))
    · exact .inr (.inr (.inr (.inr (.inl h))))
    · exact .inr (.inr (.inr (.inr (.inr (.inl h)))))
    · exact .inl h
    · exact .inr (.inr (.inr (.inr (.inr (.inr h)))))
  · have o1 := hne.mem
    have o2 := off.mem
    simp only [List.mem_append] at hp o2
    rcases hp with h | h | h | h
    · exact o2 p (.inl h)
    · exact o2 p (.inr (.inl h))
    · exact o1 p h
    · exact o2 p (.inr (.inr h))
theorem seen_ok {w : World} {mean : ExcName → Option Value} {mg mb : Str → Option Value} {dp un : Nat} {gd : Option (List Code)} {cn : Str} {cs : Scope} {L a : Addr} {ccd : Value} {cl : List (Str × Addr)} {outer : List Env} {A₀ : Around} {base h₀ : Heap} {m : Str → Option Value} {s : Shared} {Q E : Value → Shared → Prop} {x : Addr} {es : List DictEntry} {o : OD} {a1 a2 : Int}
    (B : Below A₀ base outer h₀) (F : Fr h₀ L s.heap m) (X : (Mine.hd.heap_1 w.params).In h₀) (T : Top Mine.hd.view_1 (looseW Mine.hd.view_1 []) mean mg mb h₀) (hk : cs.kind = .function) (hd : dp ≤ 480) (hu : un ≤ 480) (O : ObjIs w s.heap x es o) (hcm : o.cmds = [(Str.ofString "Go", .int a1), (Str.ofString "Run", .int a2)]) (hmk : (o.maps.map (·.1)).Pairwise (· < ·)) (hmv : ∀ p ∈ o.maps, p.2 = stackD) (hml : o.maps.length ≤ 50)
    (hsz : ∀ l ∈ [o.imports, o.rows, o.words, o.dfix, o.fixups, o.entries, o.pointers], l.length ≤ 100)
    (ret : ∀ r h' tk, (∀ b o, s.heap.get? b = some o → b ∉ ([] : List (Addr × Obj)).map (·.1) → h'.get? b = some o) → (fun (h' : Heap) r => DI (Hp h') r (seenD o)) h' r → Q r { s with heap := h', toks := tk }) :
    wpAny (model PySem.Challenge.rw_nu0316_01.row.prog w) (ktrTop dp un gd cn cs L a ccd cl outer) (call (.ref 124) [.ref x]) Q E s := by
  refine wpAny_call ?_
  w_top off
  k_dflt (first | (refine' code_BC ?O ?k1 ?k2 ?k3 ?k10 ?k4 ?kA ?kF ?kK ?k6 ?k7 ?k8 ?k9 ?kB ?kD ?kr ?_ ?c2 ?c3 ?c4; (case kA | kF => exact rfl); (case kK => assumption); (case k1 | k2 | k3 => k_asm); (case k10 => first | k_asm | exact News.nil); (case k4 => k_asm); (case k6 | k7 => k_is); (case k8 => ((try simp only [depth_deeper, depth_in1, recursionLimit]); (try dsimp only [ktrTop, recursionLimit]); omega)); (case k9 => exact BindsTo.of_eq rfl); (case kB => exact rfl); (case kD => decide +kernel); (case c2 | c3 | c4 => exact rfl); (case kr => assumption)) | fail)
  intro g L' h₁ tk0 cells sub F' N' Y' B' X' T'
  replace sub := GSub.all sub
  k_cells Y'
  rename Obj.data _ = _ => dcell
  replace dcell : Obj.data _ = Data.cell (some (Value.ref x)) := dcell
  simp only [List.cons_append, List.nil_append] at N'
  replace O := O.keeps sub
  obtain ⟨vn, hname, hn2⟩ := O.name
  obtain ⟨vk, hkey, hk2⟩ := O.key
  obtain ⟨li, vi, hi1, hi2, hi3⟩ := O.imports.list
  obtain ⟨lr, vr, hr1, hr2, hr3⟩ := O.rows.list
  obtain ⟨vd, hds, hds2⟩ := O.dsize
  obtain ⟨lw, vw, hw1, hw2, hw3⟩ := O.words.list
  obtain ⟨ldf, vdf, hdf1, hdf2, hdf3⟩ := O.dfix.list
  obtain ⟨lf, vf, hf1, hf2, hf3⟩ := O.fixups.list
  obtain ⟨le, ve, he1, he2, he3⟩ := O.entries.list
  obtain ⟨lp, vp, hp1, hp2, hp3⟩ := O.pointers.list
  obtain ⟨vb, hbody, hb2⟩ := O.body
  obtain ⟨ldm, mkv, hm1, hm2, hm3, hm4⟩ := O.maps
  obtain ⟨ldc, ckv, hc1, hc2, hc3, hc4⟩ := O.cmds
  have Ob := O.obj
  simp only [List.forall_mem_cons] at hsz
  obtain ⟨z1, z2, z3, z4, z5, z6, z7, _⟩ := hsz
  rw [← hi3.length] at z1
  rw [← hr3.length] at z2
  rw [← hw3.length] at z3
  rw [← hdf3.length] at z4
  rw [← hf3.length] at z5
  rw [← he3.length] at z6
  rw [← hp3.length] at z7
  clear F B X T ret O
  (first | ((try k_unmd); (try k_fold); repeat' (first | (k_unfold; (try dsimp only)) | (first | ((with_reducible show wpAny _ _ (subscriptTail _ _ (Value.ref _) (Value.str _ _)) _ _ _); k_here; k_dflt (refine bd_item (knd := PySem.strKind _ _) (by k_asm) (by with_reducible assumption) (strKind_is _ _ _ _) (by with_reducible assumption) ?_ (by with_unfolding_all rfl); k_whole)) | ((with_reducible show wpAny _ _ (subscriptTail _ _ (Value.ref _) (Value.int _ _)) _ _ _); k_here; k_dflt (refine bd_item (knd := PySem.intKind _ _) (by k_asm) (by with_reducible assumption) (intKind_is _ _ _ _) (by with_reducible assumption) ?_ (by with_unfolding_all rfl); k_whole)) | fail) | ((first | (fail_if_success (with_reducible first | show wpAny _ _ (call (Value.ref _) _) _ _ _ | show wpAny _ _ (exec (Stmt.While _ _ _ _) _) _ _ _ | show wpAny _ _ (exec (Stmt.For _ _ _ _ _) _) _ _ _ | show wpAny _ _ (pyIter _) _ _ _ | show wpAny _ _ (setItem _ _ _) _ _ _ | show wpAny _ _ (eval (Expr.ListComp _ _ _ _) _) _ _ _ | show wpAny _ _ (exec (Stmt.Assign _ (Expr.ListComp _ _ _ _) _) _) _ _ _ | show InvPostG _ _ _ _ _ _ _ _ | show InvEndG _ _ _ _ _ _ | show OnG _ _ _ _ _ _ _ | show Fin _ _ _ _ _ _ | show KswEnd _ _ _ _ _ _ _ _ _ _ _ _ | show wpAny _ _ (call (Value.builtin "sorted") _) _ _ _ | show LCg.CompEnd _ _ _ _ _ _ _ _ _ _ _ _ _ _ | show LCg.CompSrc _ _ _ _ _ _ _ _ _ _ _ _ _ _ | show LCt.CompSrcT _ _ _ _ _ _ _ _ _ _ _ _ _ _ _)) | fail); first | walk1 | (dsimp only; (try k_fold); (first | (fail_if_success (with_reducible first | show wpAny _ _ (call (Value.ref _) _) _ _ _ | show wpAny _ _ (exec (Stmt.While _ _ _ _) _) _ _ _ | show wpAny _ _ (exec (Stmt.For _ _ _ _ _) _) _ _ _ | show wpAny _ _ (pyIter _) _ _ _ | show wpAny _ _ (setItem _ _ _) _ _ _ | show wpAny _ _ (eval (Expr.ListComp _ _ _ _) _) _ _ _ | show wpAny _ _ (exec (Stmt.Assign _ (Expr.ListComp _ _ _ _) _) _) _ _ _ | show InvPostG _ _ _ _ _ _ _ _ | show InvEndG _ _ _ _ _ _ | show OnG _ _ _ _ _ _ _ | show Fin _ _ _ _ _ _ | show KswEnd _ _ _ _ _ _ _ _ _ _ _ _ | show wpAny _ _ (call (Value.builtin "sorted") _) _ _ _ | show LCg.CompEnd _ _ _ _ _ _ _ _ _ _ _ _ _ _ | show LCg.CompSrc _ _ _ _ _ _ _ _ _ _ _ _ _ _ | show LCt.CompSrcT _ _ _ _ _ _ _ _ _ _ _ _ _ _ _)) | fail); walk1)) | (leave1; walk_say "STEP leave1"; try dsimp only) | fail "no step")) | fail)
  rename Fr _ _ _ _ => F1; rename News _ _ _ _ => N1
  replace N1 := pull 7 N1 rfl
  dsimp only [List.eraseIdx] at N1
  refine split_head N1 ?_
  clear N1
  intro cst hcst N1
  have q1 := cp_known (cst := cst) (by rw [hcst]; k_mem) hi3
  have q2 := cp_known (cst := cst) (by rw [hcst]; k_mem) hr3
  have q3 := cp_known (cst := cst) (by rw [hcst]; k_mem) hw3
  have q4 := cp_known (cst := cst) (by rw [hcst]; k_mem) hdf3
  have q5 := cp_known (cst := cst) (by rw [hcst]; k_mem) hf3
  have q6 := cp_known (cst := cst) (by rw [hcst]; k_mem) he3
  have q7 := cp_known (cst := cst) (by rw [hcst]; k_mem) hp3
  clear hcst
  k_dflt (refine LCg.ListComp_U (cl := [(Str.ofString "o", L' + 1)]) (F₀ := F1) (by with_unfolding_all rfl) (by decide) (by rfl) (by decide) (by rfl) ?_)
  (first | ((try k_unmd); (try k_fold); repeat' (first | (k_unfold; (try dsimp only)) | (first | ((with_reducible show wpAny _ _ (subscriptTail _ _ (Value.ref _) (Value.str _ _)) _ _ _); k_here; k_dflt (refine bd_item (knd := PySem.strKind _ _) (by k_asm) (by with_reducible assumption) (strKind_is _ _ _ _) (by with_reducible assumption) ?_ (by with_unfolding_all rfl); k_whole)) | ((with_reducible show wpAny _ _ (subscriptTail _ _ (Value.ref _) (Value.int _ _)) _ _ _); k_here; k_dflt (refine bd_item (knd := PySem.intKind _ _) (by k_asm) (by with_reducible assumption) (intKind_is _ _ _ _) (by with_reducible assumption) ?_ (by with_unfolding_all rfl); k_whole)) | fail) | ((first | (fail_if_success (with_reducible first | show wpAny _ _ (call (Value.ref _) _) _ _ _ | show wpAny _ _ (exec (Stmt.While _ _ _ _) _) _ _ _ | show wpAny _ _ (exec (Stmt.For _ _ _ _ _) _) _ _ _ | show wpAny _ _ (pyIter _) _ _ _ | show wpAny _ _ (setItem _ _ _) _ _ _ | show wpAny _ _ (eval (Expr.ListComp _ _ _ _) _) _ _ _ | show wpAny _ _ (exec (Stmt.Assign _ (Expr.ListComp _ _ _ _) _) _) _ _ _ | show InvPostG _ _ _ _ _ _ _ _ | show InvEndG _ _ _ _ _ _ | show OnG _ _ _ _ _ _ _ | show Fin _ _ _ _ _ _ | show KswEnd _ _ _ _ _ _ _ _ _ _ _ _ | show wpAny _ _ (call (Value.builtin "sorted") _) _ _ _ | show LCg.CompEnd _ _ _ _ _ _ _ _ _ _ _ _ _ _ | show LCg.CompSrc _ _ _ _ _ _ _ _ _ _ _ _ _ _ | show LCt.CompSrcT _ _ _ _ _ _ _ _ _ _ _ _ _ _ _)) | fail); first | walk1 | (dsimp only; (try k_fold); (first | (fail_if_success (with_reducible first | show wpAny _ _ (call (Value.ref _) _) _ _ _ | show wpAny _ _ (exec (Stmt.While _ _ _ _) _) _ _ _ | show wpAny _ _ (exec (Stmt.For _ _ _ _ _) _) _ _ _ | show wpAny _ _ (pyIter _) _ _ _ | show wpAny _ _ (setItem _ _ _) _ _ _ | show wpAny _ _ (eval (Expr.ListComp _ _ _ _) _) _ _ _ | show wpAny _ _ (exec (Stmt.Assign _ (Expr.ListComp _ _ _ _) _) _) _ _ _ | show InvPostG _ _ _ _ _ _ _ _ | show InvEndG _ _ _ _ _ _ | show OnG _ _ _ _ _ _ _ | show Fin _ _ _ _ _ _ | show KswEnd _ _ _ _ _ _ _ _ _ _ _ _ | show wpAny _ _ (call (Value.builtin "sorted") _) _ _ _ | show LCg.CompEnd _ _ _ _ _ _ _ _ _ _ _ _ _ _ | show LCg.CompSrc _ _ _ _ _ _ _ _ _ _ _ _ _ _ | show LCt.CompSrcT _ _ _ _ _ _ _ _ _ _ _ _ _ _ _)) | fail); walk1)) | (leave1; walk_say "STEP leave1"; try dsimp only) | fail "no step")) | fail)
  refine sorted_keys (by exact rfl) F1 N1 (hm3.keep F1.keep) hm2 hm4.keys (hmk.imp fun q => Int.le_of_lt q) (by rw [List.length_map]; omega) ?_
  intro D1 h2 tk2 vs1 c1 F2 N2 l2 hI2
  have hl2 := hI2.length
  rw [List.length_map] at hl2
  clear F1 N1 l2
  rw [← List.append_nil cst] at N2
  refine LCg.CompSrc.ledger (by rfl) F2 N2 (.head _) (by (first | (rw [sizeLine_eq]; (simp only [List.size_toArray, List.length_append, List.length_cons, List.length_nil]); omega) | fail)) ?_
  intro g'
  rw [show (List.toArray vs1).size = o.maps.length by rw [List.size_toArray]; omega]
  refine compI (fun c : List (Addr × Obj) => _ :: _ :: (cst ++ c)) (fun i ys c => DIs (Kn g c) ys ((o.maps.map fun p => Dat.tuple [.int p.1, p.2]).take i)) [] .nil ?_ ?_
  · intro i ys c v I oI C oC D m₂ h tk E' hi hv hJ hC hx F3 N3 off ne
    obtain ⟨k, t, rfl, hk⟩ := IntsAre.at hI2 i v (by simpa using hv)
    rw [List.getElem?_map] at hk
    obtain ⟨⟨k', d'⟩, hk1, rfl⟩ := Option.map_eq_some_iff.mp hk
    have hmm := List.mem_of_getElem? hk1
    obtain rfl : d' = stackD := hmv _ hmm
    obtain ⟨v', hv1, hv2⟩ := hm4.at (find_asc hmk hmm)
    have hv3 : DI (Hp g) v' (.list [.int (-12), .int (-16)]) := hv2
    cases hv3 with
    | list ha hc he hds =>
      have hl9 : Heap.IsList g _ _ := ⟨_, ha, hc, _, he⟩
      have hn9 := show _ = 2 from hds.length
      dsimp only at hx hv1
      clear hv hk F2 N2 hv2
      (first | ((try k_unmd); (try k_fold); repeat' (first | (k_unfold; (try dsimp only)) | (first | ((with_reducible show wpAny _ _ (subscriptTail _ _ (Value.ref _) (Value.str _ _)) _ _ _); k_here; k_dflt (refine bd_item (knd := PySem.strKind _ _) (by k_asm) (by with_reducible assumption) (strKind_is _ _ _ _) (by with_reducible assumption) ?_ (by with_unfolding_all rfl); k_whole)) | ((with_reducible show wpAny _ _ (subscriptTail _ _ (Value.ref _) (Value.int _ _)) _ _ _); k_here; k_dflt (refine bd_item (knd := PySem.intKind _ _) (by k_asm) (by with_reducible assumption) (intKind_is _ _ _ _) (by with_reducible assumption) ?_ (by with_unfolding_all rfl); k_whole)) | fail) | ((first | (fail_if_success (with_reducible first | show wpAny _ _ (call (Value.ref _) _) _ _ _ | show wpAny _ _ (exec (Stmt.While _ _ _ _) _) _ _ _ | show wpAny _ _ (exec (Stmt.For _ _ _ _ _) _) _ _ _ | show wpAny _ _ (pyIter _) _ _ _ | show wpAny _ _ (setItem _ _ _) _ _ _ | show wpAny _ _ (eval (Expr.ListComp _ _ _ _) _) _ _ _ | show wpAny _ _ (exec (Stmt.Assign _ (Expr.ListComp _ _ _ _) _) _) _ _ _ | show InvPostG _ _ _ _ _ _ _ _ | show InvEndG _ _ _ _ _ _ | show OnG _ _ _ _ _ _ _ | show Fin _ _ _ _ _ _ | show KswEnd _ _ _ _ _ _ _ _ _ _ _ _ | show wpAny _ _ (call (Value.builtin "sorted") _) _ _ _ | show LCg.CompEnd _ _ _ _ _ _ _ _ _ _ _ _ _ _ | show LCg.CompSrc _ _ _ _ _ _ _ _ _ _ _ _ _ _ | show LCt.CompSrcT _ _ _ _ _ _ _ _ _ _ _ _ _ _ _)) | fail); first | walk1 | (dsimp only; (try k_fold); (first | (fail_if_success (with_reducible first | show wpAny _ _ (call (Value.ref _) _) _ _ _ | show wpAny _ _ (exec (Stmt.While _ _ _ _) _) _ _ _ | show wpAny _ _ (exec (Stmt.For _ _ _ _ _) _) _ _ _ | show wpAny _ _ (pyIter _) _ _ _ | show wpAny _ _ (setItem _ _ _) _ _ _ | show wpAny _ _ (eval (Expr.ListComp _ _ _ _) _) _ _ _ | show wpAny _ _ (exec (Stmt.Assign _ (Expr.ListComp _ _ _ _) _) _) _ _ _ | show InvPostG _ _ _ _ _ _ _ _ | show InvEndG _ _ _ _ _ _ | show OnG _ _ _ _ _ _ _ | show Fin _ _ _ _ _ _ | show KswEnd _ _ _ _ _ _ _ _ _ _ _ _ | show wpAny _ _ (call (Value.builtin "sorted") _) _ _ _ | show LCg.CompEnd _ _ _ _ _ _ _ _ _ _ _ _ _ _ | show LCg.CompSrc _ _ _ _ _ _ _ _ _ _ _ _ _ _ | show LCt.CompSrcT _ _ _ _ _ _ _ _ _ _ _ _ _ _ _)) | fail); walk1)) | (leave1; walk_say "STEP leave1"; try dsimp only) | fail "no step")) | fail)
      have hsn : (o.maps.map fun p => Dat.tuple [.int p.1, p.2]).take (i + 1) = (o.maps.map fun p => Dat.tuple [.int p.1, p.2]).take i ++ [.tuple [.int k', stackD]] := by rw [List.take_add_one, List.getElem?_map, hk1]; rfl
      (try k_unfold)
      rename Fr _ _ _ _ => F7; rename News _ _ _ _ => N7
      exact cend [_, _] cst c [_, _] F7 N7 (by lcg_off) off (.inr ⟨_, .head _, rfl, _, rfl⟩) ⟨_, rfl, by
        rw [hsn]
        exact (hJ.mono (Kn.sub fun q hq => .tail _ (.tail _ hq))).snoc (.tuple (.inr (.head _)) rfl rfl (.cons (.int _ _) (.cons (.list (.inr (.tail _ (.head _))) rfl rfl (hds.mono Kn.base)) .nil)))⟩
  · intro ys c hJ
    unfold LCg.FinE
    intro D2 h3 tk3 F3 N3 off
    have q8 := DI.list (G := Kn g ((D2, LCg.lst ys) :: (c ++ cst))) (.inr (.head _)) rfl rfl ((hJ.mono (Kn.sub (l' := (D2, LCg.lst ys) :: (c ++ cst)) fun q hq => .tail _ (List.mem_append.mpr (.inl hq)))))
    rw [List.take_of_length_le (by simp)] at q8
    have mono : ∀ q ∈ cst, q ∈ (D2, LCg.lst ys) :: (c ++ cst) := fun q hq => .tail _ (List.mem_append.mpr (.inr hq))
    replace q1 := q1.mono (Kn.sub mono)
    replace q2 := q2.mono (Kn.sub mono)
    replace q3 := q3.mono (Kn.sub mono)
    replace q4 := q4.mono (Kn.sub mono)
    replace q5 := q5.mono (Kn.sub mono)
    replace q6 := q6.mono (Kn.sub mono)
    replace q7 := q7.mono (Kn.sub mono)
    have N4 : News g L' h3 ((L' + 1, _) :: ((D2, LCg.lst ys) :: (c ++ cst))) := fun q hq => N3 q (by
      simp only [List.mem_cons, List.mem_append] at hq ⊢
      rcases hq with h | h | h | h
      · exact .inr (.inr (.inl h))
      · exact .inl h
      · exact .inr (.inr (.inr (.inr h)))
      · exact .inr (.inr (.inr (.inl h))))
    clear N2 F2 N3 off hJ mono
    generalize (D2, LCg.lst ys) :: (c ++ cst) = cst at N4 q1 q2 q3 q4 q5 q6 q7 q8
    (try dsimp only)
    (first | ((try k_unmd); (try k_fold); repeat' (first | (k_unfold; (try dsimp only)) | (first | ((with_reducible show wpAny _ _ (subscriptTail _ _ (Value.ref _) (Value.str _ _)) _ _ _); k_here; k_dflt (refine bd_item (knd := PySem.strKind _ _) (by k_asm) (by with_reducible assumption) (strKind_is _ _ _ _) (by with_reducible assumption) ?_ (by with_unfolding_all rfl); k_whole)) | ((with_reducible show wpAny _ _ (subscriptTail _ _ (Value.ref _) (Value.int _ _)) _ _ _); k_here; k_dflt (refine bd_item (knd := PySem.intKind _ _) (by k_asm) (by with_reducible assumption) (intKind_is _ _ _ _) (by with_reducible assumption) ?_ (by with_unfolding_all rfl); k_whole)) | fail) | ((first | (fail_if_success (with_reducible first | show wpAny _ _ (call (Value.ref _) _) _ _ _ | show wpAny _ _ (exec (Stmt.While _ _ _ _) _) _ _ _ | show wpAny _ _ (exec (Stmt.For _ _ _ _ _) _) _ _ _ | show wpAny _ _ (pyIter _) _ _ _ | show wpAny _ _ (setItem _ _ _) _ _ _ | show wpAny _ _ (eval (Expr.ListComp _ _ _ _) _) _ _ _ | show wpAny _ _ (exec (Stmt.Assign _ (Expr.ListComp _ _ _ _) _) _) _ _ _ | show InvPostG _ _ _ _ _ _ _ _ | show InvEndG _ _ _ _ _ _ | show OnG _ _ _ _ _ _ _ | show Fin _ _ _ _ _ _ | show KswEnd _ _ _ _ _ _ _ _ _ _ _ _ | show wpAny _ _ (call (Value.builtin "sorted") _) _ _ _ | show LCg.CompEnd _ _ _ _ _ _ _ _ _ _ _ _ _ _ | show LCg.CompSrc _ _ _ _ _ _ _ _ _ _ _ _ _ _ | show LCt.CompSrcT _ _ _ _ _ _ _ _ _ _ _ _ _ _ _)) | fail); first | walk1 | (dsimp only; (try k_fold); (first | (fail_if_success (with_reducible first | show wpAny _ _ (call (Value.ref _) _) _ _ _ | show wpAny _ _ (exec (Stmt.While _ _ _ _) _) _ _ _ | show wpAny _ _ (exec (Stmt.For _ _ _ _ _) _) _ _ _ | show wpAny _ _ (pyIter _) _ _ _ | show wpAny _ _ (setItem _ _ _) _ _ _ | show wpAny _ _ (eval (Expr.ListComp _ _ _ _) _) _ _ _ | show wpAny _ _ (exec (Stmt.Assign _ (Expr.ListComp _ _ _ _) _) _) _ _ _ | show InvPostG _ _ _ _ _ _ _ _ | show InvEndG _ _ _ _ _ _ | show OnG _ _ _ _ _ _ _ | show Fin _ _ _ _ _ _ | show KswEnd _ _ _ _ _ _ _ _ _ _ _ _ | show wpAny _ _ (call (Value.builtin "sorted") _) _ _ _ | show LCg.CompEnd _ _ _ _ _ _ _ _ _ _ _ _ _ _ | show LCg.CompSrc _ _ _ _ _ _ _ _ _ _ _ _ _ _ | show LCt.CompSrcT _ _ _ _ _ _ _ _ _ _ _ _ _ _ _)) | fail); walk1)) | (leave1; walk_say "STEP leave1"; try dsimp only) | fail "no step")) | fail)
    k_dflt (refine LCg.ListComp_U (cl := [(Str.ofString "o", L' + 1)]) (F₀ := F3) (by with_unfolding_all rfl) (by decide) (by rfl) (by decide) (by rfl) ?_)
    (first | ((try k_unmd); (try k_fold); repeat' (first | (k_unfold; (try dsimp only)) | (first | ((with_reducible show wpAny _ _ (subscriptTail _ _ (Value.ref _) (Value.str _ _)) _ _ _); k_here; k_dflt (refine bd_item (knd := PySem.strKind _ _) (by k_asm) (by with_reducible assumption) (strKind_is _ _ _ _) (by with_reducible assumption) ?_ (by with_unfolding_all rfl); k_whole)) | ((with_reducible show wpAny _ _ (subscriptTail _ _ (Value.ref _) (Value.int _ _)) _ _ _); k_here; k_dflt (refine bd_item (knd := PySem.intKind _ _) (by k_asm) (by with_reducible assumption) (intKind_is _ _ _ _) (by with_reducible assumption) ?_ (by with_unfolding_all rfl); k_whole)) | fail) | ((first | (fail_if_success (with_reducible first | show wpAny _ _ (call (Value.ref _) _) _ _ _ | show wpAny _ _ (exec (Stmt.While _ _ _ _) _) _ _ _ | show wpAny _ _ (exec (Stmt.For _ _ _ _ _) _) _ _ _ | show wpAny _ _ (pyIter _) _ _ _ | show wpAny _ _ (setItem _ _ _) _ _ _ | show wpAny _ _ (eval (Expr.ListComp _ _ _ _) _) _ _ _ | show wpAny _ _ (exec (Stmt.Assign _ (Expr.ListComp _ _ _ _) _) _) _ _ _ | show InvPostG _ _ _ _ _ _ _ _ | show InvEndG _ _ _ _ _ _ | show OnG _ _ _ _ _ _ _ | show Fin _ _ _ _ _ _ | show KswEnd _ _ _ _ _ _ _ _ _ _ _ _ | show wpAny _ _ (call (Value.builtin "sorted") _) _ _ _ | show LCg.CompEnd _ _ _ _ _ _ _ _ _ _ _ _ _ _ | show LCg.CompSrc _ _ _ _ _ _ _ _ _ _ _ _ _ _ | show LCt.CompSrcT _ _ _ _ _ _ _ _ _ _ _ _ _ _ _)) | fail); first | walk1 | (dsimp only; (try k_fold); (first | (fail_if_success (with_reducible first | show wpAny _ _ (call (Value.ref _) _) _ _ _ | show wpAny _ _ (exec (Stmt.While _ _ _ _) _) _ _ _ | show wpAny _ _ (exec (Stmt.For _ _ _ _ _) _) _ _ _ | show wpAny _ _ (pyIter _) _ _ _ | show wpAny _ _ (setItem _ _ _) _ _ _ | show wpAny _ _ (eval (Expr.ListComp _ _ _ _) _) _ _ _ | show wpAny _ _ (exec (Stmt.Assign _ (Expr.ListComp _ _ _ _) _) _) _ _ _ | show InvPostG _ _ _ _ _ _ _ _ | show InvEndG _ _ _ _ _ _ | show OnG _ _ _ _ _ _ _ | show Fin _ _ _ _ _ _ | show KswEnd _ _ _ _ _ _ _ _ _ _ _ _ | show wpAny _ _ (call (Value.builtin "sorted") _) _ _ _ | show LCg.CompEnd _ _ _ _ _ _ _ _ _ _ _ _ _ _ | show LCg.CompSrc _ _ _ _ _ _ _ _ _ _ _ _ _ _ | show LCt.CompSrcT _ _ _ _ _ _ _ _ _ _ _ _ _ _ _)) | fail); walk1)) | (leave1; walk_say "STEP leave1"; try dsimp only) | fail "no step")) | fail)
    refine sorted_cmds (by exact rfl) F3 N4 (hc3.keep F3.keep) hc2 (by rw [hc4.keys, hcm]; rfl) ?_
    intro D3 h4 tk4 t1 t2 c3 F5 N5 l5
    rw [hcm] at hc4
    cases hc4 with
    | cons y1 z1 => cases z1 with
      | cons y2 z2 =>
        cases z2
        cases y1
        cases y2
        rename_i tg trr
        have va1 : valueAt [(Str.ofString "Go", Value.int a1 tg), (Str.ofString "Run", Value.int a2 trr)] (Str.ofString "Go") = some (.int a1 tg) := rfl
        have va2 : valueAt [(Str.ofString "Go", Value.int a1 tg), (Str.ofString "Run", Value.int a2 trr)] (Str.ofString "Run") = some (.int a2 trr) := rfl
        rw [← List.append_nil cst] at N5
        refine LCg.CompSrc.ledger (by rfl) F5 N5 (.head _) (by rw [sizeLine_eq]; show 2 ≤ _; omega) ?_
        intro g'
        refine compI (n := 2) (fun c : List (Addr × Obj) => _ :: _ :: (cst ++ c)) (fun i ys c => DIs (Kn g c) ys ([Dat.tuple [.str (Str.ofString "Go"), .int a1], .tuple [.str (Str.ofString "Run"), .int a2]].take i)) [] .nil ?_ ?_
        · intro i ys c v I oI C oC D m₂ h tk E' hi hv hJ hC hx F3 N3 off ne
          have hi2 : i = 0 ∨ i = 1 := by omega
          clear N4 N5 F5
          rcases hi2 with rfl | rfl
          · obtain rfl : v = Value.str (Str.ofString "Go") t1 := (Option.some.inj hv).symm
            clear hv
            (first | ((try k_unmd); (try k_fold); repeat' (first | (k_unfold; (try dsimp only)) | (first | ((with_reducible show wpAny _ _ (subscriptTail _ _ (Value.ref _) (Value.str _ _)) _ _ _); k_here; k_dflt (refine bd_item (knd := PySem.strKind _ _) (by k_asm) (by with_reducible assumption) (strKind_is _ _ _ _) (by with_reducible assumption) ?_ (by with_unfolding_all rfl); k_whole)) | ((with_reducible show wpAny _ _ (subscriptTail _ _ (Value.ref _) (Value.int _ _)) _ _ _); k_here; k_dflt (refine bd_item (knd := PySem.intKind _ _) (by k_asm) (by with_reducible assumption) (intKind_is _ _ _ _) (by with_reducible assumption) ?_ (by with_unfolding_all rfl); k_whole)) | fail) | ((first | (fail_if_success (with_reducible first | show wpAny _ _ (call (Value.ref _) _) _ _ _ | show wpAny _ _ (exec (Stmt.While _ _ _ _) _) _ _ _ | show wpAny _ _ (exec (Stmt.For _ _ _ _ _) _) _ _ _ | show wpAny _ _ (pyIter _) _ _ _ | show wpAny _ _ (setItem _ _ _) _ _ _ | show wpAny _ _ (eval (Expr.ListComp _ _ _ _) _) _ _ _ | show wpAny _ _ (exec (Stmt.Assign _ (Expr.ListComp _ _ _ _) _) _) _ _ _ | show InvPostG _ _ _ _ _ _ _ _ | show InvEndG _ _ _ _ _ _ | show OnG _ _ _ _ _ _ _ | show Fin _ _ _ _ _ _ | show KswEnd _ _ _ _ _ _ _ _ _ _ _ _ | show wpAny _ _ (call (Value.builtin "sorted") _) _ _ _ | show LCg.CompEnd _ _ _ _ _ _ _ _ _ _ _ _ _ _ | show LCg.CompSrc _ _ _ _ _ _ _ _ _ _ _ _ _ _ | show LCt.CompSrcT _ _ _ _ _ _ _ _ _ _ _ _ _ _ _)) | fail); first | walk1 | (dsimp only; (try k_fold); (first | (fail_if_success (with_reducible first | show wpAny _ _ (call (Value.ref _) _) _ _ _ | show wpAny _ _ (exec (Stmt.While _ _ _ _) _) _ _ _ | show wpAny _ _ (exec (Stmt.For _ _ _ _ _) _) _ _ _ | show wpAny _ _ (pyIter _) _ _ _ | show wpAny _ _ (setItem _ _ _) _ _ _ | show wpAny _ _ (eval (Expr.ListComp _ _ _ _) _) _ _ _ | show wpAny _ _ (exec (Stmt.Assign _ (Expr.ListComp _ _ _ _) _) _) _ _ _ | show InvPostG _ _ _ _ _ _ _ _ | show InvEndG _ _ _ _ _ _ | show OnG _ _ _ _ _ _ _ | show Fin _ _ _ _ _ _ | show KswEnd _ _ _ _ _ _ _ _ _ _ _ _ | show wpAny _ _ (call (Value.builtin "sorted") _) _ _ _ | show LCg.CompEnd _ _ _ _ _ _ _ _ _ _ _ _ _ _ | show LCg.CompSrc _ _ _ _ _ _ _ _ _ _ _ _ _ _ | show LCt.CompSrcT _ _ _ _ _ _ _ _ _ _ _ _ _ _ _)) | fail); walk1)) | (leave1; walk_say "STEP leave1"; try dsimp only) | fail "no step")) | fail)
            (try k_unfold)
            rename Fr _ _ _ _ => F7; rename News _ _ _ _ => N7
            exact cend [_, _] cst c [_] F7 N7 (by lcg_off) off (.inr ⟨_, .head _, rfl, _, rfl⟩) ⟨_, rfl, 
              (hJ.mono (Kn.sub fun q hq => .tail _ hq)).snoc (.tuple (.inr (.head _)) rfl rfl (.cons (.str _ _) (.cons (.int _ _) .nil)))⟩
          · obtain rfl : v = Value.str (Str.ofString "Run") t2 := (Option.some.inj hv).symm
            clear hv
            (first | ((try k_unmd); (try k_fold); repeat' (first | (k_unfold; (try dsimp only)) | (first | ((with_reducible show wpAny _ _ (subscriptTail _ _ (Value.ref _) (Value.str _ _)) _ _ _); k_here; k_dflt (refine bd_item (knd := PySem.strKind _ _) (by k_asm) (by with_reducible assumption) (strKind_is _ _ _ _) (by with_reducible assumption) ?_ (by with_unfolding_all rfl); k_whole)) | ((with_reducible show wpAny _ _ (subscriptTail _ _ (Value.ref _) (Value.int _ _)) _ _ _); k_here; k_dflt (refine bd_item (knd := PySem.intKind _ _) (by k_asm) (by with_reducible assumption) (intKind_is _ _ _ _) (by with_reducible assumption) ?_ (by with_unfolding_all rfl); k_whole)) | fail) | ((first | (fail_if_success (with_reducible first | show wpAny _ _ (call (Value.ref _) _) _ _ _ | show wpAny _ _ (exec (Stmt.While _ _ _ _) _) _ _ _ | show wpAny _ _ (exec (Stmt.For _ _ _ _ _) _) _ _ _ | show wpAny _ _ (pyIter _) _ _ _ | show wpAny _ _ (setItem _ _ _) _ _ _ | show wpAny _ _ (eval (Expr.ListComp _ _ _ _) _) _ _ _ | show wpAny _ _ (exec (Stmt.Assign _ (Expr.ListComp _ _ _ _) _) _) _ _ _ | show InvPostG _ _ _ _ _ _ _ _ | show InvEndG _ _ _ _ _ _ | show OnG _ _ _ _ _ _ _ | show Fin _ _ _ _ _ _ | show KswEnd _ _ _ _ _ _ _ _ _ _ _ _ | show wpAny _ _ (call (Value.builtin "sorted") _) _ _ _ | show LCg.CompEnd _ _ _ _ _ _ _ _ _ _ _ _ _ _ | show LCg.CompSrc _ _ _ _ _ _ _ _ _ _ _ _ _ _ | show LCt.CompSrcT _ _ _ _ _ _ _ _ _ _ _ _ _ _ _)) | fail); first | walk1 | (dsimp only; (try k_fold); (first | (fail_if_success (with_reducible first | show wpAny _ _ (call (Value.ref _) _) _ _ _ | show wpAny _ _ (exec (Stmt.While _ _ _ _) _) _ _ _ | show wpAny _ _ (exec (Stmt.For _ _ _ _ _) _) _ _ _ | show wpAny _ _ (pyIter _) _ _ _ | show wpAny _ _ (setItem _ _ _) _ _ _ | show wpAny _ _ (eval (Expr.ListComp _ _ _ _) _) _ _ _ | show wpAny _ _ (exec (Stmt.Assign _ (Expr.ListComp _ _ _ _) _) _) _ _ _ | show InvPostG _ _ _ _ _ _ _ _ | show InvEndG _ _ _ _ _ _ | show OnG _ _ _ _ _ _ _ | show Fin _ _ _ _ _ _ | show KswEnd _ _ _ _ _ _ _ _ _ _ _ _ | show wpAny _ _ (call (Value.builtin "sorted") _) _ _ _ | show LCg.CompEnd _ _ _ _ _ _ _ _ _ _ _ _ _ _ | show LCg.CompSrc _ _ _ _ _ _ _ _ _ _ _ _ _ _ | show LCt.CompSrcT _ _ _ _ _ _ _ _ _ _ _ _ _ _ _)) | fail); walk1)) | (leave1; walk_say "STEP leave1"; try dsimp only) | fail "no step")) | fail)
            (try k_unfold)
            rename Fr _ _ _ _ => F7; rename News _ _ _ _ => N7
            exact cend [_, _] cst c [_] F7 N7 (by lcg_off) off (.inr ⟨_, .head _, rfl, _, rfl⟩) ⟨_, rfl, 
              (hJ.mono (Kn.sub fun q hq => .tail _ hq)).snoc (.tuple (.inr (.head _)) rfl rfl (.cons (.str _ _) (.cons (.int _ _) .nil)))⟩
        · intro ys c hJ
          unfold LCg.FinE
          intro D2 h3 tk3 F3 N3 off
          dsimp only
          clear N4 N5 F5
          (first | ((try k_unmd); (try k_fold); repeat' (first | (k_unfold; (try dsimp only)) | (first | ((with_reducible show wpAny _ _ (subscriptTail _ _ (Value.ref _) (Value.str _ _)) _ _ _); k_here; k_dflt (refine bd_item (knd := PySem.strKind _ _) (by k_asm) (by with_reducible assumption) (strKind_is _ _ _ _) (by with_reducible assumption) ?_ (by with_unfolding_all rfl); k_whole)) | ((with_reducible show wpAny _ _ (subscriptTail _ _ (Value.ref _) (Value.int _ _)) _ _ _); k_here; k_dflt (refine bd_item (knd := PySem.intKind _ _) (by k_asm) (by with_reducible assumption) (intKind_is _ _ _ _) (by with_reducible assumption) ?_ (by with_unfolding_all rfl); k_whole)) | fail) | ((first | (fail_if_success (with_reducible first | show wpAny _ _ (call (Value.ref _) _) _ _ _ | show wpAny _ _ (exec (Stmt.While _ _ _ _) _) _ _ _ | show wpAny _ _ (exec (Stmt.For _ _ _ _ _) _) _ _ _ | show wpAny _ _ (pyIter _) _ _ _ | show wpAny _ _ (setItem _ _ _) _ _ _ | show wpAny _ _ (eval (Expr.ListComp _ _ _ _) _) _ _ _ | show wpAny _ _ (exec (Stmt.Assign _ (Expr.ListComp _ _ _ _) _) _) _ _ _ | show InvPostG _ _ _ _ _ _ _ _ | show InvEndG _ _ _ _ _ _ | show OnG _ _ _ _ _ _ _ | show Fin _ _ _ _ _ _ | show KswEnd _ _ _ _ _ _ _ _ _ _ _ _ | show wpAny _ _ (call (Value.builtin "sorted") _) _ _ _ | show LCg.CompEnd _ _ _ _ _ _ _ _ _ _ _ _ _ _ | show LCg.CompSrc _ _ _ _ _ _ _ _ _ _ _ _ _ _ | show LCt.CompSrcT _ _ _ _ _ _ _ _ _ _ _ _ _ _ _)) | fail); first | walk1 | (dsimp only; (try k_fold); (first | (fail_if_success (with_reducible first | show wpAny _ _ (call (Value.ref _) _) _ _ _ | show wpAny _ _ (exec (Stmt.While _ _ _ _) _) _ _ _ | show wpAny _ _ (exec (Stmt.For _ _ _ _ _) _) _ _ _ | show wpAny _ _ (pyIter _) _ _ _ | show wpAny _ _ (setItem _ _ _) _ _ _ | show wpAny _ _ (eval (Expr.ListComp _ _ _ _) _) _ _ _ | show wpAny _ _ (exec (Stmt.Assign _ (Expr.ListComp _ _ _ _) _) _) _ _ _ | show InvPostG _ _ _ _ _ _ _ _ | show InvEndG _ _ _ _ _ _ | show OnG _ _ _ _ _ _ _ | show Fin _ _ _ _ _ _ | show KswEnd _ _ _ _ _ _ _ _ _ _ _ _ | show wpAny _ _ (call (Value.builtin "sorted") _) _ _ _ | show LCg.CompEnd _ _ _ _ _ _ _ _ _ _ _ _ _ _ | show LCg.CompSrc _ _ _ _ _ _ _ _ _ _ _ _ _ _ | show LCt.CompSrcT _ _ _ _ _ _ _ _ _ _ _ _ _ _ _)) | fail); walk1)) | (leave1; walk_say "STEP leave1"; try dsimp only) | fail "no step")) | fail)
          (try k_unfold)
          rename Fr _ _ _ _ => F7; rename News _ _ _ _ => N7
          have kn := Kn.hp F7 N7 (l := cst) (fun q hq => by simp [hq])
          refine ⟨_, _, _, rfl, F7, .tuple (N7 _ (.head _)).1 rfl rfl (.cons (hn2.mono F7.keep) (.cons (hk2.mono F7.keep) (.cons (q1.mono kn) (.cons (q2.mono kn) (.cons (hds2.mono F7.keep) (.cons (q3.mono kn) (.cons (q4.mono kn) (.cons (q5.mono kn) (.cons (q6.mono kn) (.cons (q7.mono kn) (.cons (q8.mono kn) (.cons ?_ (.cons (hb2.mono F7.keep) .nil)))))))))))))⟩
          rw [hcm]
          exact .list (N7 _ (.tail _ (.head _))).1 rfl rfl (hJ.mono (Kn.hp F7 N7 fun q hq => by simp [hq]))

theorem figs_ok {w : World} {mean : ExcName → Option Value} {mg mb : Str → Option Value} {dp un : Nat} {gd : Option (List Code)} {cn : Str} {cs : Scope} {L a : Addr} {ccd : Value} {cl : List (Str × Addr)} {outer : List Env} {A₀ : Around} {base h₀ : Heap} {m : Str → Option Value} {s : Shared} {Q E : Value → Shared → Prop} {l : Addr} {vs : List Value} {ns : List Int}
    (B : Below A₀ base outer h₀) (F : Fr h₀ L s.heap m) (X : (Mine.hd.heap_1 w.params).In h₀) (T : Top Mine.hd.view_1 (looseW Mine.hd.view_1 []) mean mg mb h₀) (hk : cs.kind = .function) (hd : dp ≤ 480) (hu : un ≤ 480) (hl : s.heap.IsList l vs.toArray) (hI : IntsAre vs ns) (hn : vs.length ≤ 63)
    (ret : ∀ r h' tk, (∀ b o, s.heap.get? b = some o → b ∉ ([] : List (Addr × Obj)).map (·.1) → h'.get? b = some o) → (fun (h' : Heap) r => ∃ p us n zs, r = Value.ref p ∧ s.heap.get? p = none ∧ h'.get? p = some (listOf (List.toArray us) n) ∧ IntsAre us zs ∧ us.length ≤ 140) h' r → Q r { s with heap := h', toks := tk }) :
    wpAny (model PySem.Challenge.rw_nu0316_01.row.prog w) (ktrTop dp un gd cn cs L a ccd cl outer) (call (.ref 105) [.ref l]) Q E s := by
  refine wpAny_call ?_
  w_top off
  k_dflt (first | (refine' code_B ?O ?k1 ?k2 ?k3 ?k10 ?k4 ?kA ?kF ?kK ?k6 ?k7 ?k8 ?k9 ?kB ?kr ?_ ?c2 ?c3 ?c4 ?c5; (case kA | kF => exact rfl); (case kK => assumption); (case k1 | k2 | k3 => k_asm); (case k10 => first | k_asm | exact News.nil); (case k4 => k_asm); (case k6 | k7 => k_is); (case k8 => ((try simp only [depth_deeper, depth_in1, recursionLimit]); (try dsimp only [ktrTop, recursionLimit]); omega)); (case k9 => exact BindsTo.of_eq rfl); (case c5 => decide); (case kB => exact locs rfl); (case c2 | c3 | c4 => exact rfl); (case kr => assumption)) | fail)
  intro g L' h₁ sub F' N' B' X' T'
  replace sub := GSub.all sub
  replace hl := stays_list sub hl
  clear F B X T ret
  (first | ((try k_unmd); (try k_fold); repeat' (first | (k_unfold; (try dsimp only)) | (fail "none") | ((first | (fail_if_success (with_reducible first | show wpAny _ _ (call (Value.ref _) _) _ _ _ | show wpAny _ _ (exec (Stmt.While _ _ _ _) _) _ _ _ | show wpAny _ _ (exec (Stmt.For _ _ _ _ _) _) _ _ _ | show wpAny _ _ (pyIter _) _ _ _ | show wpAny _ _ (setItem _ _ _) _ _ _ | show wpAny _ _ (eval (Expr.ListComp _ _ _ _) _) _ _ _ | show wpAny _ _ (exec (Stmt.Assign _ (Expr.ListComp _ _ _ _) _) _) _ _ _ | show InvPostG _ _ _ _ _ _ _ _ | show InvEndG _ _ _ _ _ _ | show OnG _ _ _ _ _ _ _ | show Fin _ _ _ _ _ _ | show KswEnd _ _ _ _ _ _ _ _ _ _ _ _ | show wpAny _ _ (call (Value.builtin "sorted") _) _ _ _ | show LCg.CompEnd _ _ _ _ _ _ _ _ _ _ _ _ _ _ | show LCg.CompSrc _ _ _ _ _ _ _ _ _ _ _ _ _ _ | show LCt.CompSrcT _ _ _ _ _ _ _ _ _ _ _ _ _ _ _)) | fail); first | walk1 | (dsimp only; (try k_fold); (first | (fail_if_success (with_reducible first | show wpAny _ _ (call (Value.ref _) _) _ _ _ | show wpAny _ _ (exec (Stmt.While _ _ _ _) _) _ _ _ | show wpAny _ _ (exec (Stmt.For _ _ _ _ _) _) _ _ _ | show wpAny _ _ (pyIter _) _ _ _ | show wpAny _ _ (setItem _ _ _) _ _ _ | show wpAny _ _ (eval (Expr.ListComp _ _ _ _) _) _ _ _ | show wpAny _ _ (exec (Stmt.Assign _ (Expr.ListComp _ _ _ _) _) _) _ _ _ | show InvPostG _ _ _ _ _ _ _ _ | show InvEndG _ _ _ _ _ _ | show OnG _ _ _ _ _ _ _ | show Fin _ _ _ _ _ _ | show KswEnd _ _ _ _ _ _ _ _ _ _ _ _ | show wpAny _ _ (call (Value.builtin "sorted") _) _ _ _ | show LCg.CompEnd _ _ _ _ _ _ _ _ _ _ _ _ _ _ | show LCg.CompSrc _ _ _ _ _ _ _ _ _ _ _ _ _ _ | show LCt.CompSrcT _ _ _ _ _ _ _ _ _ _ _ _ _ _ _)) | fail); walk1)) | (leave1; walk_say "STEP leave1"; try dsimp only) | fail "no step")) | fail)
  refine For_invV g (by rfl) (by rfl) ?_ (by intro _; with_unfolding_all rfl)
  (first | ((try k_unmd); (try k_fold); repeat' (first | (k_unfold; (try dsimp only)) | (fail "none") | ((first | (fail_if_success (with_reducible first | show wpAny _ _ (call (Value.ref _) _) _ _ _ | show wpAny _ _ (exec (Stmt.While _ _ _ _) _) _ _ _ | show wpAny _ _ (exec (Stmt.For _ _ _ _ _) _) _ _ _ | show wpAny _ _ (pyIter _) _ _ _ | show wpAny _ _ (setItem _ _ _) _ _ _ | show wpAny _ _ (eval (Expr.ListComp _ _ _ _) _) _ _ _ | show wpAny _ _ (exec (Stmt.Assign _ (Expr.ListComp _ _ _ _) _) _) _ _ _ | show InvPostG _ _ _ _ _ _ _ _ | show InvEndG _ _ _ _ _ _ | show OnG _ _ _ _ _ _ _ | show Fin _ _ _ _ _ _ | show KswEnd _ _ _ _ _ _ _ _ _ _ _ _ | show wpAny _ _ (call (Value.builtin "sorted") _) _ _ _ | show LCg.CompEnd _ _ _ _ _ _ _ _ _ _ _ _ _ _ | show LCg.CompSrc _ _ _ _ _ _ _ _ _ _ _ _ _ _ | show LCt.CompSrcT _ _ _ _ _ _ _ _ _ _ _ _ _ _ _)) | fail); first | walk1 | (dsimp only; (try k_fold); (first | (fail_if_success (with_reducible first | show wpAny _ _ (call (Value.ref _) _) _ _ _ | show wpAny _ _ (exec (Stmt.While _ _ _ _) _) _ _ _ | show wpAny _ _ (exec (Stmt.For _ _ _ _ _) _) _ _ _ | show wpAny _ _ (pyIter _) _ _ _ | show wpAny _ _ (setItem _ _ _) _ _ _ | show wpAny _ _ (eval (Expr.ListComp _ _ _ _) _) _ _ _ | show wpAny _ _ (exec (Stmt.Assign _ (Expr.ListComp _ _ _ _) _) _) _ _ _ | show InvPostG _ _ _ _ _ _ _ _ | show InvEndG _ _ _ _ _ _ | show OnG _ _ _ _ _ _ _ | show Fin _ _ _ _ _ _ | show KswEnd _ _ _ _ _ _ _ _ _ _ _ _ | show wpAny _ _ (call (Value.builtin "sorted") _) _ _ _ | show LCg.CompEnd _ _ _ _ _ _ _ _ _ _ _ _ _ _ | show LCg.CompSrc _ _ _ _ _ _ _ _ _ _ _ _ _ _ | show LCt.CompSrcT _ _ _ _ _ _ _ _ _ _ _ _ _ _ _)) | fail); walk1)) | (leave1; walk_say "STEP leave1"; try dsimp only) | fail "no step")) | fail)
  rename Fr _ _ _ _ => F1; rename News _ _ _ _ => N1
  rename_i fl _ _ _ _ D0 ws h1 hI1 hC1 hL1 _ l1
  have hws := hI1.length
  have hnl := hI.length
  refine loopL (fun c : List Value × Nat => [(fl, listOf c.1.toArray c.2)]) [(D0, listOf ws.toArray 0)] (fun _ => []) (fun _ _ => True) [Str.ofString "figure", Str.ofString "lap"]
    (fun i c => (∃ zs, IntsAre c.1 zs) ∧ c.1.length ≤ 11 * i) [fl, D0] ([], 0) rfl (.head _) F1 N1 (by (first | (intro p hp; first | (with_reducible (repeat' (first | exact hp | exact List.mem_append_left _ hp | exact List.mem_append_right _ hp | refine List.mem_cons_of_mem _ ?_)); done) | ((simp only [List.nil_append, List.cons_append, List.append_nil, List.append_assoc, List.mem_cons, List.mem_append, List.not_mem_nil, or_false, false_or] at hp ⊢); first | done | grind)) | fail)) (fun _ => rfl) trivial (by intro p hp; cases hp) ⟨⟨_, .nil⟩, Nat.le_refl _⟩ ?_ ?_
  · intro c tl i v u h tk own hv sep off _ hP F2 N2
    obtain ⟨us, n⟩ := c
    obtain ⟨k, t, rfl, hk⟩ := IntsAre.at hI1 i v hv
    have hil := (List.getElem?_eq_some_iff.mp hv).1
    dsimp only [kstB] at F2 hP
    obtain ⟨⟨zs, hz⟩, hlen⟩ := hP
    simp only [List.nil_append, List.cons_append] at N2
    clear F1 N1 hv
    have hKd := kdMark
    (first | ((try k_unmd); (try k_fold); repeat' (first | (k_unfold; (try dsimp only)) | (fail "none") | ((first | (fail_if_success (with_reducible first | show wpAny _ _ (call (Value.ref _) _) _ _ _ | show wpAny _ _ (exec (Stmt.While _ _ _ _) _) _ _ _ | show wpAny _ _ (exec (Stmt.For _ _ _ _ _) _) _ _ _ | show wpAny _ _ (pyIter _) _ _ _ | show wpAny _ _ (setItem _ _ _) _ _ _ | show wpAny _ _ (eval (Expr.ListComp _ _ _ _) _) _ _ _ | show wpAny _ _ (exec (Stmt.Assign _ (Expr.ListComp _ _ _ _) _) _) _ _ _ | show InvPostG _ _ _ _ _ _ _ _ | show InvEndG _ _ _ _ _ _ | show OnG _ _ _ _ _ _ _ | show Fin _ _ _ _ _ _ | show KswEnd _ _ _ _ _ _ _ _ _ _ _ _ | show wpAny _ _ (call (Value.builtin "sorted") _) _ _ _ | show LCg.CompEnd _ _ _ _ _ _ _ _ _ _ _ _ _ _ | show LCg.CompSrc _ _ _ _ _ _ _ _ _ _ _ _ _ _ | show LCt.CompSrcT _ _ _ _ _ _ _ _ _ _ _ _ _ _ _)) | fail); first | walk1 | (dsimp only; (try k_fold); (first | (fail_if_success (with_reducible first | show wpAny _ _ (call (Value.ref _) _) _ _ _ | show wpAny _ _ (exec (Stmt.While _ _ _ _) _) _ _ _ | show wpAny _ _ (exec (Stmt.For _ _ _ _ _) _) _ _ _ | show wpAny _ _ (pyIter _) _ _ _ | show wpAny _ _ (setItem _ _ _) _ _ _ | show wpAny _ _ (eval (Expr.ListComp _ _ _ _) _) _ _ _ | show wpAny _ _ (exec (Stmt.Assign _ (Expr.ListComp _ _ _ _) _) _) _ _ _ | show InvPostG _ _ _ _ _ _ _ _ | show InvEndG _ _ _ _ _ _ | show OnG _ _ _ _ _ _ _ | show Fin _ _ _ _ _ _ | show KswEnd _ _ _ _ _ _ _ _ _ _ _ _ | show wpAny _ _ (call (Value.builtin "sorted") _) _ _ _ | show LCg.CompEnd _ _ _ _ _ _ _ _ _ _ _ _ _ _ | show LCg.CompSrc _ _ _ _ _ _ _ _ _ _ _ _ _ _ | show LCt.CompSrcT _ _ _ _ _ _ _ _ _ _ _ _ _ _ _)) | fail); walk1)) | (leave1; walk_say "STEP leave1"; try dsimp only) | fail "no step")) | fail)
    all_goals (
      rename Fr _ _ _ _ => F3; rename News _ _ _ _ => N3
      rw [List.push_toArray] at N3
      refine For_invV g (by rfl) (by rfl) ?_ (by intro _; with_unfolding_all rfl)
      (first | ((try k_unmd); (try k_fold); repeat' (first | (k_unfold; (try dsimp only)) | (fail "none") | ((first | (fail_if_success (with_reducible first | show wpAny _ _ (call (Value.ref _) _) _ _ _ | show wpAny _ _ (exec (Stmt.While _ _ _ _) _) _ _ _ | show wpAny _ _ (exec (Stmt.For _ _ _ _ _) _) _ _ _ | show wpAny _ _ (pyIter _) _ _ _ | show wpAny _ _ (setItem _ _ _) _ _ _ | show wpAny _ _ (eval (Expr.ListComp _ _ _ _) _) _ _ _ | show wpAny _ _ (exec (Stmt.Assign _ (Expr.ListComp _ _ _ _) _) _) _ _ _ | show InvPostG _ _ _ _ _ _ _ _ | show InvEndG _ _ _ _ _ _ | show OnG _ _ _ _ _ _ _ | show Fin _ _ _ _ _ _ | show KswEnd _ _ _ _ _ _ _ _ _ _ _ _ | show wpAny _ _ (call (Value.builtin "sorted") _) _ _ _ | show LCg.CompEnd _ _ _ _ _ _ _ _ _ _ _ _ _ _ | show LCg.CompSrc _ _ _ _ _ _ _ _ _ _ _ _ _ _ | show LCt.CompSrcT _ _ _ _ _ _ _ _ _ _ _ _ _ _ _)) | fail); first | walk1 | (dsimp only; (try k_fold); (first | (fail_if_success (with_reducible first | show wpAny _ _ (call (Value.ref _) _) _ _ _ | show wpAny _ _ (exec (Stmt.While _ _ _ _) _) _ _ _ | show wpAny _ _ (exec (Stmt.For _ _ _ _ _) _) _ _ _ | show wpAny _ _ (pyIter _) _ _ _ | show wpAny _ _ (setItem _ _ _) _ _ _ | show wpAny _ _ (eval (Expr.ListComp _ _ _ _) _) _ _ _ | show wpAny _ _ (exec (Stmt.Assign _ (Expr.ListComp _ _ _ _) _) _) _ _ _ | show InvPostG _ _ _ _ _ _ _ _ | show InvEndG _ _ _ _ _ _ | show OnG _ _ _ _ _ _ _ | show Fin _ _ _ _ _ _ | show KswEnd _ _ _ _ _ _ _ _ _ _ _ _ | show wpAny _ _ (call (Value.builtin "sorted") _) _ _ _ | show LCg.CompEnd _ _ _ _ _ _ _ _ _ _ _ _ _ _ | show LCg.CompSrc _ _ _ _ _ _ _ _ _ _ _ _ _ _ | show LCt.CompSrcT _ _ _ _ _ _ _ _ _ _ _ _ _ _ _)) | fail); walk1)) | (leave1; walk_say "STEP leave1"; try dsimp only) | fail "no step")) | fail)
      rename IsRange _ _ _ _ _ _ _ _ => hir; rename Fr _ _ _ _ => F4; rename News _ _ _ _ => N4
      refine loopR (fun c : List Value × Nat × Int × Tok => [(fl, listOf c.1.toArray c.2.1)]) ((D0, listOf ws.toArray 0) :: (tl ++ own)) (fun c => [(Str.ofString "figure", .int c.2.2.1 c.2.2.2)]) (fun _ _ => True) []
        (fun j c => (∃ zs, IntsAre c.1 zs) ∧ c.1.length ≤ 11 * i + 1 + j) (fl :: D0 :: (tl ++ own).map (·.1)) (us ++ [_], n + 1, _, _) rfl hir (n := 10) rfl (by omega) F4 N4 (by intro q hq; simpa using hq) (fun _ => rfl) trivial
        (by intro p hp; rw [List.mem_singleton.mp hp]; with_unfolding_all rfl) ⟨⟨_, hz.append (.cons _ _ .nil)⟩, by rw [List.length_append, List.length_singleton]; omega⟩ ?_ ?_
      · intro c tl2 j t u2 h2 tk2 own2 hlt sep2 off2 _ hP2 F5 N5
        obtain ⟨us, n, fg, tf⟩ := c
        dsimp only [kstB] at F5 hP2
        obtain ⟨⟨zs, hz⟩, hlen⟩ := hP2
        simp only [List.nil_append, List.cons_append] at N5
        clear F4 N4
        have hKd := kdMark
        (first | ((try k_unmd); (try k_fold); repeat' (first | (k_unfold; (try dsimp only)) | (fail "none") | ((first | (fail_if_success (with_reducible first | show wpAny _ _ (call (Value.ref _) _) _ _ _ | show wpAny _ _ (exec (Stmt.While _ _ _ _) _) _ _ _ | show wpAny _ _ (exec (Stmt.For _ _ _ _ _) _) _ _ _ | show wpAny _ _ (pyIter _) _ _ _ | show wpAny _ _ (setItem _ _ _) _ _ _ | show wpAny _ _ (eval (Expr.ListComp _ _ _ _) _) _ _ _ | show wpAny _ _ (exec (Stmt.Assign _ (Expr.ListComp _ _ _ _) _) _) _ _ _ | show InvPostG _ _ _ _ _ _ _ _ | show InvEndG _ _ _ _ _ _ | show OnG _ _ _ _ _ _ _ | show Fin _ _ _ _ _ _ | show KswEnd _ _ _ _ _ _ _ _ _ _ _ _ | show wpAny _ _ (call (Value.builtin "sorted") _) _ _ _ | show LCg.CompEnd _ _ _ _ _ _ _ _ _ _ _ _ _ _ | show LCg.CompSrc _ _ _ _ _ _ _ _ _ _ _ _ _ _ | show LCt.CompSrcT _ _ _ _ _ _ _ _ _ _ _ _ _ _ _)) | fail); first | walk1 | (dsimp only; (try k_fold); (first | (fail_if_success (with_reducible first | show wpAny _ _ (call (Value.ref _) _) _ _ _ | show wpAny _ _ (exec (Stmt.While _ _ _ _) _) _ _ _ | show wpAny _ _ (exec (Stmt.For _ _ _ _ _) _) _ _ _ | show wpAny _ _ (pyIter _) _ _ _ | show wpAny _ _ (setItem _ _ _) _ _ _ | show wpAny _ _ (eval (Expr.ListComp _ _ _ _) _) _ _ _ | show wpAny _ _ (exec (Stmt.Assign _ (Expr.ListComp _ _ _ _) _) _) _ _ _ | show InvPostG _ _ _ _ _ _ _ _ | show InvEndG _ _ _ _ _ _ | show OnG _ _ _ _ _ _ _ | show Fin _ _ _ _ _ _ | show KswEnd _ _ _ _ _ _ _ _ _ _ _ _ | show wpAny _ _ (call (Value.builtin "sorted") _) _ _ _ | show LCg.CompEnd _ _ _ _ _ _ _ _ _ _ _ _ _ _ | show LCg.CompSrc _ _ _ _ _ _ _ _ _ _ _ _ _ _ | show LCt.CompSrcT _ _ _ _ _ _ _ _ _ _ _ _ _ _ _)) | fail); walk1)) | (leave1; walk_say "STEP leave1"; try dsimp only) | fail "no step")) | fail)
        · rename Fr _ _ _ _ => F6; rename News _ _ _ _ => N6
          rw [List.push_toArray] at N6
          dsimp only [InvPostG]
          exact end0 (us ++ [_], n + 1, _, _) sep2 F6 N6 rfl (by intro p hp; rw [List.mem_singleton.mp hp]; with_unfolding_all rfl) (by (first | (intro z h1 h2 h3; (simp only [List.contains_cons, List.contains_nil, Bool.or_eq_false_iff, beq_eq_false_iff_ne, ne_eq, List.forall_mem_cons, List.mem_cons, List.not_mem_nil, or_false, forall_eq_or_imp, forall_eq] at h1 h2 h3); (simp only [h1, h2, h3, if_false, ite_false, List.contains_cons, List.contains_nil, Bool.or_false, beq_iff_eq, Bool.or_eq_true, or_self, or_false, and_true, not_false_eq_true, Bool.false_eq_true]); done) | fail)) trivial ⟨⟨_, hz.append (.cons _ _ .nil)⟩, by rw [List.length_append, List.length_singleton]; omega⟩
        · dsimp only [InvPostG]
          rename Fr _ _ _ _ => F6; rename News _ _ _ _ => N6
          exact end0 (us, n, _, _) sep2 F6 N6 rfl (by intro p hp; rw [List.mem_singleton.mp hp]; with_unfolding_all rfl) (by (first | (intro z h1 h2 h3; (simp only [List.contains_cons, List.contains_nil, Bool.or_eq_false_iff, beq_eq_false_iff_ne, ne_eq, List.forall_mem_cons, List.mem_cons, List.not_mem_nil, or_false, forall_eq_or_imp, forall_eq] at h1 h2 h3); (simp only [h1, h2, h3, if_false, ite_false, List.contains_cons, List.contains_nil, Bool.or_false, beq_iff_eq, Bool.or_eq_true, or_self, or_false, and_true, not_false_eq_true, Bool.false_eq_true]); done) | fail)) trivial ⟨⟨_, hz⟩, by dsimp only; omega⟩
      · intro c tl2 u2 h2 tk2 off2 _ hP2 F5 N5
        obtain ⟨us, n, fg, tf⟩ := c
        dsimp only [kstB] at F5 hP2
        obtain ⟨hz, hlen⟩ := hP2
        simp only [List.nil_append, List.cons_append] at N5
        clear F4 N4
        dsimp only
        have hKd := kdMark
        (first | ((try k_unmd); (try k_fold); repeat' (first | (k_unfold; (try dsimp only)) | (fail "none") | ((first | (fail_if_success (with_reducible first | show wpAny _ _ (call (Value.ref _) _) _ _ _ | show wpAny _ _ (exec (Stmt.While _ _ _ _) _) _ _ _ | show wpAny _ _ (exec (Stmt.For _ _ _ _ _) _) _ _ _ | show wpAny _ _ (pyIter _) _ _ _ | show wpAny _ _ (setItem _ _ _) _ _ _ | show wpAny _ _ (eval (Expr.ListComp _ _ _ _) _) _ _ _ | show wpAny _ _ (exec (Stmt.Assign _ (Expr.ListComp _ _ _ _) _) _) _ _ _ | show InvPostG _ _ _ _ _ _ _ _ | show InvEndG _ _ _ _ _ _ | show OnG _ _ _ _ _ _ _ | show Fin _ _ _ _ _ _ | show KswEnd _ _ _ _ _ _ _ _ _ _ _ _ | show wpAny _ _ (call (Value.builtin "sorted") _) _ _ _ | show LCg.CompEnd _ _ _ _ _ _ _ _ _ _ _ _ _ _ | show LCg.CompSrc _ _ _ _ _ _ _ _ _ _ _ _ _ _ | show LCt.CompSrcT _ _ _ _ _ _ _ _ _ _ _ _ _ _ _)) | fail); first | walk1 | (dsimp only; (try k_fold); (first | (fail_if_success (with_reducible first | show wpAny _ _ (call (Value.ref _) _) _ _ _ | show wpAny _ _ (exec (Stmt.While _ _ _ _) _) _ _ _ | show wpAny _ _ (exec (Stmt.For _ _ _ _ _) _) _ _ _ | show wpAny _ _ (pyIter _) _ _ _ | show wpAny _ _ (setItem _ _ _) _ _ _ | show wpAny _ _ (eval (Expr.ListComp _ _ _ _) _) _ _ _ | show wpAny _ _ (exec (Stmt.Assign _ (Expr.ListComp _ _ _ _) _) _) _ _ _ | show InvPostG _ _ _ _ _ _ _ _ | show InvEndG _ _ _ _ _ _ | show OnG _ _ _ _ _ _ _ | show Fin _ _ _ _ _ _ | show KswEnd _ _ _ _ _ _ _ _ _ _ _ _ | show wpAny _ _ (call (Value.builtin "sorted") _) _ _ _ | show LCg.CompEnd _ _ _ _ _ _ _ _ _ _ _ _ _ _ | show LCg.CompSrc _ _ _ _ _ _ _ _ _ _ _ _ _ _ | show LCt.CompSrcT _ _ _ _ _ _ _ _ _ _ _ _ _ _ _)) | fail); walk1)) | (leave1; walk_say "STEP leave1"; try dsimp only) | fail "no step")) | fail)
        dsimp only [InvPostG]
        exact end0 (us, n) sep F5 (kst_newsOf N5 fun q hq => by
          simp only [List.nil_append, List.cons_append, List.mem_cons, List.mem_append] at hq ⊢
          rcases hq with h | h | h | h
          · exact .inl h
          · exact .inr (.inl h)
          · exact .inr (.inr (.inl (.inl h)))
          · exact .inr (.inr (.inl (.inr h)))) rfl (by intro p hp; cases hp) (by (first | (intro z h1 h2 h3; (simp only [List.contains_cons, List.contains_nil, Bool.or_eq_false_iff, beq_eq_false_iff_ne, ne_eq, List.forall_mem_cons, List.mem_cons, List.not_mem_nil, or_false, forall_eq_or_imp, forall_eq] at h1 h2 h3); (simp only [h1, h2, h3, if_false, ite_false, List.contains_cons, List.contains_nil, Bool.or_false, beq_iff_eq, Bool.or_eq_true, or_self, or_false, and_true, not_false_eq_true, Bool.false_eq_true]); done) | fail)) trivial ⟨hz, by omega⟩)
  · intro c tl u h tk off _ hP F2 N2
    obtain ⟨us, n⟩ := c
    dsimp only [kstB] at F2 hP
    obtain ⟨⟨zs, hz⟩, hlen⟩ := hP
    simp only [List.nil_append, List.cons_append] at N2
    clear F1 N1
    dsimp only
    have hKd := kdMark
    (first | ((try k_unmd); (try k_fold); repeat' (first | (k_unfold; (try dsimp only)) | (fail "none") | ((first | (fail_if_success (with_reducible first | show wpAny _ _ (call (Value.ref _) _) _ _ _ | show wpAny _ _ (exec (Stmt.While _ _ _ _) _) _ _ _ | show wpAny _ _ (exec (Stmt.For _ _ _ _ _) _) _ _ _ | show wpAny _ _ (pyIter _) _ _ _ | show wpAny _ _ (setItem _ _ _) _ _ _ | show wpAny _ _ (eval (Expr.ListComp _ _ _ _) _) _ _ _ | show wpAny _ _ (exec (Stmt.Assign _ (Expr.ListComp _ _ _ _) _) _) _ _ _ | show InvPostG _ _ _ _ _ _ _ _ | show InvEndG _ _ _ _ _ _ | show OnG _ _ _ _ _ _ _ | show Fin _ _ _ _ _ _ | show KswEnd _ _ _ _ _ _ _ _ _ _ _ _ | show wpAny _ _ (call (Value.builtin "sorted") _) _ _ _ | show LCg.CompEnd _ _ _ _ _ _ _ _ _ _ _ _ _ _ | show LCg.CompSrc _ _ _ _ _ _ _ _ _ _ _ _ _ _ | show LCt.CompSrcT _ _ _ _ _ _ _ _ _ _ _ _ _ _ _)) | fail); first | walk1 | (dsimp only; (try k_fold); (first | (fail_if_success (with_reducible first | show wpAny _ _ (call (Value.ref _) _) _ _ _ | show wpAny _ _ (exec (Stmt.While _ _ _ _) _) _ _ _ | show wpAny _ _ (exec (Stmt.For _ _ _ _ _) _) _ _ _ | show wpAny _ _ (pyIter _) _ _ _ | show wpAny _ _ (setItem _ _ _) _ _ _ | show wpAny _ _ (eval (Expr.ListComp _ _ _ _) _) _ _ _ | show wpAny _ _ (exec (Stmt.Assign _ (Expr.ListComp _ _ _ _) _) _) _ _ _ | show InvPostG _ _ _ _ _ _ _ _ | show InvEndG _ _ _ _ _ _ | show OnG _ _ _ _ _ _ _ | show Fin _ _ _ _ _ _ | show KswEnd _ _ _ _ _ _ _ _ _ _ _ _ | show wpAny _ _ (call (Value.builtin "sorted") _) _ _ _ | show LCg.CompEnd _ _ _ _ _ _ _ _ _ _ _ _ _ _ | show LCg.CompSrc _ _ _ _ _ _ _ _ _ _ _ _ _ _ | show LCt.CompSrcT _ _ _ _ _ _ _ _ _ _ _ _ _ _ _)) | fail); walk1)) | (leave1; walk_say "STEP leave1"; try dsimp only) | fail "no step")) | fail)
    rename Fr _ _ _ _ => F3; rename News _ _ _ _ => N3; rename IntsAre _ (List.take 140 zs) => hI3; rename AllLt _ _ => l3
    have l3' := off1_mem (l := (fl, listOf us.toArray n) :: (D0, listOf ws.toArray 0) :: tl) (off1_lt l3)
    have hI3' := hI3.length
    have hzl := List.length_take_le 140 zs
    refine reverse_head F3 N3 l3' ?_ (by rw [sizeLine_eq, List.size_toArray]; omega)
    intro h4 F4 N4
    (first | ((try k_unmd); (try k_fold); repeat' (first | (k_unfold; (try dsimp only)) | (fail "none") | ((first | (fail_if_success (with_reducible first | show wpAny _ _ (call (Value.ref _) _) _ _ _ | show wpAny _ _ (exec (Stmt.While _ _ _ _) _) _ _ _ | show wpAny _ _ (exec (Stmt.For _ _ _ _ _) _) _ _ _ | show wpAny _ _ (pyIter _) _ _ _ | show wpAny _ _ (setItem _ _ _) _ _ _ | show wpAny _ _ (eval (Expr.ListComp _ _ _ _) _) _ _ _ | show wpAny _ _ (exec (Stmt.Assign _ (Expr.ListComp _ _ _ _) _) _) _ _ _ | show InvPostG _ _ _ _ _ _ _ _ | show InvEndG _ _ _ _ _ _ | show OnG _ _ _ _ _ _ _ | show Fin _ _ _ _ _ _ | show KswEnd _ _ _ _ _ _ _ _ _ _ _ _ | show wpAny _ _ (call (Value.builtin "sorted") _) _ _ _ | show LCg.CompEnd _ _ _ _ _ _ _ _ _ _ _ _ _ _ | show LCg.CompSrc _ _ _ _ _ _ _ _ _ _ _ _ _ _ | show LCt.CompSrcT _ _ _ _ _ _ _ _ _ _ _ _ _ _ _)) | fail); first | walk1 | (dsimp only; (try k_fold); (first | (fail_if_success (with_reducible first | show wpAny _ _ (call (Value.ref _) _) _ _ _ | show wpAny _ _ (exec (Stmt.While _ _ _ _) _) _ _ _ | show wpAny _ _ (exec (Stmt.For _ _ _ _ _) _) _ _ _ | show wpAny _ _ (pyIter _) _ _ _ | show wpAny _ _ (setItem _ _ _) _ _ _ | show wpAny _ _ (eval (Expr.ListComp _ _ _ _) _) _ _ _ | show wpAny _ _ (exec (Stmt.Assign _ (Expr.ListComp _ _ _ _) _) _) _ _ _ | show InvPostG _ _ _ _ _ _ _ _ | show InvEndG _ _ _ _ _ _ | show OnG _ _ _ _ _ _ _ | show Fin _ _ _ _ _ _ | show KswEnd _ _ _ _ _ _ _ _ _ _ _ _ | show wpAny _ _ (call (Value.builtin "sorted") _) _ _ _ | show LCg.CompEnd _ _ _ _ _ _ _ _ _ _ _ _ _ _ | show LCg.CompSrc _ _ _ _ _ _ _ _ _ _ _ _ _ _ | show LCt.CompSrcT _ _ _ _ _ _ _ _ _ _ _ _ _ _ _)) | fail); walk1)) | (leave1; walk_say "STEP leave1"; try dsimp only) | fail "no step")) | fail)
    dsimp only
    k_unfold
    exact ⟨_, _, _, rfl, F4, _, _, _, _, rfl, fresh_of sub (N4 _ (.head _)).2.2, (N4 _ (.head _)).1, hI3.reverse, by rw [List.length_reverse]; exact Nat.le_trans (Nat.le_of_eq hI3') hzl⟩

/-- a heap's part -/
theorem restr (h : Heap) (p : Addr → Obj → Prop) : ∃ K : Heap, ∀ b o, K.get? b = some o ↔ h.get? b = some o ∧ p b o := by
  classical
  refine ⟨hideAll h ((List.range h.objs.size).filter fun b => decide (¬ ∃ o, h.get? b = some o ∧ p b o)), fun b o => ⟨fun e => ?_, fun e => ?_⟩⟩
  · have e1 := of_hideAll _ e
    refine ⟨e1, ?_⟩
    refine Classical.byContradiction fun hn => ?_
    rw [hideAll_none _ (List.mem_filter.mpr ⟨List.mem_range.mpr (Heap.lt_size e1), decide_eq_true (by
      rintro ⟨o', e2, hp⟩
      rw [e1] at e2
      cases e2
      exact hn hp)⟩)] at e
    cases e
  · refine hideAll_get _ e.1 fun hm => ?_
    exact (of_decide_eq_true (List.mem_filter.mp hm).2) ⟨o, e⟩
def KIn (K g : Heap) (tl : List (Addr × Obj)) : Prop := ∀ b o, K.get? b = some o → Kn g tl b o
theorem KIn.le {K g h : Heap} {L : Addr} {m : Str → Option Value} {tl l : List (Addr × Obj)} (k : KIn K g tl) (F : Fr g L h m) (N : News g L h l) (hs : ∀ p ∈ tl, p ∈ l) : ∀ b o, K.get? b = some o → h.get? b = some o := fun b o e => Kn.hp F N hs b o (k b o e)
/-- all that stands but the frame and some addresses, put on the ledger -/
theorem snap {g h : Heap} {L : Addr} {m : Str → Option Value} (F : Fr g L h m) (off : List Addr) (ho : ∀ b ∈ off, g.get? b = none) : ∃ K tl, (∀ b o, K.get? b = some o ↔ h.get? b = some o ∧ b ≠ L ∧ b ∉ off) ∧ News g L h tl ∧ OwnOff tl off ∧ KIn K g tl := by
  classical
  obtain ⟨K, hK⟩ := restr h fun b _ => b ≠ L ∧ b ∉ off
  refine ⟨K, (List.range h.objs.size).filterMap fun b => match K.get? b with
    | some o => if g.get? b = none then some (b, o) else none
    | none => none, hK, ?_, ?_, ?_⟩
  · intro q hq
    obtain ⟨b, _, e⟩ := List.mem_filterMap.mp hq
    cases h1 : K.get? b with
    | none => rw [h1] at e; cases e
    | some o =>
      rw [h1] at e
      dsimp only at e
      split at e
      · cases e
        exact ⟨((hK _ _).mp h1).1, ((hK _ _).mp h1).2.1, by assumption⟩
      · cases e
  · intro q hq b hb
    obtain ⟨b', _, e⟩ := List.mem_filterMap.mp hq
    cases h1 : K.get? b' with
    | none => rw [h1] at e; cases e
    | some o =>
      rw [h1] at e
      dsimp only at e
      split at e
      · cases e
        intro hbb
        dsimp only at hbb
        subst hbb
        exact ((hK _ _).mp h1).2.2 hb
      · cases e
  · intro b o e
    cases h2 : g.get? b with
    | some o' =>
      have := F.keep b o' h2
      rw [((hK _ _).mp e).1] at this
      cases this
      exact .inl h2
    | none =>
      refine .inr (List.mem_filterMap.mpr ⟨b, List.mem_range.mpr (Heap.lt_size ((hK _ _).mp e).1), ?_⟩)
      rw [e]
      simp [h2]
mutual
/-- only lists and tuples are read -/
theorem DI.seq {G : Addr → Obj → Prop} : ∀ {v : Value} {d : Dat}, DI G v d → DI (fun a o => G a o ∧ SeqO o) v d
  | _, _, .none => .none
  | _, _, .bool b => .bool b
  | _, _, .int i t => .int i t
  | _, _, .str x t => .str x t
  | _, _, .tuple h c e r => .tuple ⟨h, _, _, e⟩ c e (DIs.seq r)
  | _, _, .list h c e r => .list ⟨h, _, _, e⟩ c e (DIs.seq r)
theorem DIs.seq {G : Addr → Obj → Prop} : ∀ {vs : List Value} {ds : List Dat}, DIs G vs ds → DIs (fun a o => G a o ∧ SeqO o) vs ds
  | _, _, .nil => .nil
  | _, _, .cons h r => .cons (DI.seq h) (DIs.seq r)
end
theorem KVs.seq {G : Addr → Obj → Prop} {K : Type} {kvs : List (K × Value)} {l : List (K × Dat)} (x : KVs G kvs l) : KVs (fun a o => G a o ∧ SeqO o) kvs l := by
  induction x with
  | nil => exact .nil
  | cons h _ ih => exact .cons h.seq ih
/-- a part of the heap that holds no frame, no cell that stood before -/
def Apart (H h K : Heap) : Prop := ∀ b o, K.get? b = some o → h.get? b = some o ∧ (SeqO o ∨ H.get? b = none)
theorem AttD.apart {H h K : Heap} (hK : ∀ b o, K.get? b = some o ↔ h.get? b = some o ∧ (SeqO o ∨ H.get? b = none)) {es : List DictEntry} {n : Str} {d : Dat} (x : AttD h es n d) : AttD K es n d := by
  obtain ⟨v, e, hd⟩ := x
  exact ⟨v, e, hd.seq.mono fun a o q => (hK a o).mpr ⟨q.1, .inl q.2⟩⟩
theorem AttK.apart {H h K : Heap} (hK : ∀ b o, K.get? b = some o ↔ h.get? b = some o ∧ (SeqO o ∨ H.get? b = none)) {T : Type} [DecidableEq T] {prog : Program} {w : World} {knd : KeyKind prog w T} {es : List DictEntry} {n : Str} {l : List (T × Dat)} (x : AttK knd h es n l)
    (hn : ∀ d, getL n es = some (some (.ref d)) → H.get? d = none) : AttK knd K es n l := by
  obtain ⟨d, kvs, e, lo, hd, hk⟩ := x
  obtain ⟨o, ho, hi⟩ := Heap.dictOf_iff.mp hd
  exact ⟨d, kvs, e, lo, Heap.dictOf_iff.mpr ⟨o, (hK _ _).mpr ⟨ho, .inr (hn d e)⟩, hi⟩, hk.seq.mono fun a o q => (hK a o).mpr ⟨q.1, .inl q.2⟩⟩
theorem objIs_apart {w : World} {H h : Heap} {x : Addr} {es : List DictEntry} {o : OD} (X : ObjIs w h x es o) (f : Fresh H h x es) : ∃ K, Apart H h K ∧ ObjIs w K x es o := by
  obtain ⟨K, hK⟩ := restr h fun b o => SeqO o ∨ H.get? b = none
  refine ⟨K, fun b o e => (hK b o).mp e, ?_, X.name.apart hK, X.key.apart hK, X.imports.apart hK, X.rows.apart hK, X.dsize.apart hK, X.words.apart hK, X.dfix.apart hK, X.fixups.apart hK, X.entries.apart hK, X.pointers.apart hK, X.body.apart hK, X.maps.apart hK f.maps, X.cmds.apart hK f.cmds⟩
  obtain ⟨dx, n, e1, e2, n1, n2⟩ := f.inst
  exact ⟨instObj 45 dx, n, (hK _ _).mpr ⟨e1, .inr n1⟩, rfl, rfl, (hK _ _).mpr ⟨e2, .inr n2⟩⟩
section
variable {h₀ : Heap} {x : Str}
/-- a turn's end that adds objects -/
theorem endK {σ τ : Type} {Led : σ → List (Addr × Obj)} {cst : List (Addr × Obj)} {ps : σ → List (Str × Value)} {Facts : List (Addr × Obj) → σ → Prop} {stored : List Str} {m₀ : Str → Option Value} {P : τ → σ → Prop} {adr : List Addr} {pre : τ} (c : σ) (add : List (Addr × Obj)) {tl : List (Addr × Obj)} {L : Addr} {m' : Str → Option Value} {own all : List (Addr × Obj)} {s₁ : Shared} {h' : Heap} {tk : Nat} {c₁ : List (Addr × Obj)}
    (h0 : KdSep own tl adr) (F : Fr h₀ L h' m') (N : News h₀ L h' all) (hs : ∀ p ∈ add ++ (Led c ++ (cst ++ (tl ++ own))), p ∈ all) (hadr : (Led c ++ cst).map (·.1) = adr) (h1 : ∀ q ∈ add, LCg.Off1 q.1 (c₁ ++ (cst ++ (tl ++ own)))) (hc : c₁.map (·.1) = (Led c).map (·.1))
    (hk : ∀ p ∈ ps c, m' p.1 = some p.2) (hr : ∀ z, z ≠ x → (∀ p ∈ ps c, z ≠ p.1) → stored.contains z = false → m' z = m₀ z) (hf : Facts (cst ++ (add ++ tl)) c) (hp : P pre c) :
    InvEndG h₀ L (KdS Led cst ps Facts x stored m₀ P adr pre) own s₁ { s₁ with heap := h', toks := tk } :=
  kd_end c add h0 F N (fun p hp => hs p (by
      simp only [List.mem_append] at hp ⊢
      rcases hp with h | h | h | h
      · exact .inr (.inl h)
      · exact .inr (.inr (.inl h))
      · exact .inl h
      · exact .inr (.inr (.inr (.inl h)))))
    (fun p hp => hs p (by simp only [List.mem_append]; exact .inr (.inr (.inr (.inr hp))))) hadr
    (fun q hq b hb => by
      rw [← hadr, List.map_append, ← hc, ← List.map_append] at hb
      obtain ⟨p, hp, rfl⟩ := List.mem_map.mp hb
      exact off1_mem (h1 q hq) p ((List.mem_append.mp hp).elim (fun h => List.mem_append.mpr (.inl h)) fun h => List.mem_append.mpr (.inr (List.mem_append.mpr (.inl h)))))
    (fun q hq p hp => off1_mem (h1 q hq) p (List.mem_append.mpr (.inr (List.mem_append.mpr (.inr (List.mem_append.mpr (.inr hp)))))))
    hk hr hf hp
end
section
variable {h₀ : Heap} {x : Str}
theorem endK0 {σ τ : Type} {Led : σ → List (Addr × Obj)} {cst : List (Addr × Obj)} {ps : σ → List (Str × Value)} {Facts : List (Addr × Obj) → σ → Prop} {stored : List Str} {m₀ : Str → Option Value} {P : τ → σ → Prop} {adr : List Addr} {pre : τ} {L : Addr} {own : List (Addr × Obj)} {s₁ : Shared} {h' : Heap} {tk : Nat}
    (k : ∃ (tl : List (Addr × Obj)) (c : σ) (add c₁ : List (Addr × Obj)) (m' : Str → Option Value), KdSep own tl adr ∧ Fr h₀ L h' m' ∧ News h₀ L h' (add ++ (Led c ++ (cst ++ (tl ++ own)))) ∧ (Led c ++ cst).map (·.1) = adr ∧ (∀ q ∈ add, LCg.Off1 q.1 (c₁ ++ (cst ++ (tl ++ own)))) ∧ c₁.map (·.1) = (Led c).map (·.1) ∧
      (∀ p ∈ ps c, m' p.1 = some p.2) ∧ (∀ z, z ≠ x → (∀ p ∈ ps c, z ≠ p.1) → stored.contains z = false → m' z = m₀ z) ∧ Facts (cst ++ (add ++ tl)) c ∧ P pre c) :
    InvEndG h₀ L (KdS Led cst ps Facts x stored m₀ P adr pre) own s₁ { s₁ with heap := h', toks := tk } :=
  let ⟨_, c, add, _, _, h0, F, N, ha, h1, hc, hk, hr, hf, hp⟩ := k
  endK c add h0 F N (fun _ h => h) ha h1 hc hk hr hf hp
end
/-- a draw, wherever the figures lie -/
theorem draw_at {w : World} {mean : ExcName → Option Value} {mg mb : Str → Option Value} {dp un : Nat} {gd : Option (List Code)} {cn : Str} {cs : Scope} {L a : Addr} {ccd : Value} {cl : List (Str × Addr)} {outer : List Env} {A₀ : Around} {base h₀ : Heap} {m : Str → Option Value} {s : Shared} {Q E : Value → Shared → Prop} {fa : Addr} {vs : List Value} {ns : List Int} {n : Nat} {k : Int} {tk : Tok} {news : List (Addr × Obj)} {G : Obj → List (Addr × Obj)}
    (B : Below A₀ base outer h₀) (F : Fr h₀ L s.heap m) (X : (Mine.hd.heap_1 w.params).In h₀) (T : Top Mine.hd.view_1 (looseW Mine.hd.view_1 []) mean mg mb h₀) (hk : cs.kind = .function) (hd : dp ≤ 490) (hu : un ≤ 490) (N : News h₀ L s.heap news) (U : UpdF fa (listOf vs.toArray n) news G) (hi : IntsAre vs ns) (hl : ns.length ≤ 1000) (h0 : 0 < k) (h1 : k < 1000)
    (ret : ∀ h' tk' vs' n' ns' (x : Nat) t, Fr h₀ L h' m → News h₀ L h' (G (listOf (List.toArray vs') n')) → IntsAre vs' ns' → ns'.length ≤ 1000 → (x : Int) < k → Q (.int (x : Int) t) { s with heap := h', toks := tk' }) :
    wpAny (model PySem.Challenge.rw_nu0316_01.row.prog w) (ktrTop dp un gd cn cs L a ccd cl outer) (call (.ref 112) [.ref fa, .int k tk]) Q E s := by
  obtain ⟨pre, post, rfl, hG, a, b⟩ := U.split
  have N1 : News h₀ L s.heap [(fa, listOf vs.toArray n)] := fun p hp => N p (by rw [List.mem_singleton.mp hp]; exact List.mem_append.mpr (.inr (.head _)))
  refine draw_ok B F X T hk (by omega) (by omega) N1 hi hl h0 h1 ?_
  rintro r h' tk' keep ⟨vs', n', ns', x, t, e, hi', hl', rfl, x0, x1⟩
  have z := N1 _ (.head _)
  have kp : ∀ b o, b ∉ [fa] → s.heap.get? b = some o → h'.get? b = some o := fun b o hb e => keep b o e hb
  obtain ⟨x, rfl⟩ := Int.eq_ofNat_of_zero_le x0
  refine ret h' tk' vs' n' ns' x t (LCg.fr_but F kp z.2.1.symm z.2.2) ?_ hi' (Nat.le_trans hl' hl) x1
  rw [hG]
  intro q hq
  rcases List.mem_append.mp hq with hq | hq
  · exact ⟨kp _ _ (by simpa using a q hq) (N q (List.mem_append.mpr (.inl hq))).1, (N q (List.mem_append.mpr (.inl hq))).2⟩
  · rcases List.mem_cons.mp hq with rfl | hq
    · exact ⟨e, z.2⟩
    · exact ⟨kp _ _ (by simpa using b q hq) (N q (List.mem_append.mpr (.inr (.tail _ hq)))).1, (N q (List.mem_append.mpr (.inr (.tail _ hq)))).2⟩
section
variable {prog : Program} {w : World} {A : Around} {E : Value → Shared → Prop} {s : Shared} {h₀ : Heap} {L D : Addr} {m : Str → Option Value} {news news' : List (Addr × Obj)} {n : Nat}
theorem append_L {us : List Value} {x : Value} {Q : Value → Shared → Prop} (F : Fr h₀ L s.heap m) (N : News h₀ L s.heap news) (U : Upd D (listOf us.toArray n) (listOf (us ++ [x]).toArray (n + 1)) news news')
    (h : ∀ h', Fr h₀ L h' m → News h₀ L h' news' → Q .none { s with heap := h' }) (hsz : us.length ≤ 1000) : wpAny (model prog w) A (call (.builtin "list.append") [.ref D, x]) Q E s :=
  append_K F N (by rw [List.push_toArray]; exact U) h (by rw [sizeLine_eq, List.size_toArray]; omega)
end
theorem at_last {us : List Value} {v : Value} {i : Nat} (h : us.length = i) : (us ++ [v])[(i : Int).toNat]? = some v := by subst h; simp
theorem called {x : Nat} {k : Int} (h : (x : Int) < k) : ∃ y : Nat, y = x ∧ (y : Int) < k := ⟨x, rfl, h⟩
theorem bit_of {x : Nat} (h : (x : Int) < 2) : ∃ b : Bool, (x : Int) = if b then 1 else 0 := by
  have : x = 0 ∨ x = 1 := by omega
  rcases this with rfl | rfl
  · exact ⟨false, rfl⟩
  · exact ⟨true, rfl⟩
theorem fmod_cast (x y : Nat) : (x : Int).fmod (1 + (y : Int)) = ((x % (1 + y) : Nat) : Int) := by
  rw [Int.fmod_eq_emod_of_nonneg _ (by omega)]
  push_cast
  rfl
theorem DI.int' {G : Addr → Obj → Prop} {i j : Int} {t : Tok} (e : i = j) : DI G (.int i t) (.int j) := e ▸ .int i t
theorem DI.str' {G : Addr → Obj → Prop} {i j : Str} {t : Tok} (e : i = j) : DI G (.str i t) (.str j) := e ▸ .str i t
theorem restr_of {g h : Heap} {L : Addr} {m : Str → Option Value} (_ : Fr g L h m) (p : Addr → Obj → Prop) : ∃ K : Heap, ∀ b o, K.get? b = some o ↔ h.get? b = some o ∧ p b o := restr h p
theorem toK {g h H K : Heap} {L fa : Addr} {m : Str → Option Value} {l : List (Addr × Obj)} (hK : ∀ b o, K.get? b = some o ↔ h.get? b = some o ∧ (b ≠ fa ∧ (SeqO o ∨ H.get? b = none))) (F : Fr g L h m) (N : News g L h l) (hg : g.get? fa = none) (ho : ∀ p ∈ l, p.1 ≠ fa) :
    ∀ a o, Kn g l a o ∧ SeqO o → Hp K a o := fun a o q => (hK a o).mpr ⟨Kn.hp F N (fun _ h => h) a o q.1, fun e => by
      subst e
      rcases q.1 with h | h
      · rw [hg] at h; cases h
      · exact ho _ h rfl, .inl q.2⟩
theorem kn_seq {g : Heap} {x dx : Addr} {es : List DictEntry} {n : Nat} {tl l : List (Addr × Obj)} (hs : ∀ p ∈ tl, p ∈ l) : ∀ a o, Kn g ([(x, instObj 45 dx), (dx, dictOf es n)] ++ tl) a o ∧ SeqO o → Kn g l a o ∧ SeqO o := by
  rintro a o ⟨h | h, z⟩
  · exact ⟨.inl h, z⟩
  · refine ⟨.inr ?_, z⟩
    rcases List.mem_append.mp h with h | h
    · simp only [List.mem_cons, List.not_mem_nil, or_false] at h
      obtain ⟨_, _, q⟩ := z
      rcases h with h | h <;> (cases h; cases q)
    · exact hs _ h
theorem lst_k {g K : Heap} {a : Addr} {l : List (Addr × Obj)} {vs : List Value} {n : Nat} {es : List DictEntry} {name : Str} {ds : List Dat} (tk : ∀ a o, Kn g l a o ∧ SeqO o → Hp K a o) (hm : (a, listOf vs.toArray n) ∈ l) (e : getL name es = some (some (Value.ref a))) (hd : DIs (Hp K) vs ds) : AttD K es name (.list ds) := ⟨_, e, .list (tk _ _ ⟨.inr hm, _, _, rfl⟩) rfl rfl hd⟩
theorem tup_k {g K : Heap} {a : Addr} {l : List (Addr × Obj)} {vs : List Value} {n : Nat} {ds : List Dat} (tk : ∀ a o, Kn g l a o ∧ SeqO o → Hp K a o) (hm : (a, ({ cls := .type "tuple", data := .seq vs.toArray n } : Obj)) ∈ l) (hd : DIs (Hp K) vs ds) : DI (Hp K) (.ref a) (.tuple ds) := .tuple (tk _ _ ⟨.inr hm, _, _, rfl⟩) rfl rfl hd
theorem gsub_fresh {h g : Heap} {fa d : Addr} {o : Obj} (sub : GSub h g (List.map (·.1) [(fa, o)])) (hg : g.get? d = none) (hd : d ≠ fa) : h.get? d = none := by
  cases e : h.get? d with
  | none => rfl
  | some o' => rw [sub _ _ e (by simpa using hd)] at hg; cases hg
theorem called1 {x y : Nat} (h : (x : Int) < 1 + (y : Int)) : ∃ z : Nat, z = x ∧ z < 1 + y := ⟨x, rfl, by omega⟩
theorem at_tab {x : Int} {t0 t1 : Tok} {u v : Str} {b : Bool} (h : x = if b then 1 else 0) : [Value.str u t0, Value.str v t1][x.toNat]? = some (Value.str (if b then v else u) (if b then t1 else t0)) := by subst h; cases b <;> rfl

local macro_rules | `(tactic| walk_at "call builtin:list.append") => `(tactic| (k_here; (with_reducible show wpAny _ _ (call (Value.builtin _) [Value.ref _, _]) _ _ _); k_dflt (refine append_L (by k_asm) (by k_asm) (by walk_at "m:upd") ?_ (by first | (with_reducible assumption) | omega | (simp only [List.length_append, List.length_cons, List.length_nil]; omega) | fail); k_whole); intro h' F' N'; (try k_sweep)))
local macro_rules | `(tactic| walk_at "subscriptTail") => `(tactic| (k_here; (with_reducible show wpAny _ _ (subscriptTail _ _ (Value.ref _) (Value.int _ _)) _ _ _); k_dflt (refine n_item (by k_asm) (by k_mem) (by first | exact at_tab (by with_reducible assumption) | exact at_last (by with_reducible assumption) | fail) (by first | (with_reducible assumption) | omega | fail) (by first | (with_reducible assumption) | omega | fail) ?_ (by with_unfolding_all rfl); k_whole)))
/-- an object on a part of the ledger that is not written out -/
def ObjL (c : List (Addr × Obj)) (x : Addr) (es : List DictEntry) : Prop := ∃ dx n, (x, instObj 45 dx) ∈ c ∧ (dx, dictOf es n) ∈ c
section
variable {prog : Program} {w : World} {A : Around} {E : Value → Shared → Prop} {s : Shared} {K : Frag} {x L : Addr} {h₀ : Heap} {m : Str → Option Value} {es : List DictEntry} {name : Str} {v : Value} {c news : List (Addr × Obj)}
theorem ObjL.at {h : Heap} (O : ObjL c x es) (N : News h₀ L h news) (hs : ∀ p ∈ c, p ∈ news) : ObjAt h x es :=
  let ⟨_, n, h1, h2⟩ := O; ⟨_, n, (N _ (hs _ h1)).1, rfl, rfl, (N _ (hs _ h2)).1⟩
theorem att_led {expr : Bool} {Q : Value → Shared → Prop} {attr : Option Value} (F : Fr h₀ L s.heap m) (X₀ : K.In h₀) (N : News h₀ L s.heap news) (O : ObjL c x es) (hs : ∀ p ∈ c, p ∈ news) (hl : getL name es = some (some v)) (hg : plainGet K 45 name = true) (hh : hasDictIn K 45 = true)
    (ha : findIn K (.ref 45) name = some attr) (hn : noGet K attr = true) (hv : handedIn v = true) (h : Q v { s with toks := s.toks + 1 }) :
    wpAny (model prog w) A (getAttr (.ref x) name expr) Q E s := by
  obtain ⟨ox, n, I⟩ := O.at N hs
  exact get_own F X₀ I hg hh ha hn hl hv h
end
local macro_rules | `(tactic| walk_at "getAttr ref") => `(tactic| (k_here; k_dflt (refine att_led (by k_asm) (by k_asm) (by k_asm) (by with_reducible assumption) (by walk_at "m:sub") (by with_reducible assumption) (by k_is) (by k_is) (by k_is) (by k_is) (by rfl) ?_; k_whole)))
theorem rowsD_snoc (rows : List Row) (r : Row) : rowsD (rows ++ [r]) = rowsD rows ++ [rowDat rows.length r] := gen_snoc _ _ _
theorem fixes_snoc (rows : List Row) (r : Row) : fixes (rows ++ [r]) = fixes rows ++ fixOf rows.length r := gen_snoc _ _ _
theorem mk_snoc (rows : List Row) (r : Row) : mk (rows ++ [r]) = mk rows ++ (if isBL r then [rows.length] else []) := gen_snoc _ _ _
theorem mapsL_append (a b : List Nat) : mapsL (a ++ b) = mapsL a ++ mapsL b := List.map_append
theorem mk_fresh {G : Addr → Obj → Prop} {mv : List (Int × Value)} {rows : List Row} (h : KVs G mv (mapsL (mk rows))) : ∀ p ∈ mv, p.1 ≠ ((rows.length : Int) + 1) := by
  intro p hp e
  have : p.1 ∈ (mapsL (mk rows)).map (·.1) := h.keys ▸ List.mem_map_of_mem hp
  rw [maps_keys] at this
  obtain ⟨i, hi, e'⟩ := List.mem_map.mp this
  have := mk_lt rows i hi
  omega
structure OS where
  fv : List Value
  fn : Nat
  fz : List Int
  rv : List Value
  rows : List Row
  rn : Nat
  xv : List Value
  xn : Nat
  mo : Obj
  mv : List (Int × Value)
theorem news_erase {g h : Heap} {L : Addr} {l : List (Addr × Obj)} (k : Nat) (N : News g L h l) : News g L h (l.eraseIdx k) := fun p hp => N p (List.mem_of_mem_eraseIdx hp)
theorem val_snoc {V : Row → Prop} {rows : List Row} {r : Row} (h : ∀ r ∈ rows, V r) (h0 : V r) : ∀ x ∈ rows ++ [r], V x := fun x hx => (List.mem_append.mp hx).elim (h x) fun e => (List.mem_singleton.mp e) ▸ h0
theorem fixes_no {rows : List Row} {r : Row} (h : ∀ i, fixOf i r = []) : fixes (rows ++ [r]) = fixes rows := by rw [fixes_snoc, h, List.append_nil]
theorem mk_no {rows : List Row} {r : Row} (h : isBL r = false) : mk (rows ++ [r]) = mk rows := by rw [mk_snoc, h]; simp
theorem kd_cases {x : Nat} (h : (x : Int) < 5) : (x : Int) = 1 ∨ ((x : Int) ≠ 1 ∧ (x : Int) = 2) ∨ ((x : Int) ≠ 1 ∧ (x : Int) ≠ 2 ∧ (x : Int) = 3) ∨ ((x : Int) ≠ 1 ∧ (x : Int) ≠ 2 ∧ (x : Int) ≠ 3 ∧ (x : Int) = 4) ∨ ((x : Int) ≠ 1 ∧ (x : Int) ≠ 2 ∧ (x : Int) ≠ 3 ∧ (x : Int) ≠ 4) := by omega
theorem hoff_of {g h : Heap} {L fa : Addr} {l : List (Addr × Obj)} (_ : News g L h l) (k : ∀ p ∈ l, p.1 ≠ fa) : ∀ p ∈ l, p.1 ≠ fa := k
theorem tail_in {g h : Heap} {L : Addr} {l : List (Addr × Obj)} (_ : News g L h l) (tl : List (Addr × Obj)) (k : ∀ p ∈ tl, p ∈ l) : ∀ p ∈ tl, p ∈ l := k
theorem named {d : Addr} (h : (d == sysModules) = false) : ∃ d', d' = d ∧ (d' == sysModules) = false := ⟨d, rfl, h⟩
theorem split_four' {g h : Heap} {L a b c d x dx : Addr} {oa ob oc od : Obj} {n : Nat} {P : Prop} {es₀ : List DictEntry} (N : News g L h [(a, oa), (b, ob), (c, oc), (d, od), (x, instObj 45 dx), (dx, dictOf es₀ n)]) (hx : ∀ q ∈ [a, b, c, d], (@Ne Nat x q) ∧ (@Ne Nat dx q))
    (k : ∀ cst es, cst = [(x, instObj 45 dx), (dx, dictOf es n)] → es = es₀ → News g L h ((a, oa) :: (b, ob) :: (c, oc) :: (d, od) :: cst) → OwnOff cst [a, b, c, d] → ObjL cst x es → P) : P :=
  k _ es₀ rfl rfl N (fun p hp q hq => by
    simp only [List.mem_cons, List.not_mem_nil, or_false] at hp
    rcases hp with rfl | rfl
    · exact (hx q hq).1
    · exact (hx q hq).2) ⟨dx, n, .head _, .tail _ (.head _)⟩
theorem split_four {g h : Heap} {L : Addr} {a b c d : Addr × Obj} {l : List (Addr × Obj)} {P : Prop} (N : News g L h (a :: b :: c :: d :: l)) (k : ∀ cst, cst = l → News g L h (a :: b :: c :: d :: cst) → P) : P := k l rfl N
set_option maxHeartbeats 8000000 in
theorem object_ok {w : World} {mean : ExcName → Option Value} {mg mb : Str → Option Value} {dp un : Nat} {gd : Option (List Code)} {cn : Str} {cs : Scope} {L a : Addr} {ccd : Value} {cl : List (Str × Addr)} {outer : List Env} {A₀ : Around} {base h₀ : Heap} {m : Str → Option Value} {s : Shared} {Q E : Value → Shared → Prop} {fa : Addr} {vs : List Value} {ns : List Int} {n : Nat}
    (B : Below A₀ base outer h₀) (F : Fr h₀ L s.heap m) (X : (Mine.hd.heap_1 w.params).In h₀) (T : Top Mine.hd.view_1 (looseW Mine.hd.view_1 []) mean mg mb h₀) (hk : cs.kind = .function) (hd : dp ≤ 470) (hu : un ≤ 470) (N : News h₀ L s.heap [(fa, listOf vs.toArray n)]) (hi : IntsAre vs ns) (hl : ns.length ≤ 1000)
    (ret : ∀ r h' tk, (∀ b o, s.heap.get? b = some o → b ∉ [(fa, listOf vs.toArray n)].map (·.1) → h'.get? b = some o) → (fun (h' : Heap) r => ∃ K x es rows c gg rr b vs' n' ns', r = Value.ref x ∧ (∀ b o, K.get? b = some o → h'.get? b = some o ∧ b ≠ fa ∧ (SeqO o ∨ s.heap.get? b = none)) ∧ ObjIs w K x es (odOf rows c gg rr b) ∧
      h'.get? fa = some (listOf (List.toArray vs') n') ∧ IntsAre vs' ns' ∧ ns'.length ≤ 1000 ∧ 1 ≤ rows.length ∧ rows.length ≤ 9 ∧ (∀ r ∈ rows, Valid rows.length r) ∧ c < rows.length ∧ gg < rows.length ∧ rr < rows.length ∧ b < rows.length) h' r → Q r { s with heap := h', toks := tk }) :
    wpAny (model PySem.Challenge.rw_nu0316_01.row.prog w) (ktrTop dp un gd cn cs L a ccd cl outer) (call (.ref 119) [.ref fa]) Q E s := by
  refine wpAny_call ?_
  w_top off
  k_dflt (first | (refine' code_B ?O ?k1 ?k2 ?k3 ?k10 ?k4 ?kA ?kF ?kK ?k6 ?k7 ?k8 ?k9 ?kB ?kr ?_ ?c2 ?c3 ?c4 ?c5; (case kA | kF => exact rfl); (case kK => assumption); (case k1 | k2 | k3 => k_asm); (case k10 => first | k_asm | exact News.nil); (case k4 => k_asm); (case k6 | k7 => k_is); (case k8 => ((try simp only [depth_deeper, depth_in1, recursionLimit]); (try dsimp only [ktrTop, recursionLimit]); omega)); (case k9 => exact BindsTo.of_eq rfl); (case c5 => decide); (case kB => exact locs rfl); (case c2 | c3 | c4 => exact rfl); (case kr => assumption)) | fail)
  intro g L' h₁ sub F' N' B' X' T'
  clear F B X T ret N
  (first | ((try k_unmd); (try k_fold); repeat' (first | (k_unfold; (try dsimp only)) | (first | ((with_reducible show wpAny _ _ (call (Value.ref 112) _) _ _ _); k_here; k_dflt (refine draw_at (by k_asm) (by k_asm) (by k_asm) (by k_asm) (by rfl) (by (first | ((try dsimp only [ktrTop, Around.deeper, Around.in1]); omega) | fail)) (by (first | ((try dsimp only [ktrTop, Around.deeper, Around.in1]); omega) | fail)) (by k_asm) (by k_updF) (by with_reducible assumption) (by with_reducible assumption) (by omega) (by omega) ?_; k_whole); intro h' tk' vs' n' ns' x' t' F' N' hi' hl' x1'; (try k_sweep)) | fail) | ((first | (fail_if_success (with_reducible first | show wpAny _ _ (call (Value.ref _) _) _ _ _ | show wpAny _ _ (exec (Stmt.While _ _ _ _) _) _ _ _ | show wpAny _ _ (exec (Stmt.For _ _ _ _ _) _) _ _ _ | show wpAny _ _ (pyIter _) _ _ _ | show wpAny _ _ (setItem _ _ _) _ _ _ | show wpAny _ _ (eval (Expr.ListComp _ _ _ _) _) _ _ _ | show wpAny _ _ (exec (Stmt.Assign _ (Expr.ListComp _ _ _ _) _) _) _ _ _ | show InvPostG _ _ _ _ _ _ _ _ | show InvEndG _ _ _ _ _ _ | show OnG _ _ _ _ _ _ _ | show Fin _ _ _ _ _ _ | show KswEnd _ _ _ _ _ _ _ _ _ _ _ _ | show wpAny _ _ (call (Value.builtin "sorted") _) _ _ _ | show LCg.CompEnd _ _ _ _ _ _ _ _ _ _ _ _ _ _ | show LCg.CompSrc _ _ _ _ _ _ _ _ _ _ _ _ _ _ | show LCt.CompSrcT _ _ _ _ _ _ _ _ _ _ _ _ _ _ _)) | fail); first | walk1 | (dsimp only; (try k_fold); (first | (fail_if_success (with_reducible first | show wpAny _ _ (call (Value.ref _) _) _ _ _ | show wpAny _ _ (exec (Stmt.While _ _ _ _) _) _ _ _ | show wpAny _ _ (exec (Stmt.For _ _ _ _ _) _) _ _ _ | show wpAny _ _ (pyIter _) _ _ _ | show wpAny _ _ (setItem _ _ _) _ _ _ | show wpAny _ _ (eval (Expr.ListComp _ _ _ _) _) _ _ _ | show wpAny _ _ (exec (Stmt.Assign _ (Expr.ListComp _ _ _ _) _) _) _ _ _ | show InvPostG _ _ _ _ _ _ _ _ | show InvEndG _ _ _ _ _ _ | show OnG _ _ _ _ _ _ _ | show Fin _ _ _ _ _ _ | show KswEnd _ _ _ _ _ _ _ _ _ _ _ _ | show wpAny _ _ (call (Value.builtin "sorted") _) _ _ _ | show LCg.CompEnd _ _ _ _ _ _ _ _ _ _ _ _ _ _ | show LCg.CompSrc _ _ _ _ _ _ _ _ _ _ _ _ _ _ | show LCt.CompSrcT _ _ _ _ _ _ _ _ _ _ _ _ _ _ _)) | fail); walk1)) | (leave1; walk_say "STEP leave1"; try dsimp only) | fail "no step")) | fail)
  rename Fr _ _ _ _ => F3; rename News _ _ _ _ => N3
  k_dflt refine new_ok (by k_asm) (by k_asm) (by k_asm) (by k_asm) rfl (by (first | ((try dsimp only [ktrTop, Around.deeper, Around.in1]); omega) | fail)) (by (first | ((try dsimp only [ktrTop, Around.deeper, Around.in1]); omega) | fail)) N3 ?_
  intro h2 tk2 x' dx l1 l2 l3 l4 l5 l6 l7 d1 d2 o1 o2 t0 t1 t2 t3 t4 t5 t6 t7 t8 t9 t10 t11 t12 s1 s2 F4 N4 g0 g1 g2 g3 g4 g5 g6 g7 g8 g9 g10 lo1 lo2 hi1' hs2'
  dsimp only [List.map] at g0 g1 g2 g3 g4 g5 g6 g7 g8 g9 g10
  clear F3 N3 hs2' lo2
  replace N4 : News g L' h2 [(fa, listOf vs.toArray n), (l2, listOf #[] 0), (l5, listOf #[] 0), (d1, o1), (x', instObj 45 dx), (dx, dictOf _ 13)] := kst_newsOf N4 (by kst_anyIn)
  have hKd := kdMark
  (try dsimp only)
  (first | ((try k_unmd); (try k_fold); repeat' (first | (k_unfold; (try dsimp only)) | (first | ((with_reducible show wpAny _ _ (call (Value.ref 112) _) _ _ _); k_here; k_dflt (refine draw_at (by k_asm) (by k_asm) (by k_asm) (by k_asm) (by rfl) (by (first | ((try dsimp only [ktrTop, Around.deeper, Around.in1]); omega) | fail)) (by (first | ((try dsimp only [ktrTop, Around.deeper, Around.in1]); omega) | fail)) (by k_asm) (by k_updF) (by with_reducible assumption) (by with_reducible assumption) (by omega) (by omega) ?_; k_whole); intro h' tk' vs' n' ns' x' t' F' N' hi' hl' x1'; (try k_sweep)) | fail) | ((first | (fail_if_success (with_reducible first | show wpAny _ _ (call (Value.ref _) _) _ _ _ | show wpAny _ _ (exec (Stmt.While _ _ _ _) _) _ _ _ | show wpAny _ _ (exec (Stmt.For _ _ _ _ _) _) _ _ _ | show wpAny _ _ (pyIter _) _ _ _ | show wpAny _ _ (setItem _ _ _) _ _ _ | show wpAny _ _ (eval (Expr.ListComp _ _ _ _) _) _ _ _ | show wpAny _ _ (exec (Stmt.Assign _ (Expr.ListComp _ _ _ _) _) _) _ _ _ | show InvPostG _ _ _ _ _ _ _ _ | show InvEndG _ _ _ _ _ _ | show OnG _ _ _ _ _ _ _ | show Fin _ _ _ _ _ _ | show KswEnd _ _ _ _ _ _ _ _ _ _ _ _ | show wpAny _ _ (call (Value.builtin "sorted") _) _ _ _ | show LCg.CompEnd _ _ _ _ _ _ _ _ _ _ _ _ _ _ | show LCg.CompSrc _ _ _ _ _ _ _ _ _ _ _ _ _ _ | show LCt.CompSrcT _ _ _ _ _ _ _ _ _ _ _ _ _ _ _)) | fail); first | walk1 | (dsimp only; (try k_fold); (first | (fail_if_success (with_reducible first | show wpAny _ _ (call (Value.ref _) _) _ _ _ | show wpAny _ _ (exec (Stmt.While _ _ _ _) _) _ _ _ | show wpAny _ _ (exec (Stmt.For _ _ _ _ _) _) _ _ _ | show wpAny _ _ (pyIter _) _ _ _ | show wpAny _ _ (setItem _ _ _) _ _ _ | show wpAny _ _ (eval (Expr.ListComp _ _ _ _) _) _ _ _ | show wpAny _ _ (exec (Stmt.Assign _ (Expr.ListComp _ _ _ _) _) _) _ _ _ | show InvPostG _ _ _ _ _ _ _ _ | show InvEndG _ _ _ _ _ _ | show OnG _ _ _ _ _ _ _ | show Fin _ _ _ _ _ _ | show KswEnd _ _ _ _ _ _ _ _ _ _ _ _ | show wpAny _ _ (call (Value.builtin "sorted") _) _ _ _ | show LCg.CompEnd _ _ _ _ _ _ _ _ _ _ _ _ _ _ | show LCg.CompSrc _ _ _ _ _ _ _ _ _ _ _ _ _ _ | show LCt.CompSrcT _ _ _ _ _ _ _ _ _ _ _ _ _ _ _)) | fail); walk1)) | (leave1; walk_say "STEP leave1"; try dsimp only) | fail "no step")) | fail)
  rename Fr _ _ _ _ => F5; rename News _ _ _ _ => N5; rename IntsAre _ _ => hi5; rename _ < (9 : Int) => hy9; rename _ ≤ 1000 => hl5
  obtain ⟨y, hy, hy9⟩ := called hy9
  subst hy
  clear hi hl
  refine For_invV g (by rfl) (by rfl) ?_ (by intro _; with_unfolding_all rfl)
  (first | ((try k_unmd); (try k_fold); repeat' (first | (k_unfold; (try dsimp only)) | (first | ((with_reducible show wpAny _ _ (call (Value.ref 112) _) _ _ _); k_here; k_dflt (refine draw_at (by k_asm) (by k_asm) (by k_asm) (by k_asm) (by rfl) (by (first | ((try dsimp only [ktrTop, Around.deeper, Around.in1]); omega) | fail)) (by (first | ((try dsimp only [ktrTop, Around.deeper, Around.in1]); omega) | fail)) (by k_asm) (by k_updF) (by with_reducible assumption) (by with_reducible assumption) (by omega) (by omega) ?_; k_whole); intro h' tk' vs' n' ns' x' t' F' N' hi' hl' x1'; (try k_sweep)) | fail) | ((first | (fail_if_success (with_reducible first | show wpAny _ _ (call (Value.ref _) _) _ _ _ | show wpAny _ _ (exec (Stmt.While _ _ _ _) _) _ _ _ | show wpAny _ _ (exec (Stmt.For _ _ _ _ _) _) _ _ _ | show wpAny _ _ (pyIter _) _ _ _ | show wpAny _ _ (setItem _ _ _) _ _ _ | show wpAny _ _ (eval (Expr.ListComp _ _ _ _) _) _ _ _ | show wpAny _ _ (exec (Stmt.Assign _ (Expr.ListComp _ _ _ _) _) _) _ _ _ | show InvPostG _ _ _ _ _ _ _ _ | show InvEndG _ _ _ _ _ _ | show OnG _ _ _ _ _ _ _ | show Fin _ _ _ _ _ _ | show KswEnd _ _ _ _ _ _ _ _ _ _ _ _ | show wpAny _ _ (call (Value.builtin "sorted") _) _ _ _ | show LCg.CompEnd _ _ _ _ _ _ _ _ _ _ _ _ _ _ | show LCg.CompSrc _ _ _ _ _ _ _ _ _ _ _ _ _ _ | show LCt.CompSrcT _ _ _ _ _ _ _ _ _ _ _ _ _ _ _)) | fail); first | walk1 | (dsimp only; (try k_fold); (first | (fail_if_success (with_reducible first | show wpAny _ _ (call (Value.ref _) _) _ _ _ | show wpAny _ _ (exec (Stmt.While _ _ _ _) _) _ _ _ | show wpAny _ _ (exec (Stmt.For _ _ _ _ _) _) _ _ _ | show wpAny _ _ (pyIter _) _ _ _ | show wpAny _ _ (setItem _ _ _) _ _ _ | show wpAny _ _ (eval (Expr.ListComp _ _ _ _) _) _ _ _ | show wpAny _ _ (exec (Stmt.Assign _ (Expr.ListComp _ _ _ _) _) _) _ _ _ | show InvPostG _ _ _ _ _ _ _ _ | show InvEndG _ _ _ _ _ _ | show OnG _ _ _ _ _ _ _ | show Fin _ _ _ _ _ _ | show KswEnd _ _ _ _ _ _ _ _ _ _ _ _ | show wpAny _ _ (call (Value.builtin "sorted") _) _ _ _ | show LCg.CompEnd _ _ _ _ _ _ _ _ _ _ _ _ _ _ | show LCg.CompSrc _ _ _ _ _ _ _ _ _ _ _ _ _ _ | show LCt.CompSrcT _ _ _ _ _ _ _ _ _ _ _ _ _ _ _)) | fail); walk1)) | (leave1; walk_say "STEP leave1"; try dsimp only) | fail "no step")) | fail)
  rename Fr _ _ _ _ => F6; rename News _ _ _ _ => N6; rename IsRange _ _ _ _ _ _ _ _ => hir
  refine split_four' N6 (by
    simp only [List.forall_mem_cons, List.not_mem_nil, false_imp_iff, implies_true, and_true]
    repeat' (refine And.intro ?_ ?_)
    all_goals k_ne) ?_
  clear N6
  intro cst es hcst hes N6 hcoff hOL
  have hE1 : getL (Str.ofString "rows") es = some (some (.ref l2)) := by rw [hes]; rfl
  have hE2 : getL (Str.ofString "fixups") es = some (some (.ref l5)) := by rw [hes]; rfl
  have hE3 : getL (Str.ofString "maps") es = some (some (.ref d1)) := by rw [hes]; rfl

  refine loopR (fun c : OS => [(fa, listOf c.fv.toArray c.fn), (l2, listOf c.rv.toArray c.rn), (l5, listOf c.xv.toArray c.xn), (d1, c.mo)]) cst (fun _ => [])
    (fun L c => DIs (Kn g L) c.rv (rowsD c.rows) ∧ DIs (Kn g L) c.xv ((fixes c.rows).map Fix.dat) ∧ c.mo.IsDictOf (PySem.intKind PySem.Challenge.rw_nu0316_01.row.prog w) c.mv ∧ KVs (Kn g L) c.mv (mapsL (mk c.rows)))
    [Str.ofString "kind", Str.ofString "other"] (fun i c => IntsAre c.fv c.fz ∧ c.fz.length ≤ 1000 ∧ c.rows.length = i ∧ ∀ r ∈ c.rows, Valid (1 + y) r) (fa :: l2 :: l5 :: d1 :: cst.map (·.1)) ⟨_, _, _, [], [], 0, [], 0, o1, []⟩ rfl hir (n := 1 + y) (by omega) (by omega) F6 N6
    (by intro q hq; simpa using hq) (fun _ => rfl) ⟨.nil, .nil, hi1', .nil⟩ (by intro p hp; cases hp) ⟨hi5, hl5, rfl, fun _ h => nomatch h⟩ ?_ ?_
  · intro c tl i t u h tk own hlt sep off hF hP F7 N7
    clear hcst hes
    obtain ⟨fv, fn, fz, rv, rows, rn, xv, xn, mo, mv⟩ := c
    dsimp only [kstB] at F7 hP hF
    obtain ⟨hi7, hl7, hrl, hV⟩ := hP
    obtain ⟨hR, hX, hM, hK⟩ := hF
    simp only [List.nil_append, List.cons_append] at N7
    have hrv := hR.length
    rw [rowsD_len, hrl] at hrv
    have hxv := hX.length
    rw [List.length_map] at hxv
    have hfl := fixes_len rows
    have hmv := hK.length
    have hml := mk_len rows
    have hco2 : OwnOff (cst ++ (tl ++ own)) [fa, l2, l5, d1] := fun p hp b hb => (List.mem_append.mp hp).elim (fun h => hcoff p h b hb) fun h => off p h b (by
      simp only [List.mem_cons, List.not_mem_nil, or_false] at hb ⊢
      rcases hb with h | h | h | h <;> simp [h])
    clear F6 N6 hi5 hl5 hir hcoff
    have hKd := kdMark
    (first | ((try k_unmd); (try k_fold); repeat' (first | (k_unfold; (try dsimp only)) | (first | ((with_reducible show wpAny _ _ (call (Value.ref 112) _) _ _ _); k_here; k_dflt (refine draw_at (by k_asm) (by k_asm) (by k_asm) (by k_asm) (by rfl) (by (first | ((try dsimp only [ktrTop, Around.deeper, Around.in1]); omega) | fail)) (by (first | ((try dsimp only [ktrTop, Around.deeper, Around.in1]); omega) | fail)) (by k_asm) (by k_updF) (by with_reducible assumption) (by with_reducible assumption) (by omega) (by omega) ?_; k_whole); intro h' tk' vs' n' ns' x' t' F' N' hi' hl' x1'; (try k_sweep)) | fail) | ((first | (fail_if_success (with_reducible first | show wpAny _ _ (call (Value.ref _) _) _ _ _ | show wpAny _ _ (exec (Stmt.While _ _ _ _) _) _ _ _ | show wpAny _ _ (exec (Stmt.For _ _ _ _ _) _) _ _ _ | show wpAny _ _ (pyIter _) _ _ _ | show wpAny _ _ (setItem _ _ _) _ _ _ | show wpAny _ _ (eval (Expr.ListComp _ _ _ _) _) _ _ _ | show wpAny _ _ (exec (Stmt.Assign _ (Expr.ListComp _ _ _ _) _) _) _ _ _ | show InvPostG _ _ _ _ _ _ _ _ | show InvEndG _ _ _ _ _ _ | show OnG _ _ _ _ _ _ _ | show Fin _ _ _ _ _ _ | show KswEnd _ _ _ _ _ _ _ _ _ _ _ _ | show wpAny _ _ (call (Value.builtin "sorted") _) _ _ _ | show LCg.CompEnd _ _ _ _ _ _ _ _ _ _ _ _ _ _ | show LCg.CompSrc _ _ _ _ _ _ _ _ _ _ _ _ _ _ | show LCt.CompSrcT _ _ _ _ _ _ _ _ _ _ _ _ _ _ _)) | fail); (fail_if_success (with_reducible show wpAny _ _ (exec (Stmt.If _ _ _ _) _) _ _ _)); first | walk1 | (dsimp only; (try k_fold); (first | (fail_if_success (with_reducible first | show wpAny _ _ (call (Value.ref _) _) _ _ _ | show wpAny _ _ (exec (Stmt.While _ _ _ _) _) _ _ _ | show wpAny _ _ (exec (Stmt.For _ _ _ _ _) _) _ _ _ | show wpAny _ _ (pyIter _) _ _ _ | show wpAny _ _ (setItem _ _ _) _ _ _ | show wpAny _ _ (eval (Expr.ListComp _ _ _ _) _) _ _ _ | show wpAny _ _ (exec (Stmt.Assign _ (Expr.ListComp _ _ _ _) _) _) _ _ _ | show InvPostG _ _ _ _ _ _ _ _ | show InvEndG _ _ _ _ _ _ | show OnG _ _ _ _ _ _ _ | show Fin _ _ _ _ _ _ | show KswEnd _ _ _ _ _ _ _ _ _ _ _ _ | show wpAny _ _ (call (Value.builtin "sorted") _) _ _ _ | show LCg.CompEnd _ _ _ _ _ _ _ _ _ _ _ _ _ _ | show LCg.CompSrc _ _ _ _ _ _ _ _ _ _ _ _ _ _ | show LCt.CompSrcT _ _ _ _ _ _ _ _ _ _ _ _ _ _ _)) | fail); walk1)) | (leave1; walk_say "STEP leave1"; try dsimp only) | fail "no step")) | fail)
    rename (_ : Int) < 5 => h5
    replace h5 := called h5
    obtain ⟨kd, e5, h5⟩ := h5
    subst e5
    rename (_ : Int) < 1 + (y : Int) + 1 => hx2
    replace hx2 := called hx2
    obtain ⟨ot, eot, hx2⟩ := hx2
    subst eot
    rcases kd_cases h5 with hk1 | ⟨hk1, hk2⟩ | ⟨hk1, hk2, hk3⟩ | ⟨hk1, hk2, hk3, hk4⟩ | ⟨hk1, hk2, hk3, hk4⟩
    · (first | ((try k_unmd); (try k_fold); repeat' (first | (k_unfold; (try dsimp only)) | (first | ((with_reducible show wpAny _ _ (call (Value.ref 112) _) _ _ _); k_here; k_dflt (refine draw_at (by k_asm) (by k_asm) (by k_asm) (by k_asm) (by rfl) (by (first | ((try dsimp only [ktrTop, Around.deeper, Around.in1]); omega) | fail)) (by (first | ((try dsimp only [ktrTop, Around.deeper, Around.in1]); omega) | fail)) (by k_asm) (by k_updF) (by with_reducible assumption) (by with_reducible assumption) (by omega) (by omega) ?_; k_whole); intro h' tk' vs' n' ns' x' t' F' N' hi' hl' x1'; (try k_sweep)) | fail) | ((first | (fail_if_success (with_reducible first | show wpAny _ _ (call (Value.ref _) _) _ _ _ | show wpAny _ _ (exec (Stmt.While _ _ _ _) _) _ _ _ | show wpAny _ _ (exec (Stmt.For _ _ _ _ _) _) _ _ _ | show wpAny _ _ (pyIter _) _ _ _ | show wpAny _ _ (setItem _ _ _) _ _ _ | show wpAny _ _ (eval (Expr.ListComp _ _ _ _) _) _ _ _ | show wpAny _ _ (exec (Stmt.Assign _ (Expr.ListComp _ _ _ _) _) _) _ _ _ | show InvPostG _ _ _ _ _ _ _ _ | show InvEndG _ _ _ _ _ _ | show OnG _ _ _ _ _ _ _ | show Fin _ _ _ _ _ _ | show KswEnd _ _ _ _ _ _ _ _ _ _ _ _ | show wpAny _ _ (call (Value.builtin "sorted") _) _ _ _ | show LCg.CompEnd _ _ _ _ _ _ _ _ _ _ _ _ _ _ | show LCg.CompSrc _ _ _ _ _ _ _ _ _ _ _ _ _ _ | show LCt.CompSrcT _ _ _ _ _ _ _ _ _ _ _ _ _ _ _)) | fail); first | walk1 | (dsimp only; (try k_fold); (first | (fail_if_success (with_reducible first | show wpAny _ _ (call (Value.ref _) _) _ _ _ | show wpAny _ _ (exec (Stmt.While _ _ _ _) _) _ _ _ | show wpAny _ _ (exec (Stmt.For _ _ _ _ _) _) _ _ _ | show wpAny _ _ (pyIter _) _ _ _ | show wpAny _ _ (setItem _ _ _) _ _ _ | show wpAny _ _ (eval (Expr.ListComp _ _ _ _) _) _ _ _ | show wpAny _ _ (exec (Stmt.Assign _ (Expr.ListComp _ _ _ _) _) _) _ _ _ | show InvPostG _ _ _ _ _ _ _ _ | show InvEndG _ _ _ _ _ _ | show OnG _ _ _ _ _ _ _ | show Fin _ _ _ _ _ _ | show KswEnd _ _ _ _ _ _ _ _ _ _ _ _ | show wpAny _ _ (call (Value.builtin "sorted") _) _ _ _ | show LCg.CompEnd _ _ _ _ _ _ _ _ _ _ _ _ _ _ | show LCg.CompSrc _ _ _ _ _ _ _ _ _ _ _ _ _ _ | show LCt.CompSrcT _ _ _ _ _ _ _ _ _ _ _ _ _ _ _)) | fail); walk1)) | (leave1; walk_say "STEP leave1"; try dsimp only) | fail "no step")) | fail)
      rename IntsAre _ _ => hi8; rename List.length _ ≤ 1000 => hl8
      rename (_ : Int) < (2 : Int) => h2
      obtain ⟨b, hb⟩ := bit_of h2
      (first | ((try k_unmd); (try k_fold); repeat' (first | (k_unfold; (try dsimp only)) | (first | ((with_reducible show wpAny _ _ (call (Value.ref 112) _) _ _ _); k_here; k_dflt (refine draw_at (by k_asm) (by k_asm) (by k_asm) (by k_asm) (by rfl) (by (first | ((try dsimp only [ktrTop, Around.deeper, Around.in1]); omega) | fail)) (by (first | ((try dsimp only [ktrTop, Around.deeper, Around.in1]); omega) | fail)) (by k_asm) (by k_updF) (by with_reducible assumption) (by with_reducible assumption) (by omega) (by omega) ?_; k_whole); intro h' tk' vs' n' ns' x' t' F' N' hi' hl' x1'; (try k_sweep)) | fail) | ((first | (fail_if_success (with_reducible first | show wpAny _ _ (call (Value.ref _) _) _ _ _ | show wpAny _ _ (exec (Stmt.While _ _ _ _) _) _ _ _ | show wpAny _ _ (exec (Stmt.For _ _ _ _ _) _) _ _ _ | show wpAny _ _ (pyIter _) _ _ _ | show wpAny _ _ (setItem _ _ _) _ _ _ | show wpAny _ _ (eval (Expr.ListComp _ _ _ _) _) _ _ _ | show wpAny _ _ (exec (Stmt.Assign _ (Expr.ListComp _ _ _ _) _) _) _ _ _ | show InvPostG _ _ _ _ _ _ _ _ | show InvEndG _ _ _ _ _ _ | show OnG _ _ _ _ _ _ _ | show Fin _ _ _ _ _ _ | show KswEnd _ _ _ _ _ _ _ _ _ _ _ _ | show wpAny _ _ (call (Value.builtin "sorted") _) _ _ _ | show LCg.CompEnd _ _ _ _ _ _ _ _ _ _ _ _ _ _ | show LCg.CompSrc _ _ _ _ _ _ _ _ _ _ _ _ _ _ | show LCt.CompSrcT _ _ _ _ _ _ _ _ _ _ _ _ _ _ _)) | fail); first | walk1 | (dsimp only; (try k_fold); (first | (fail_if_success (with_reducible first | show wpAny _ _ (call (Value.ref _) _) _ _ _ | show wpAny _ _ (exec (Stmt.While _ _ _ _) _) _ _ _ | show wpAny _ _ (exec (Stmt.For _ _ _ _ _) _) _ _ _ | show wpAny _ _ (pyIter _) _ _ _ | show wpAny _ _ (setItem _ _ _) _ _ _ | show wpAny _ _ (eval (Expr.ListComp _ _ _ _) _) _ _ _ | show wpAny _ _ (exec (Stmt.Assign _ (Expr.ListComp _ _ _ _) _) _) _ _ _ | show InvPostG _ _ _ _ _ _ _ _ | show InvEndG _ _ _ _ _ _ | show OnG _ _ _ _ _ _ _ | show Fin _ _ _ _ _ _ | show KswEnd _ _ _ _ _ _ _ _ _ _ _ _ | show wpAny _ _ (call (Value.builtin "sorted") _) _ _ _ | show LCg.CompEnd _ _ _ _ _ _ _ _ _ _ _ _ _ _ | show LCg.CompSrc _ _ _ _ _ _ _ _ _ _ _ _ _ _ | show LCt.CompSrcT _ _ _ _ _ _ _ _ _ _ _ _ _ _ _)) | fail); walk1)) | (leave1; walk_say "STEP leave1"; try dsimp only) | fail "no step")) | fail)
      dsimp only [InvPostG]
      rename Fr _ _ _ _ => F8; rename News _ _ _ _ => N8
      replace N8 := news_erase 1 N8
      dsimp only [List.eraseIdx] at N8
      subst hrl
      refine endK0 ?_
      exact ⟨tl, (OS.mk _ _ _ (rv ++ [_]) (rows ++ [.b b _]) (rn + 1) xv xn mo mv), [_], [(fa, default), (l2, default), (l5, default), (d1, default)], _, sep, F8, N8, rfl, by (first | ((repeat (refine List.forall_mem_cons.mpr ⟨(by first | exact off1_lt (by assumption) | exact off1_lt (And.right (by assumption)) | exact off1_lt (And.right (And.right (by assumption))) | fail), ?_⟩)); exact List.forall_mem_nil _) | fail), rfl, (by intro p hp; cases hp), (by (first | (intro z h1 h2 h3; (simp only [List.contains_cons, List.contains_nil, Bool.or_eq_false_iff, beq_eq_false_iff_ne, ne_eq, List.forall_mem_cons, List.mem_cons, List.not_mem_nil, or_false, forall_eq_or_imp, forall_eq] at h1 h2 h3); (simp only [h1, h2, h3, if_false, ite_false, List.contains_cons, List.contains_nil, Bool.or_false, beq_iff_eq, Bool.or_eq_true, or_self, or_false, and_true, not_false_eq_true, Bool.false_eq_true]); done) | fail)),
        ⟨by rw [rowsD_snoc]; exact (hR.mono (Kn.sub (kd_sub (add := [_])))).snoc (.tuple (.inr (kd_new (by k_mem))) rfl rfl (.cons (.str _ _) (.cons (.str _ _) (.cons (.int _ _) (.cons (.int _ _) .nil))))),
          by rw [fixes_no fun _ => rfl]; exact hX.mono (Kn.sub (kd_sub (add := [_]))), hM, by rw [mk_no rfl]; exact hK.mono (Kn.sub (kd_sub (add := [_])))⟩,
        ⟨hi8, hl8, by simp, val_snoc hV (by show _ ≤ _; omega)⟩⟩
    · (first | ((try k_unmd); (try k_fold); repeat' (first | (k_unfold; (try dsimp only)) | (first | ((with_reducible show wpAny _ _ (call (Value.ref 112) _) _ _ _); k_here; k_dflt (refine draw_at (by k_asm) (by k_asm) (by k_asm) (by k_asm) (by rfl) (by (first | ((try dsimp only [ktrTop, Around.deeper, Around.in1]); omega) | fail)) (by (first | ((try dsimp only [ktrTop, Around.deeper, Around.in1]); omega) | fail)) (by k_asm) (by k_updF) (by with_reducible assumption) (by with_reducible assumption) (by omega) (by omega) ?_; k_whole); intro h' tk' vs' n' ns' x' t' F' N' hi' hl' x1'; (try k_sweep)) | fail) | ((first | (fail_if_success (with_reducible first | show wpAny _ _ (call (Value.ref _) _) _ _ _ | show wpAny _ _ (exec (Stmt.While _ _ _ _) _) _ _ _ | show wpAny _ _ (exec (Stmt.For _ _ _ _ _) _) _ _ _ | show wpAny _ _ (pyIter _) _ _ _ | show wpAny _ _ (setItem _ _ _) _ _ _ | show wpAny _ _ (eval (Expr.ListComp _ _ _ _) _) _ _ _ | show wpAny _ _ (exec (Stmt.Assign _ (Expr.ListComp _ _ _ _) _) _) _ _ _ | show InvPostG _ _ _ _ _ _ _ _ | show InvEndG _ _ _ _ _ _ | show OnG _ _ _ _ _ _ _ | show Fin _ _ _ _ _ _ | show KswEnd _ _ _ _ _ _ _ _ _ _ _ _ | show wpAny _ _ (call (Value.builtin "sorted") _) _ _ _ | show LCg.CompEnd _ _ _ _ _ _ _ _ _ _ _ _ _ _ | show LCg.CompSrc _ _ _ _ _ _ _ _ _ _ _ _ _ _ | show LCt.CompSrcT _ _ _ _ _ _ _ _ _ _ _ _ _ _ _)) | fail); first | walk1 | (dsimp only; (try k_fold); (first | (fail_if_success (with_reducible first | show wpAny _ _ (call (Value.ref _) _) _ _ _ | show wpAny _ _ (exec (Stmt.While _ _ _ _) _) _ _ _ | show wpAny _ _ (exec (Stmt.For _ _ _ _ _) _) _ _ _ | show wpAny _ _ (pyIter _) _ _ _ | show wpAny _ _ (setItem _ _ _) _ _ _ | show wpAny _ _ (eval (Expr.ListComp _ _ _ _) _) _ _ _ | show wpAny _ _ (exec (Stmt.Assign _ (Expr.ListComp _ _ _ _) _) _) _ _ _ | show InvPostG _ _ _ _ _ _ _ _ | show InvEndG _ _ _ _ _ _ | show OnG _ _ _ _ _ _ _ | show Fin _ _ _ _ _ _ | show KswEnd _ _ _ _ _ _ _ _ _ _ _ _ | show wpAny _ _ (call (Value.builtin "sorted") _) _ _ _ | show LCg.CompEnd _ _ _ _ _ _ _ _ _ _ _ _ _ _ | show LCg.CompSrc _ _ _ _ _ _ _ _ _ _ _ _ _ _ | show LCt.CompSrcT _ _ _ _ _ _ _ _ _ _ _ _ _ _ _)) | fail); walk1)) | (leave1; walk_say "STEP leave1"; try dsimp only) | fail "no step")) | fail)
      rename IntsAre _ _ => hi8; rename List.length _ ≤ 1000 => hl8
      rename Fr _ _ _ _ => F8; rename News _ _ _ _ => N8
      refine kda_set (knd := PySem.intKind _ _) F8 N8 (by k_updF) hM (intKind_is _ _ _ _) (by rw [sizeLine_eq]; simp only [mapsL, List.length_map] at hmv; omega) ?_
      intro h4 o4 F9 N9 hd4
      subst hrl
      rw [stored_new (mk_fresh hK)] at hd4
      (first | ((try k_unmd); (try k_fold); repeat' (first | (k_unfold; (try dsimp only)) | (first | ((with_reducible show wpAny _ _ (call (Value.ref 112) _) _ _ _); k_here; k_dflt (refine draw_at (by k_asm) (by k_asm) (by k_asm) (by k_asm) (by rfl) (by (first | ((try dsimp only [ktrTop, Around.deeper, Around.in1]); omega) | fail)) (by (first | ((try dsimp only [ktrTop, Around.deeper, Around.in1]); omega) | fail)) (by k_asm) (by k_updF) (by with_reducible assumption) (by with_reducible assumption) (by omega) (by omega) ?_; k_whole); intro h' tk' vs' n' ns' x' t' F' N' hi' hl' x1'; (try k_sweep)) | fail) | ((first | (fail_if_success (with_reducible first | show wpAny _ _ (call (Value.ref _) _) _ _ _ | show wpAny _ _ (exec (Stmt.While _ _ _ _) _) _ _ _ | show wpAny _ _ (exec (Stmt.For _ _ _ _ _) _) _ _ _ | show wpAny _ _ (pyIter _) _ _ _ | show wpAny _ _ (setItem _ _ _) _ _ _ | show wpAny _ _ (eval (Expr.ListComp _ _ _ _) _) _ _ _ | show wpAny _ _ (exec (Stmt.Assign _ (Expr.ListComp _ _ _ _) _) _) _ _ _ | show InvPostG _ _ _ _ _ _ _ _ | show InvEndG _ _ _ _ _ _ | show OnG _ _ _ _ _ _ _ | show Fin _ _ _ _ _ _ | show KswEnd _ _ _ _ _ _ _ _ _ _ _ _ | show wpAny _ _ (call (Value.builtin "sorted") _) _ _ _ | show LCg.CompEnd _ _ _ _ _ _ _ _ _ _ _ _ _ _ | show LCg.CompSrc _ _ _ _ _ _ _ _ _ _ _ _ _ _ | show LCt.CompSrcT _ _ _ _ _ _ _ _ _ _ _ _ _ _ _)) | fail); first | walk1 | (dsimp only; (try k_fold); (first | (fail_if_success (with_reducible first | show wpAny _ _ (call (Value.ref _) _) _ _ _ | show wpAny _ _ (exec (Stmt.While _ _ _ _) _) _ _ _ | show wpAny _ _ (exec (Stmt.For _ _ _ _ _) _) _ _ _ | show wpAny _ _ (pyIter _) _ _ _ | show wpAny _ _ (setItem _ _ _) _ _ _ | show wpAny _ _ (eval (Expr.ListComp _ _ _ _) _) _ _ _ | show wpAny _ _ (exec (Stmt.Assign _ (Expr.ListComp _ _ _ _) _) _) _ _ _ | show InvPostG _ _ _ _ _ _ _ _ | show InvEndG _ _ _ _ _ _ | show OnG _ _ _ _ _ _ _ | show Fin _ _ _ _ _ _ | show KswEnd _ _ _ _ _ _ _ _ _ _ _ _ | show wpAny _ _ (call (Value.builtin "sorted") _) _ _ _ | show LCg.CompEnd _ _ _ _ _ _ _ _ _ _ _ _ _ _ | show LCg.CompSrc _ _ _ _ _ _ _ _ _ _ _ _ _ _ | show LCt.CompSrcT _ _ _ _ _ _ _ _ _ _ _ _ _ _ _)) | fail); walk1)) | (leave1; walk_say "STEP leave1"; try dsimp only) | fail "no step")) | fail)
      dsimp only [InvPostG]
      refine endK0 ?_
      exact ⟨tl, (OS.mk _ _ _ (rv ++ [_]) (rows ++ [.bl _]) (rn + 1) xv xn o4 (mv ++ [(_, Value.ref _)])), [_, _], [(fa, default), (l2, default), (l5, default), (d1, default)], _, sep, F9, N9, rfl, by (first | ((repeat (refine List.forall_mem_cons.mpr ⟨(by first | exact off1_lt (by assumption) | exact off1_lt (And.right (by assumption)) | exact off1_lt (And.right (And.right (by assumption))) | fail), ?_⟩)); exact List.forall_mem_nil _) | fail), rfl, (by intro p hp; cases hp), (by (first | (intro z h1 h2 h3; (simp only [List.contains_cons, List.contains_nil, Bool.or_eq_false_iff, beq_eq_false_iff_ne, ne_eq, List.forall_mem_cons, List.mem_cons, List.not_mem_nil, or_false, forall_eq_or_imp, forall_eq] at h1 h2 h3); (simp only [h1, h2, h3, if_false, ite_false, List.contains_cons, List.contains_nil, Bool.or_false, beq_iff_eq, Bool.or_eq_true, or_self, or_false, and_true, not_false_eq_true, Bool.false_eq_true]); done) | fail)),
        ⟨by rw [rowsD_snoc]; exact (hR.mono (Kn.sub (kd_sub (add := [_, _])))).snoc (.tuple (.inr (kd_new (by k_mem))) rfl rfl (.cons (.str _ _) (.cons (.str _ _) (.cons (.int _ _) (.cons (.int _ _) .nil))))),
          by rw [fixes_no fun _ => rfl]; exact hX.mono (Kn.sub (kd_sub (add := [_, _]))), hd4, by rw [mk_snoc, mapsL_append]; exact (hK.mono (Kn.sub (kd_sub (add := [_, _])))).append (.cons (.list (.inr (kd_new (by k_mem))) rfl rfl (.cons (.int _ _) (.cons (.int _ _) .nil))) .nil)⟩,
        ⟨hi8, hl8, by simp, val_snoc hV (by show _ ≤ _; omega)⟩⟩
    · (first | ((try k_unmd); (try k_fold); repeat' (first | (k_unfold; (try dsimp only)) | (first | ((with_reducible show wpAny _ _ (call (Value.ref 112) _) _ _ _); k_here; k_dflt (refine draw_at (by k_asm) (by k_asm) (by k_asm) (by k_asm) (by rfl) (by (first | ((try dsimp only [ktrTop, Around.deeper, Around.in1]); omega) | fail)) (by (first | ((try dsimp only [ktrTop, Around.deeper, Around.in1]); omega) | fail)) (by k_asm) (by k_updF) (by with_reducible assumption) (by with_reducible assumption) (by omega) (by omega) ?_; k_whole); intro h' tk' vs' n' ns' x' t' F' N' hi' hl' x1'; (try k_sweep)) | fail) | ((first | (fail_if_success (with_reducible first | show wpAny _ _ (call (Value.ref _) _) _ _ _ | show wpAny _ _ (exec (Stmt.While _ _ _ _) _) _ _ _ | show wpAny _ _ (exec (Stmt.For _ _ _ _ _) _) _ _ _ | show wpAny _ _ (pyIter _) _ _ _ | show wpAny _ _ (setItem _ _ _) _ _ _ | show wpAny _ _ (eval (Expr.ListComp _ _ _ _) _) _ _ _ | show wpAny _ _ (exec (Stmt.Assign _ (Expr.ListComp _ _ _ _) _) _) _ _ _ | show InvPostG _ _ _ _ _ _ _ _ | show InvEndG _ _ _ _ _ _ | show OnG _ _ _ _ _ _ _ | show Fin _ _ _ _ _ _ | show KswEnd _ _ _ _ _ _ _ _ _ _ _ _ | show wpAny _ _ (call (Value.builtin "sorted") _) _ _ _ | show LCg.CompEnd _ _ _ _ _ _ _ _ _ _ _ _ _ _ | show LCg.CompSrc _ _ _ _ _ _ _ _ _ _ _ _ _ _ | show LCt.CompSrcT _ _ _ _ _ _ _ _ _ _ _ _ _ _ _)) | fail); first | walk1 | (dsimp only; (try k_fold); (first | (fail_if_success (with_reducible first | show wpAny _ _ (call (Value.ref _) _) _ _ _ | show wpAny _ _ (exec (Stmt.While _ _ _ _) _) _ _ _ | show wpAny _ _ (exec (Stmt.For _ _ _ _ _) _) _ _ _ | show wpAny _ _ (pyIter _) _ _ _ | show wpAny _ _ (setItem _ _ _) _ _ _ | show wpAny _ _ (eval (Expr.ListComp _ _ _ _) _) _ _ _ | show wpAny _ _ (exec (Stmt.Assign _ (Expr.ListComp _ _ _ _) _) _) _ _ _ | show InvPostG _ _ _ _ _ _ _ _ | show InvEndG _ _ _ _ _ _ | show OnG _ _ _ _ _ _ _ | show Fin _ _ _ _ _ _ | show KswEnd _ _ _ _ _ _ _ _ _ _ _ _ | show wpAny _ _ (call (Value.builtin "sorted") _) _ _ _ | show LCg.CompEnd _ _ _ _ _ _ _ _ _ _ _ _ _ _ | show LCg.CompSrc _ _ _ _ _ _ _ _ _ _ _ _ _ _ | show LCt.CompSrcT _ _ _ _ _ _ _ _ _ _ _ _ _ _ _)) | fail); walk1)) | (leave1; walk_say "STEP leave1"; try dsimp only) | fail "no step")) | fail)
      rename IntsAre _ _ => hi8; rename List.length _ ≤ 1000 => hl8
      rename Fr _ _ _ _ => F8; rename News _ _ _ _ => N8
      refine kda_set (knd := PySem.intKind _ _) F8 N8 (by k_updF) hM (intKind_is _ _ _ _) (by rw [sizeLine_eq]; simp only [mapsL, List.length_map] at hmv; omega) ?_
      intro h4 o4 F9 N9 hd4
      subst hrl
      rw [stored_new (mk_fresh hK)] at hd4
      (first | ((try k_unmd); (try k_fold); repeat' (first | (k_unfold; (try dsimp only)) | (first | ((with_reducible show wpAny _ _ (call (Value.ref 112) _) _ _ _); k_here; k_dflt (refine draw_at (by k_asm) (by k_asm) (by k_asm) (by k_asm) (by rfl) (by (first | ((try dsimp only [ktrTop, Around.deeper, Around.in1]); omega) | fail)) (by (first | ((try dsimp only [ktrTop, Around.deeper, Around.in1]); omega) | fail)) (by k_asm) (by k_updF) (by with_reducible assumption) (by with_reducible assumption) (by omega) (by omega) ?_; k_whole); intro h' tk' vs' n' ns' x' t' F' N' hi' hl' x1'; (try k_sweep)) | fail) | ((first | (fail_if_success (with_reducible first | show wpAny _ _ (call (Value.ref _) _) _ _ _ | show wpAny _ _ (exec (Stmt.While _ _ _ _) _) _ _ _ | show wpAny _ _ (exec (Stmt.For _ _ _ _ _) _) _ _ _ | show wpAny _ _ (pyIter _) _ _ _ | show wpAny _ _ (setItem _ _ _) _ _ _ | show wpAny _ _ (eval (Expr.ListComp _ _ _ _) _) _ _ _ | show wpAny _ _ (exec (Stmt.Assign _ (Expr.ListComp _ _ _ _) _) _) _ _ _ | show InvPostG _ _ _ _ _ _ _ _ | show InvEndG _ _ _ _ _ _ | show OnG _ _ _ _ _ _ _ | show Fin _ _ _ _ _ _ | show KswEnd _ _ _ _ _ _ _ _ _ _ _ _ | show wpAny _ _ (call (Value.builtin "sorted") _) _ _ _ | show LCg.CompEnd _ _ _ _ _ _ _ _ _ _ _ _ _ _ | show LCg.CompSrc _ _ _ _ _ _ _ _ _ _ _ _ _ _ | show LCt.CompSrcT _ _ _ _ _ _ _ _ _ _ _ _ _ _ _)) | fail); first | walk1 | (dsimp only; (try k_fold); (first | (fail_if_success (with_reducible first | show wpAny _ _ (call (Value.ref _) _) _ _ _ | show wpAny _ _ (exec (Stmt.While _ _ _ _) _) _ _ _ | show wpAny _ _ (exec (Stmt.For _ _ _ _ _) _) _ _ _ | show wpAny _ _ (pyIter _) _ _ _ | show wpAny _ _ (setItem _ _ _) _ _ _ | show wpAny _ _ (eval (Expr.ListComp _ _ _ _) _) _ _ _ | show wpAny _ _ (exec (Stmt.Assign _ (Expr.ListComp _ _ _ _) _) _) _ _ _ | show InvPostG _ _ _ _ _ _ _ _ | show InvEndG _ _ _ _ _ _ | show OnG _ _ _ _ _ _ _ | show Fin _ _ _ _ _ _ | show KswEnd _ _ _ _ _ _ _ _ _ _ _ _ | show wpAny _ _ (call (Value.builtin "sorted") _) _ _ _ | show LCg.CompEnd _ _ _ _ _ _ _ _ _ _ _ _ _ _ | show LCg.CompSrc _ _ _ _ _ _ _ _ _ _ _ _ _ _ | show LCt.CompSrcT _ _ _ _ _ _ _ _ _ _ _ _ _ _ _)) | fail); walk1)) | (leave1; walk_say "STEP leave1"; try dsimp only) | fail "no step")) | fail)
      dsimp only [InvPostG]
      refine endK0 ?_
      exact ⟨tl, (OS.mk _ _ _ (rv ++ [_]) (rows ++ [.imp]) (rn + 1) (xv ++ [_]) (xn + 1) o4 (mv ++ [(_, Value.ref _)])), [_, _, _], [(fa, default), (l2, default), (l5, default), (d1, default)], _, sep, F9, N9, rfl, by (first | ((repeat (refine List.forall_mem_cons.mpr ⟨(by first | exact off1_lt (by assumption) | exact off1_lt (And.right (by assumption)) | exact off1_lt (And.right (And.right (by assumption))) | fail), ?_⟩)); exact List.forall_mem_nil _) | fail), rfl, (by intro p hp; cases hp), (by (first | (intro z h1 h2 h3; (simp only [List.contains_cons, List.contains_nil, Bool.or_eq_false_iff, beq_eq_false_iff_ne, ne_eq, List.forall_mem_cons, List.mem_cons, List.not_mem_nil, or_false, forall_eq_or_imp, forall_eq] at h1 h2 h3); (simp only [h1, h2, h3, if_false, ite_false, List.contains_cons, List.contains_nil, Bool.or_false, beq_iff_eq, Bool.or_eq_true, or_self, or_false, and_true, not_false_eq_true, Bool.false_eq_true]); done) | fail)),
        ⟨by rw [rowsD_snoc]; exact (hR.mono (Kn.sub (kd_sub (add := [_, _, _])))).snoc (.tuple (.inr (kd_new (by k_mem))) rfl rfl (.cons (.str _ _) (.cons (.str _ _) (.cons (.int _ _) (.cons (.int _ _) .nil))))),
          by rw [fixes_snoc, List.map_append]; exact (hX.mono (Kn.sub (kd_sub (add := [_, _, _])))).snoc (.tuple (.inr (kd_new (by k_mem))) rfl rfl (.cons (.int _ _) (.cons (.str _ _) (.cons (.int _ _) (.cons (.int _ _) .nil))))), hd4, by rw [mk_snoc, mapsL_append]; exact (hK.mono (Kn.sub (kd_sub (add := [_, _, _])))).append (.cons (.list (.inr (kd_new (by k_mem))) rfl rfl (.cons (.int _ _) (.cons (.int _ _) .nil))) .nil)⟩,
        ⟨hi8, hl8, by simp, val_snoc hV (by show True; trivial)⟩⟩
    · (first | ((try k_unmd); (try k_fold); repeat' (first | (k_unfold; (try dsimp only)) | (first | ((with_reducible show wpAny _ _ (call (Value.ref 112) _) _ _ _); k_here; k_dflt (refine draw_at (by k_asm) (by k_asm) (by k_asm) (by k_asm) (by rfl) (by (first | ((try dsimp only [ktrTop, Around.deeper, Around.in1]); omega) | fail)) (by (first | ((try dsimp only [ktrTop, Around.deeper, Around.in1]); omega) | fail)) (by k_asm) (by k_updF) (by with_reducible assumption) (by with_reducible assumption) (by omega) (by omega) ?_; k_whole); intro h' tk' vs' n' ns' x' t' F' N' hi' hl' x1'; (try k_sweep)) | fail) | ((first | (fail_if_success (with_reducible first | show wpAny _ _ (call (Value.ref _) _) _ _ _ | show wpAny _ _ (exec (Stmt.While _ _ _ _) _) _ _ _ | show wpAny _ _ (exec (Stmt.For _ _ _ _ _) _) _ _ _ | show wpAny _ _ (pyIter _) _ _ _ | show wpAny _ _ (setItem _ _ _) _ _ _ | show wpAny _ _ (eval (Expr.ListComp _ _ _ _) _) _ _ _ | show wpAny _ _ (exec (Stmt.Assign _ (Expr.ListComp _ _ _ _) _) _) _ _ _ | show InvPostG _ _ _ _ _ _ _ _ | show InvEndG _ _ _ _ _ _ | show OnG _ _ _ _ _ _ _ | show Fin _ _ _ _ _ _ | show KswEnd _ _ _ _ _ _ _ _ _ _ _ _ | show wpAny _ _ (call (Value.builtin "sorted") _) _ _ _ | show LCg.CompEnd _ _ _ _ _ _ _ _ _ _ _ _ _ _ | show LCg.CompSrc _ _ _ _ _ _ _ _ _ _ _ _ _ _ | show LCt.CompSrcT _ _ _ _ _ _ _ _ _ _ _ _ _ _ _)) | fail); first | walk1 | (dsimp only; (try k_fold); (first | (fail_if_success (with_reducible first | show wpAny _ _ (call (Value.ref _) _) _ _ _ | show wpAny _ _ (exec (Stmt.While _ _ _ _) _) _ _ _ | show wpAny _ _ (exec (Stmt.For _ _ _ _ _) _) _ _ _ | show wpAny _ _ (pyIter _) _ _ _ | show wpAny _ _ (setItem _ _ _) _ _ _ | show wpAny _ _ (eval (Expr.ListComp _ _ _ _) _) _ _ _ | show wpAny _ _ (exec (Stmt.Assign _ (Expr.ListComp _ _ _ _) _) _) _ _ _ | show InvPostG _ _ _ _ _ _ _ _ | show InvEndG _ _ _ _ _ _ | show OnG _ _ _ _ _ _ _ | show Fin _ _ _ _ _ _ | show KswEnd _ _ _ _ _ _ _ _ _ _ _ _ | show wpAny _ _ (call (Value.builtin "sorted") _) _ _ _ | show LCg.CompEnd _ _ _ _ _ _ _ _ _ _ _ _ _ _ | show LCg.CompSrc _ _ _ _ _ _ _ _ _ _ _ _ _ _ | show LCt.CompSrcT _ _ _ _ _ _ _ _ _ _ _ _ _ _ _)) | fail); walk1)) | (leave1; walk_say "STEP leave1"; try dsimp only) | fail "no step")) | fail)
      rename IntsAre _ _ => hi8; rename List.length _ ≤ 1000 => hl8
      subst hrl
      dsimp only [InvPostG]
      rename Fr _ _ _ _ => F8; rename News _ _ _ _ => N8
      refine endK0 ?_
      exact ⟨tl, (OS.mk _ _ _ (rv ++ [_]) (rows ++ [.addr _]) (rn + 1) (xv ++ [_]) (xn + 1) mo mv), [_, _], [(fa, default), (l2, default), (l5, default), (d1, default)], _, sep, F8, N8, rfl, by (first | ((repeat (refine List.forall_mem_cons.mpr ⟨(by first | exact off1_lt (by assumption) | exact off1_lt (And.right (by assumption)) | exact off1_lt (And.right (And.right (by assumption))) | fail), ?_⟩)); exact List.forall_mem_nil _) | fail), rfl, (by intro p hp; cases hp), (by (first | (intro z h1 h2 h3; (simp only [List.contains_cons, List.contains_nil, Bool.or_eq_false_iff, beq_eq_false_iff_ne, ne_eq, List.forall_mem_cons, List.mem_cons, List.not_mem_nil, or_false, forall_eq_or_imp, forall_eq] at h1 h2 h3); (simp only [h1, h2, h3, if_false, ite_false, List.contains_cons, List.contains_nil, Bool.or_false, beq_iff_eq, Bool.or_eq_true, or_self, or_false, and_true, not_false_eq_true, Bool.false_eq_true]); done) | fail)),
        ⟨by rw [rowsD_snoc]; exact (hR.mono (Kn.sub (kd_sub (add := [_, _])))).snoc (.tuple (.inr (kd_new (by k_mem))) rfl rfl (.cons (.str _ _) (.cons (.int _ _) (.cons (.int _ _) (.cons (.int' (fmod_cast _ _)) .nil))))),
          by rw [fixes_snoc, List.map_append]; exact (hX.mono (Kn.sub (kd_sub (add := [_, _])))).snoc (.tuple (.inr (kd_new (by k_mem))) rfl rfl (.cons (.int _ _) (.cons (.str _ _) (.cons (.int _ _) (.cons (.int _ _) .nil))))), hM, by rw [mk_no rfl]; exact hK.mono (Kn.sub (kd_sub (add := [_, _])))⟩,
        ⟨hi8, hl8, by simp, val_snoc hV (Nat.mod_lt _ (by omega))⟩⟩
    · by_cases hot : (ot : Int) = 1
      · (first | ((try k_unmd); (try k_fold); repeat' (first | (k_unfold; (try dsimp only)) | (first | ((with_reducible show wpAny _ _ (call (Value.ref 112) _) _ _ _); k_here; k_dflt (refine draw_at (by k_asm) (by k_asm) (by k_asm) (by k_asm) (by rfl) (by (first | ((try dsimp only [ktrTop, Around.deeper, Around.in1]); omega) | fail)) (by (first | ((try dsimp only [ktrTop, Around.deeper, Around.in1]); omega) | fail)) (by k_asm) (by k_updF) (by with_reducible assumption) (by with_reducible assumption) (by omega) (by omega) ?_; k_whole); intro h' tk' vs' n' ns' x' t' F' N' hi' hl' x1'; (try k_sweep)) | fail) | ((first | (fail_if_success (with_reducible first | show wpAny _ _ (call (Value.ref _) _) _ _ _ | show wpAny _ _ (exec (Stmt.While _ _ _ _) _) _ _ _ | show wpAny _ _ (exec (Stmt.For _ _ _ _ _) _) _ _ _ | show wpAny _ _ (pyIter _) _ _ _ | show wpAny _ _ (setItem _ _ _) _ _ _ | show wpAny _ _ (eval (Expr.ListComp _ _ _ _) _) _ _ _ | show wpAny _ _ (exec (Stmt.Assign _ (Expr.ListComp _ _ _ _) _) _) _ _ _ | show InvPostG _ _ _ _ _ _ _ _ | show InvEndG _ _ _ _ _ _ | show OnG _ _ _ _ _ _ _ | show Fin _ _ _ _ _ _ | show KswEnd _ _ _ _ _ _ _ _ _ _ _ _ | show wpAny _ _ (call (Value.builtin "sorted") _) _ _ _ | show LCg.CompEnd _ _ _ _ _ _ _ _ _ _ _ _ _ _ | show LCg.CompSrc _ _ _ _ _ _ _ _ _ _ _ _ _ _ | show LCt.CompSrcT _ _ _ _ _ _ _ _ _ _ _ _ _ _ _)) | fail); first | walk1 | (dsimp only; (try k_fold); (first | (fail_if_success (with_reducible first | show wpAny _ _ (call (Value.ref _) _) _ _ _ | show wpAny _ _ (exec (Stmt.While _ _ _ _) _) _ _ _ | show wpAny _ _ (exec (Stmt.For _ _ _ _ _) _) _ _ _ | show wpAny _ _ (pyIter _) _ _ _ | show wpAny _ _ (setItem _ _ _) _ _ _ | show wpAny _ _ (eval (Expr.ListComp _ _ _ _) _) _ _ _ | show wpAny _ _ (exec (Stmt.Assign _ (Expr.ListComp _ _ _ _) _) _) _ _ _ | show InvPostG _ _ _ _ _ _ _ _ | show InvEndG _ _ _ _ _ _ | show OnG _ _ _ _ _ _ _ | show Fin _ _ _ _ _ _ | show KswEnd _ _ _ _ _ _ _ _ _ _ _ _ | show wpAny _ _ (call (Value.builtin "sorted") _) _ _ _ | show LCg.CompEnd _ _ _ _ _ _ _ _ _ _ _ _ _ _ | show LCg.CompSrc _ _ _ _ _ _ _ _ _ _ _ _ _ _ | show LCt.CompSrcT _ _ _ _ _ _ _ _ _ _ _ _ _ _ _)) | fail); walk1)) | (leave1; walk_say "STEP leave1"; try dsimp only) | fail "no step")) | fail)
        rename IntsAre _ _ => hi8; rename List.length _ ≤ 1000 => hl8
        subst hrl
        dsimp only [InvPostG]
        rename Fr _ _ _ _ => F8; rename News _ _ _ _ => N8
        refine endK0 ?_
        exact ⟨tl, (OS.mk _ _ _ (rv ++ [_]) (rows ++ [.plain true]) (rn + 1) (xv ++ [_]) (xn + 1) mo mv), [_, _], [(fa, default), (l2, default), (l5, default), (d1, default)], _, sep, F8, N8, rfl, by (first | ((repeat (refine List.forall_mem_cons.mpr ⟨(by first | exact off1_lt (by assumption) | exact off1_lt (And.right (by assumption)) | exact off1_lt (And.right (And.right (by assumption))) | fail), ?_⟩)); exact List.forall_mem_nil _) | fail), rfl, (by intro p hp; cases hp), (by (first | (intro z h1 h2 h3; (simp only [List.contains_cons, List.contains_nil, Bool.or_eq_false_iff, beq_eq_false_iff_ne, ne_eq, List.forall_mem_cons, List.mem_cons, List.not_mem_nil, or_false, forall_eq_or_imp, forall_eq] at h1 h2 h3); (simp only [h1, h2, h3, if_false, ite_false, List.contains_cons, List.contains_nil, Bool.or_false, beq_iff_eq, Bool.or_eq_true, or_self, or_false, and_true, not_false_eq_true, Bool.false_eq_true]); done) | fail)),
          ⟨by rw [rowsD_snoc]; exact (hR.mono (Kn.sub (kd_sub (add := [_, _])))).snoc (.tuple (.inr (kd_new (by k_mem))) rfl rfl (.cons (.str _ _) (.cons (.int _ _) (.cons (.int _ _) (.cons (.int _ _) .nil))))),
            by rw [fixes_snoc, List.map_append]; exact (hX.mono (Kn.sub (kd_sub (add := [_, _])))).snoc (.tuple (.inr (kd_new (by k_mem))) rfl rfl (.cons (.int _ _) (.cons (.str _ _) (.cons (.int _ _) (.cons (.int _ _) .nil))))), hM, by rw [mk_no rfl]; exact hK.mono (Kn.sub (kd_sub (add := [_, _])))⟩,
          ⟨hi8, hl8, by simp, val_snoc hV (by show True; trivial)⟩⟩
      · (first | ((try k_unmd); (try k_fold); repeat' (first | (k_unfold; (try dsimp only)) | (first | ((with_reducible show wpAny _ _ (call (Value.ref 112) _) _ _ _); k_here; k_dflt (refine draw_at (by k_asm) (by k_asm) (by k_asm) (by k_asm) (by rfl) (by (first | ((try dsimp only [ktrTop, Around.deeper, Around.in1]); omega) | fail)) (by (first | ((try dsimp only [ktrTop, Around.deeper, Around.in1]); omega) | fail)) (by k_asm) (by k_updF) (by with_reducible assumption) (by with_reducible assumption) (by omega) (by omega) ?_; k_whole); intro h' tk' vs' n' ns' x' t' F' N' hi' hl' x1'; (try k_sweep)) | fail) | ((first | (fail_if_success (with_reducible first | show wpAny _ _ (call (Value.ref _) _) _ _ _ | show wpAny _ _ (exec (Stmt.While _ _ _ _) _) _ _ _ | show wpAny _ _ (exec (Stmt.For _ _ _ _ _) _) _ _ _ | show wpAny _ _ (pyIter _) _ _ _ | show wpAny _ _ (setItem _ _ _) _ _ _ | show wpAny _ _ (eval (Expr.ListComp _ _ _ _) _) _ _ _ | show wpAny _ _ (exec (Stmt.Assign _ (Expr.ListComp _ _ _ _) _) _) _ _ _ | show InvPostG _ _ _ _ _ _ _ _ | show InvEndG _ _ _ _ _ _ | show OnG _ _ _ _ _ _ _ | show Fin _ _ _ _ _ _ | show KswEnd _ _ _ _ _ _ _ _ _ _ _ _ | show wpAny _ _ (call (Value.builtin "sorted") _) _ _ _ | show LCg.CompEnd _ _ _ _ _ _ _ _ _ _ _ _ _ _ | show LCg.CompSrc _ _ _ _ _ _ _ _ _ _ _ _ _ _ | show LCt.CompSrcT _ _ _ _ _ _ _ _ _ _ _ _ _ _ _)) | fail); first | walk1 | (dsimp only; (try k_fold); (first | (fail_if_success (with_reducible first | show wpAny _ _ (call (Value.ref _) _) _ _ _ | show wpAny _ _ (exec (Stmt.While _ _ _ _) _) _ _ _ | show wpAny _ _ (exec (Stmt.For _ _ _ _ _) _) _ _ _ | show wpAny _ _ (pyIter _) _ _ _ | show wpAny _ _ (setItem _ _ _) _ _ _ | show wpAny _ _ (eval (Expr.ListComp _ _ _ _) _) _ _ _ | show wpAny _ _ (exec (Stmt.Assign _ (Expr.ListComp _ _ _ _) _) _) _ _ _ | show InvPostG _ _ _ _ _ _ _ _ | show InvEndG _ _ _ _ _ _ | show OnG _ _ _ _ _ _ _ | show Fin _ _ _ _ _ _ | show KswEnd _ _ _ _ _ _ _ _ _ _ _ _ | show wpAny _ _ (call (Value.builtin "sorted") _) _ _ _ | show LCg.CompEnd _ _ _ _ _ _ _ _ _ _ _ _ _ _ | show LCg.CompSrc _ _ _ _ _ _ _ _ _ _ _ _ _ _ | show LCt.CompSrcT _ _ _ _ _ _ _ _ _ _ _ _ _ _ _)) | fail); walk1)) | (leave1; walk_say "STEP leave1"; try dsimp only) | fail "no step")) | fail)
        rename IntsAre _ _ => hi8; rename List.length _ ≤ 1000 => hl8
        subst hrl
        dsimp only [InvPostG]
        rename Fr _ _ _ _ => F8; rename News _ _ _ _ => N8
        refine endK0 ?_
        exact ⟨tl, (OS.mk _ _ _ (rv ++ [_]) (rows ++ [.plain false]) (rn + 1) xv xn mo mv), [_], [(fa, default), (l2, default), (l5, default), (d1, default)], _, sep, F8, N8, rfl, by (first | ((repeat (refine List.forall_mem_cons.mpr ⟨(by first | exact off1_lt (by assumption) | exact off1_lt (And.right (by assumption)) | exact off1_lt (And.right (And.right (by assumption))) | fail), ?_⟩)); exact List.forall_mem_nil _) | fail), rfl, (by intro p hp; cases hp), (by (first | (intro z h1 h2 h3; (simp only [List.contains_cons, List.contains_nil, Bool.or_eq_false_iff, beq_eq_false_iff_ne, ne_eq, List.forall_mem_cons, List.mem_cons, List.not_mem_nil, or_false, forall_eq_or_imp, forall_eq] at h1 h2 h3); (simp only [h1, h2, h3, if_false, ite_false, List.contains_cons, List.contains_nil, Bool.or_false, beq_iff_eq, Bool.or_eq_true, or_self, or_false, and_true, not_false_eq_true, Bool.false_eq_true]); done) | fail)),
          ⟨by rw [rowsD_snoc]; exact (hR.mono (Kn.sub (kd_sub (add := [_])))).snoc (.tuple (.inr (kd_new (by k_mem))) rfl rfl (.cons (.str _ _) (.cons (.int _ _) (.cons (.int _ _) (.cons (.int _ _) .nil))))),
            by rw [fixes_no fun _ => rfl]; exact hX.mono (Kn.sub (kd_sub (add := [_]))), hM, by rw [mk_no rfl]; exact hK.mono (Kn.sub (kd_sub (add := [_])))⟩,
          ⟨hi8, hl8, by simp, val_snoc hV (by show True; trivial)⟩⟩
  · intro c tl u h tk off hF hP F7 N7
    subst hcst
    subst hes
    obtain ⟨fv, fn, fz, rv, rows, rn, xv, xn, mo, mv⟩ := c
    dsimp only [kstB] at F7 hP hF
    obtain ⟨hi7, hl7, hrl, hV⟩ := hP
    obtain ⟨hR, hX, hM, hK⟩ := hF
    simp only [List.nil_append, List.cons_append] at N7
    clear F6 N6 hi5 hl5 hir hcoff hOL hE1 hE2 hE3
    have hKd := kdMark
    dsimp only
    (first | ((try k_unmd); (try k_fold); repeat' (first | (k_unfold; (try dsimp only)) | (first | ((with_reducible show wpAny _ _ (call (Value.ref 112) _) _ _ _); k_here; k_dflt (refine draw_at (by k_asm) (by k_asm) (by k_asm) (by k_asm) (by rfl) (by (first | ((try dsimp only [ktrTop, Around.deeper, Around.in1]); omega) | fail)) (by (first | ((try dsimp only [ktrTop, Around.deeper, Around.in1]); omega) | fail)) (by k_asm) (by k_updF) (by with_reducible assumption) (by with_reducible assumption) (by omega) (by omega) ?_; k_whole); intro h' tk' vs' n' ns' x' t' F' N' hi' hl' x1'; (try k_sweep)) | fail) | ((first | (fail_if_success (with_reducible first | show wpAny _ _ (call (Value.ref _) _) _ _ _ | show wpAny _ _ (exec (Stmt.While _ _ _ _) _) _ _ _ | show wpAny _ _ (exec (Stmt.For _ _ _ _ _) _) _ _ _ | show wpAny _ _ (pyIter _) _ _ _ | show wpAny _ _ (setItem _ _ _) _ _ _ | show wpAny _ _ (eval (Expr.ListComp _ _ _ _) _) _ _ _ | show wpAny _ _ (exec (Stmt.Assign _ (Expr.ListComp _ _ _ _) _) _) _ _ _ | show InvPostG _ _ _ _ _ _ _ _ | show InvEndG _ _ _ _ _ _ | show OnG _ _ _ _ _ _ _ | show Fin _ _ _ _ _ _ | show KswEnd _ _ _ _ _ _ _ _ _ _ _ _ | show wpAny _ _ (call (Value.builtin "sorted") _) _ _ _ | show LCg.CompEnd _ _ _ _ _ _ _ _ _ _ _ _ _ _ | show LCg.CompSrc _ _ _ _ _ _ _ _ _ _ _ _ _ _ | show LCt.CompSrcT _ _ _ _ _ _ _ _ _ _ _ _ _ _ _)) | fail); first | walk1 | (dsimp only; (try k_fold); (first | (fail_if_success (with_reducible first | show wpAny _ _ (call (Value.ref _) _) _ _ _ | show wpAny _ _ (exec (Stmt.While _ _ _ _) _) _ _ _ | show wpAny _ _ (exec (Stmt.For _ _ _ _ _) _) _ _ _ | show wpAny _ _ (pyIter _) _ _ _ | show wpAny _ _ (setItem _ _ _) _ _ _ | show wpAny _ _ (eval (Expr.ListComp _ _ _ _) _) _ _ _ | show wpAny _ _ (exec (Stmt.Assign _ (Expr.ListComp _ _ _ _) _) _) _ _ _ | show InvPostG _ _ _ _ _ _ _ _ | show InvEndG _ _ _ _ _ _ | show OnG _ _ _ _ _ _ _ | show Fin _ _ _ _ _ _ | show KswEnd _ _ _ _ _ _ _ _ _ _ _ _ | show wpAny _ _ (call (Value.builtin "sorted") _) _ _ _ | show LCg.CompEnd _ _ _ _ _ _ _ _ _ _ _ _ _ _ | show LCg.CompSrc _ _ _ _ _ _ _ _ _ _ _ _ _ _ | show LCt.CompSrcT _ _ _ _ _ _ _ _ _ _ _ _ _ _ _)) | fail); walk1)) | (leave1; walk_say "STEP leave1"; try dsimp only) | fail "no step")) | fail)
    dsimp only
    k_unfold
    rename Fr _ _ _ _ => F9; rename News _ _ _ _ => N9
    have hfa := N9 (fa, _) (by k_mem)
    replace N9 := news_erase 11 N9
    dsimp only [List.eraseIdx] at N9
    rename IntsAre _ _ => hi8; rename List.length _ ≤ 1000 => hl8
    obtain ⟨K, hK9⟩ := restr_of F9 fun b o => b ≠ fa ∧ (SeqO o ∨ s.heap.get? b = none)
    have hof := hoff_of (fa := fa) N9 (by
      repeat (refine List.forall_mem_cons.mpr ⟨by k_ne, ?_⟩)
      exact OwnOff.ne off (.head _))
    have tk9 := toK hK9 F9 N9 hfa.2.2 hof
    have htl := tail_in N9 tl (fun p hp => by repeat' (first | exact hp | refine List.Mem.tail _ ?_))
    repeat (rename LtAll _ _ => z9; clear z9)
    repeat (rename AllLt _ _ => z9; clear z9)
    repeat (rename NeAll _ _ => z9; clear z9)
    rename Obj.IsDictOf _ _ (strPairs _) => hd9; rename (_ == sysModules) = false => lo9
    obtain ⟨dd, edd, lo9⟩ := named lo9
    subst edd
    rename (_ : Int) < 1 + (y : Int) => q4
    replace q4 := called1 q4
    obtain ⟨zb, e4, q4⟩ := q4
    subst e4
    rename (_ : Int) < 1 + (y : Int) => q3
    replace q3 := called1 q3
    obtain ⟨zr, e3, q3⟩ := q3
    subst e3
    rename (_ : Int) < 1 + (y : Int) => q2
    replace q2 := called1 q2
    obtain ⟨zg, e2, q2⟩ := q2
    subst e2
    rename (_ : Int) < 1 + (y : Int) => q1
    replace q1 := called1 q1
    obtain ⟨zc, e1, q1⟩ := q1
    subst e1
    refine ⟨_, _, _, rfl, F9, K, x', _, rows, zc, zg, zr, zb, _, _, _, rfl, fun b o e => ⟨((hK9 b o).mp e).1, ((hK9 b o).mp e).2⟩, ⟨⟨_, _, (hK9 _ _).mpr ⟨(N9 (x', _) (by k_mem)).1, hof (x', _) (by k_mem), .inr (gsub_fresh sub (N9 (x', _) (by k_mem)).2.2 (hof (x', _) (by k_mem)))⟩, rfl, rfl, (hK9 _ _).mpr ⟨(N9 (dx, _) (by k_mem)).1, hof (dx, _) (by k_mem), .inr (gsub_fresh sub (N9 (dx, _) (by k_mem)).2.2 (hof (dx, _) (by k_mem)))⟩⟩,
      ⟨_, rfl, .str _ _⟩, ⟨_, rfl, .int _ _⟩, ?_, ?_, ⟨_, rfl, .int _ _⟩, ?_, ?_, ?_, ?_, ?_, ⟨_, rfl, .int _ _⟩, ?_, ?_⟩, hfa.1, hi8, hl8, ?_⟩
    · exact lst_k tk9 (by k_mem) rfl (.cons (tup_k tk9 (by k_mem) (.cons (.str _ _) (.cons (.int _ _) .nil))) .nil)
    · exact lst_k tk9 (by k_mem) rfl (hR.seq.mono fun a o q => tk9 a o (kn_seq htl a o q))
    · exact lst_k tk9 (by k_mem) rfl (.cons (tup_k tk9 (by k_mem) (.cons (.int _ _) (.cons (.int _ _) .nil))) .nil)
    · exact lst_k tk9 (by k_mem) rfl (.cons (tup_k tk9 (by k_mem) (.cons (.int _ _) (.cons (.int _ _) (.cons (.int _ _) .nil)))) .nil)
    · exact lst_k tk9 (by k_mem) rfl (hX.seq.mono fun a o q => tk9 a o (kn_seq htl a o q))
    · exact lst_k tk9 (by k_mem) rfl (.cons (tup_k tk9 (by k_mem) (.cons (.str _ _) (.cons (.int _ _) .nil))) (.cons (tup_k tk9 (by k_mem) (.cons (.str _ _) (.cons (.int _ _) .nil))) .nil))
    · exact lst_k tk9 (by k_mem) rfl (.cons (.int _ _) .nil)
    · exact ⟨d1, mv, rfl, lo1, Heap.dictOf_iff.mpr ⟨mo, (hK9 _ _).mpr ⟨(N9 (d1, _) (by k_mem)).1, hof (d1, _) (by k_mem), .inr (gsub_fresh sub (N9 (d1, _) (by k_mem)).2.2 (hof (d1, _) (by k_mem)))⟩, hM⟩, hK.seq.mono fun a o q => tk9 a o (kn_seq htl a o q)⟩
    · exact ⟨dd, _, rfl, lo9, Heap.dictOf_iff.mpr ⟨_, (hK9 _ _).mpr ⟨(N9 (dd, _) (by k_mem)).1, hof (dd, _) (by k_mem), .inr (gsub_fresh sub (N9 (dd, _) (by k_mem)).2.2 (hof (dd, _) (by k_mem)))⟩, hd9⟩, .cons (.int _ _) (.cons (.int _ _) .nil)⟩
    · rw [hrl]
      exact ⟨by omega, by omega, hV, by omega, by omega, by omega, by omega⟩

section
variable {h₀ : Heap} {L fa : Addr} {m : Str → Option Value} {s : Shared} {o : Obj} {news : List (Addr × Obj)} {Q : Value → Shared → Prop} {Out : Heap → Value → Prop}
/-- a call that turns one object alone -/
theorem after1 (F : Fr h₀ L s.heap m) (N : News h₀ L s.heap ((fa, o) :: news)) (off : LCg.Off1 fa news) (k : ∀ r h' tk, Fr h₀ L h' m → (∀ o', h'.get? fa = some o' → News h₀ L h' ((fa, o') :: news)) → Out h' r → Q r { s with heap := h', toks := tk }) :
    ∀ r h' tk, (∀ b o', s.heap.get? b = some o' → b ∉ [(fa, o)].map (·.1) → h'.get? b = some o') → Out h' r → Q r { s with heap := h', toks := tk } :=
  fun r h' tk keep ho =>
    have z := N _ (.head _)
    have kp : ∀ b o, b ∉ [fa] → s.heap.get? b = some o → h'.get? b = some o := fun b o hb e => keep b o e hb
    k r h' tk (LCg.fr_but F kp z.2.1.symm z.2.2) (fun o' e q hq => by
      rcases List.mem_cons.mp hq with rfl | hq
      · exact ⟨e, z.2⟩
      · exact ⟨kp _ _ (by simpa using off1_mem off q hq) (N q (.tail _ hq)).1, (N q (.tail _ hq)).2⟩) ho
end
theorem cell_not {K H h : Heap} {c : Addr} {o o₁ : Obj} {v : Option Value} (hap : ∀ b o, K.get? b = some o → h.get? b = some o ∧ (SeqO o ∨ H.get? b = none)) (e : h.get? c = some o) (hd : o.data = .cell v) (e' : H.get? c = some o₁) : ∀ o', K.get? c = some o' → False := fun o' q => by
  obtain ⟨q1, q2⟩ := hap c o' q
  rw [e] at q1
  cases q1
  rcases q2 with ⟨_, _, z⟩ | z
  · rw [hd] at z; cases z
  · rw [e'] at z; cases z
theorem into_snap {g H h K K0 : Heap} {L : Addr} {m m' : Str → Option Value} {off : List Addr} (F : Fr g L H m) (F' : Fr g L h m') (hK0 : ∀ b o, K0.get? b = some o ↔ h.get? b = some o ∧ b ≠ L ∧ b ∉ off) (hap : ∀ b o, K.get? b = some o → h.get? b = some o ∧ (SeqO o ∨ H.get? b = none))
    (hoff : ∀ b ∈ off, ∀ o, K.get? b = some o → False) : ∀ b o, K.get? b = some o → K0.get? b = some o := fun b o e => by
  obtain ⟨q1, q2⟩ := hap b o e
  refine (hK0 b o).mpr ⟨q1, fun z => ?_, fun z => hoff b z o e⟩
  subst z
  rcases q2 with q2 | q2
  · exact frame_not F' q1 q2
  · obtain ⟨oL, _, _, e', _⟩ := F.ns
    rw [e'] at q2
    cases q2
/-- what an object, an item of a list .. reads of the part that stands -/
theorem KIn.objAt {K g h : Heap} {L x : Addr} {m : Str → Option Value} {tl l : List (Addr × Obj)} {es : List DictEntry} (k : KIn K g tl) (O : ObjAt K x es) (F : Fr g L h m) (N : News g L h l) (hs : ∀ p ∈ tl, p ∈ l) : ObjAt h x es := O.keeps (k.le F N hs)
section
variable {prog : Program} {w : World} {A : Around} {E : Value → Shared → Prop} {s : Shared} {K : Frag} {x L l : Addr} {h₀ HK : Heap} {m : Str → Option Value} {es : List DictEntry} {name : Str} {v : Value} {tl news : List (Addr × Obj)} {us : List Value} {k : Int} {u : Tok}
theorem att_k {expr : Bool} {Q : Value → Shared → Prop} {attr : Option Value} (F : Fr h₀ L s.heap m) (X₀ : K.In h₀) (N : News h₀ L s.heap news) (k : KIn HK h₀ tl) (hs : ∀ p ∈ tl, p ∈ news) (O : ObjAt HK x es) (hl : getL name es = some (some v)) (hg : plainGet K 45 name = true) (hh : hasDictIn K 45 = true)
    (ha : findIn K (.ref 45) name = some attr) (hn : noGet K attr = true) (hv : handedIn v = true) (h : Q v { s with toks := s.toks + 1 }) :
    wpAny (model prog w) A (getAttr (.ref x) name expr) Q E s := by
  obtain ⟨ox, n, I⟩ := k.objAt O F N hs
  exact get_own F X₀ I hg hh ha hn hl hv h
theorem item_k {value slice : PySem.Expr} {Q : Value → Shared → Prop} (F : Fr h₀ L s.heap m) (N : News h₀ L s.heap news) (kk : KIn HK h₀ tl) (hs : ∀ p ∈ tl, p ∈ news) (hl : HK.IsList l us.toArray) (hx : us[k.toNat]? = some v) (h0 : 0 ≤ k) (hfit : k < 2 ^ 63) (h : Q v s)
    (he : subscripted slice false (.ref l) (.int k u) = operate [.ref l, .int k u] (getItem (.ref l) (.int k u)) := by with_unfolding_all rfl) : wpAny (model prog w) A (subscriptTail value slice (.ref l) (.int k u)) Q E s :=
  have hl' := stays_list (kk.le F N hs) hl
  tail_any hl'.typeIs slot_list_getitem.lookup (wpAny_getItem_list hl' h0 hfit (by simpa using hx) h) he
theorem len_k {n : Nat} {Q : Value → Shared → Prop} (F : Fr h₀ L s.heap m) (N : News h₀ L s.heap news) (kk : KIn HK h₀ tl) (hs : ∀ p ∈ tl, p ∈ news) (hl : HK.IsList l us.toArray) (hn : us.length = n) (hfit : n ≤ 1000000) (h : Q (.int (n : Int) (s.toks + 1)) { s with toks := s.toks + 1 + 1 }) : wpAny (model prog w) A (call (.builtin "len") [.ref l]) Q E s := by
  have e : us.toArray.size = n := by rw [List.size_toArray, hn]
  exact len_list (stays_list (kk.le F N hs) hl) (by rw [e]; omega) (by rw [e]; exact h)
theorem ditem_k {T : Type} [DecidableEq T] {knd : KeyKind prog w T} {d : Addr} {kvs : List (T × Value)} {k : T} {key v : Value} {value slice : PySem.Expr} {Q : Value → Shared → Prop} (F : Fr h₀ L s.heap m) (N : News h₀ L s.heap news) (kk : KIn HK h₀ tl) (hs : ∀ p ∈ tl, p ∈ news) (hD : HK.DictOf knd d kvs) (hkey : knd.is k key = true) (hl : valueAt kvs k = some v) (h : Q v { s with toks := s.toks + 1 })
    (he : subscripted slice false (.ref d) key = operate [.ref d, key] (getItem (.ref d) key) := by with_unfolding_all rfl) : wpAny (model prog w) A (subscriptTail value slice (.ref d) key) Q E s :=
  have hD' := hD.keep (kk.le F N hs)
  tail_any hD'.typeIs slot_dict_getitem.lookup (wpAny_getItem_of hkey hD'.mapOf hl h) he
end
theorem compsrc_k {prog : Program} {w : World} {A : Around} {h₀ HK : Heap} {L : Addr} {m : Str → Option Value} {env : Env} {elt : Expr} {x : Str} {scope : Scope} {cl : List (Str × Addr)} {Fin : Shared → List Value → List (Addr × Obj) → Prop} {ax : Addr} {us : List Value} {news tl : List (Addr × Obj)} {s₁ : Shared}
    (hh : A.handled = none) (F : Fr h₀ L s₁.heap m) (N : News h₀ L s₁.heap news) (kk : KIn HK h₀ tl) (hs : ∀ p ∈ tl, p ∈ news) (hl : HK.IsList ax us.toArray) (hsz : us.length ≤ 1000)
    (h : ∀ g S, (∀ nw, (∀ p ∈ tl, p ∈ nw) → S nw) → LCg.CompRest prog w A h₀ L m env elt x scope cl { s₁ with heap := g } S (fun i v => us.toArray[i]? = some v) (Fin { s₁ with heap := g }) us.length 0 [] news) :
    LCg.CompSrc prog w A h₀ L m env elt x scope cl Fin (.ref ax) s₁ := by
  obtain ⟨o, e, hc, n, hd⟩ := id hl
  have src : ∀ nw, (∀ p ∈ tl, p ∈ nw) → LCg.SrcAt h₀ ax us.toArray nw := fun nw hnw => (kk ax o e).elim (fun q => .inl ⟨o, q, hc, n, hd⟩) fun q => .inr ⟨o, hnw _ q, hc, n, hd⟩
  exact .inl ⟨ax, us.toArray, news, rfl, hh, F, N, src news hs, by rw [List.size_toArray, sizeLine_eq]; omega, fun _ ⟨g, e⟩ => e ▸ by rw [List.size_toArray]; exact h g _ src⟩
theorem compsrcT_k {prog : Program} {w : World} {A : Around} {h₀ HK : Heap} {L : Addr} {m : Str → Option Value} {env : Env} {ct elt : Expr} {x : Str} {scope : Scope} {cl : List (Str × Addr)} {Fin : Shared → List Value → List (Addr × Obj) → Prop} {ax : Addr} {us : List Value} {news tl : List (Addr × Obj)} {s₁ : Shared}
    (hh : A.handled = none) (F : Fr h₀ L s₁.heap m) (N : News h₀ L s₁.heap news) (kk : KIn HK h₀ tl) (hs : ∀ p ∈ tl, p ∈ news) (hl : HK.IsList ax us.toArray) (hsz : us.length ≤ 1000)
    (h : ∀ g S, (∀ nw, (∀ p ∈ tl, p ∈ nw) → S nw) → LCt.CompRestT prog w A h₀ L m env ct elt x scope cl { s₁ with heap := g } S (fun i v => us.toArray[i]? = some v) (Fin { s₁ with heap := g }) us.length 0 [] news) :
    LCt.CompSrcT prog w A h₀ L m env ct elt x scope cl Fin (.ref ax) s₁ := by
  obtain ⟨o, e, hc, n, hd⟩ := id hl
  have src : ∀ nw, (∀ p ∈ tl, p ∈ nw) → LCg.SrcAt h₀ ax us.toArray nw := fun nw hnw => (kk ax o e).elim (fun q => .inl ⟨o, q, hc, n, hd⟩) fun q => .inr ⟨o, hnw _ q, hc, n, hd⟩
  exact .inl ⟨ax, us.toArray, news, rfl, hh, F, N, src news hs, by rw [List.size_toArray, sizeLine_eq]; omega, fun _ ⟨g, e⟩ => e ▸ by rw [List.size_toArray]; exact h g _ src⟩
local macro_rules | `(tactic| walk_at "getAttr ref") => `(tactic| (k_here; k_dflt (refine att_k (by k_asm) (by k_asm) (by k_asm) (by with_reducible assumption) (by walk_at "m:sub") (by with_reducible assumption) (by with_reducible assumption) (by k_is) (by k_is) (by k_is) (by k_is) (by first | rfl | exact DI.handed (by assumption) | fail) ?_; k_whole)))
local macro_rules | `(tactic| walk_at "subscriptTail") => `(tactic| (k_here; (with_reducible show wpAny _ _ (subscriptTail _ _ (Value.ref _) (Value.int _ _)) _ _ _); k_dflt (first | (refine item_k (by k_asm) (by k_asm) (by with_reducible assumption) (by walk_at "m:sub") (by with_reducible assumption) (by with_reducible assumption) (by first | (with_reducible assumption) | omega | fail) (by first | (with_reducible assumption) | omega | fail) ?_ (by with_unfolding_all rfl); k_whole) | (refine ditem_k (knd := PySem.intKind _ _) (by k_asm) (by k_asm) (by with_reducible assumption) (by walk_at "m:sub") (by with_reducible assumption) (intKind_is _ _ _ _) (by with_reducible assumption) ?_ (by with_unfolding_all rfl); k_whole) | (refine item_tupleT (IsTup.keeps (by with_reducible assumption) (KIn.le (by with_reducible assumption) (by k_asm) (by k_asm) (by walk_at "m:sub"))) (by decide) (by decide) (by first | rfl | with_reducible assumption | fail) (by first | rfl | with_reducible assumption | fail) ?_; k_whole))))
local macro_rules | `(tactic| walk_at "subscriptTail") => `(tactic| (k_here; (with_reducible show wpAny _ _ (subscriptTail _ _ (Value.ref _) (Value.str _ _)) _ _ _); k_dflt (refine ditem_k (knd := PySem.strKind _ _) (by k_asm) (by k_asm) (by with_reducible assumption) (by walk_at "m:sub") (by with_reducible assumption) (strKind_is _ _ _ _) (by with_reducible assumption) ?_ (by with_unfolding_all rfl); k_whole)))
local macro_rules | `(tactic| walk_at "call builtin:len") => `(tactic| (k_here; (with_reducible show wpAny _ _ (call (Value.builtin "len") [Value.ref _]) _ _ _); k_dflt (refine len_k (by k_asm) (by k_asm) (by with_reducible assumption) (by walk_at "m:sub") (by with_reducible assumption) (by first | (with_reducible assumption) | rfl | fail) (by omega) ?_; k_whole)))
theorem fr_any {g h : Heap} {L : Addr} {m : Str → Option Value} {P : Prop} (F : Fr g L h m) (k : ∀ m', Fr g L h m' → P) : P := k m F
theorem resnap {g h HK : Heap} {L : Addr} {m : Str → Option Value} {tl l : List (Addr × Obj)} {off : List Addr} (F : Fr g L h m) (N : News g L h l) (kk : KIn HK g tl) (hs : ∀ p ∈ tl, p ∈ l) (hn : ∀ b o, HK.get? b = some o → b ≠ L ∧ b ∉ off) (ho : ∀ b ∈ off, g.get? b = none) :
    ∃ K1 tl1, (∀ b o, K1.get? b = some o ↔ h.get? b = some o ∧ b ≠ L ∧ b ∉ off) ∧ News g L h tl1 ∧ OwnOff tl1 off ∧ KIn K1 g tl1 ∧ (∀ b o, HK.get? b = some o → K1.get? b = some o) := by
  obtain ⟨K, tl1, hK, a, b, c⟩ := snap F off ho
  exact ⟨K, tl1, hK, a, b, c, fun b o e => (hK b o).mpr ⟨kk.le F N hs b o e, hn b o e⟩⟩
theorem none_four {g h : Heap} {L a b c d : Addr} {oa ob oc od : Obj} {l : List (Addr × Obj)} (N : News g L h ((a, oa) :: (b, ob) :: (c, oc) :: (d, od) :: l)) : ∀ x ∈ [a, b, c, d], g.get? x = none := by
  simp only [List.forall_mem_cons, List.not_mem_nil, false_imp_iff, implies_true, and_true]
  exact ⟨(N _ (.head _)).2.2, (N _ (.tail _ (.head _))).2.2, (N _ (.tail _ (.tail _ (.head _)))).2.2, (N _ (.tail _ (.tail _ (.tail _ (.head _))))).2.2⟩
theorem list_k {h K : Heap} {L D : Addr} {off : List Addr} {us : List Value} {n : Nat} (hK : ∀ b o, K.get? b = some o ↔ h.get? b = some o ∧ b ≠ L ∧ b ∉ off) (e : h.get? D = some (listOf us.toArray n)) (h1 : D ≠ L) (h2 : D ∉ off) : K.IsList D us.toArray := ⟨_, (hK _ _).mpr ⟨e, h1, h2⟩, rfl, _, rfl⟩
theorem not_mem4 {D a b c d : Addr} (h1 : @Ne Nat a D) (h2 : @Ne Nat b D) (h3 : @Ne Nat c D) (h4 : @Ne Nat d D) : D ∉ [a, b, c, d] := by
  simp only [List.mem_cons, List.not_mem_nil, or_false]
  rintro (h | h | h | h)
  · exact h1 h.symm
  · exact h2 h.symm
  · exact h3 h.symm
  · exact h4 h.symm
/-- the rows that stay -/
def stayN (ks : List Bool) (k : Nat) : List Int := ((List.range k).filter (stays ks)).map fun (i : Nat) => (i : Int)
theorem stayN_succ (ks : List Bool) (k : Nat) : stayN ks (k + 1) = stayN ks k ++ (if stays ks k then [(k : Int)] else []) := by
  unfold stayN
  rw [List.range_succ, List.filter_append, List.map_append]
  cases h : stays ks k <;> simp [h]
theorem stayN_len (ks : List Bool) : ∀ k, k ≤ ks.length → (stayN ks k).length = cnt ks k
  | 0, _ => rfl
  | k + 1, h => by
    obtain ⟨b, hb⟩ : ∃ b, ks[k]? = some b := ⟨_, List.getElem?_eq_getElem (by omega)⟩
    have hst : stays ks k = b := by unfold stays; rw [List.getD_eq_getElem?_getD, hb]; rfl
    rw [stayN_succ, List.length_append, stayN_len ks k (by omega), cnt_succ ks k hb, hst]
    cases b <;> rfl
theorem stays_at {ks : List Bool} {k : Nat} (h : k < ks.length) : ks[k]? = some (stays ks k) := by
  unfold stays
  rw [List.getD_eq_getElem?_getD, List.getElem?_eq_getElem h]
  rfl
theorem di_snap {g h K : Heap} {L : Addr} {m : Str → Option Value} {off : List Addr} (F : Fr g L h m) (hK : ∀ b o, K.get? b = some o ↔ h.get? b = some o ∧ b ≠ L ∧ b ∉ off) (hc : ∀ x ∈ off, ∀ o, h.get? x = some o → ¬ SeqO o) : ∀ a o, Hp h a o ∧ SeqO o → Hp K a o := fun a o q =>
  (hK a o).mpr ⟨q.1, fun z => by subst z; exact frame_not F q.1 q.2, fun z => hc a z o q.1 q.2⟩
theorem four_cells {g h : Heap} {L a b c d : Addr} {oa ob oc od : Obj} {l : List (Addr × Obj)} {va vb vc vd : Option Value} (N : News g L h ((a, oa) :: (b, ob) :: (c, oc) :: (d, od) :: l)) (ha : oa.data = .cell va) (hb : ob.data = .cell vb) (hc : oc.data = .cell vc) (hd : od.data = .cell vd) :
    ∀ x ∈ [a, b, c, d], ∀ o, h.get? x = some o → ¬ SeqO o := by
  have key : ∀ {x : Addr} {o o' : Obj} {v : Option Value}, h.get? x = some o → o.data = .cell v → h.get? x = some o' → ¬ SeqO o' := by
    intro x o o' v e1 e2 e3 ⟨_, _, z⟩
    rw [e1] at e3
    cases e3
    rw [e2] at z
    cases z
  simp only [List.forall_mem_cons, List.not_mem_nil, false_imp_iff, implies_true, and_true]
  exact ⟨fun o => key (N _ (.head _)).1 ha, fun o => key (N _ (.tail _ (.head _))).1 hb, fun o => key (N _ (.tail _ (.tail _ (.head _)))).1 hc, fun o => key (N _ (.tail _ (.tail _ (.tail _ (.head _))))).1 hd⟩
theorem mapsL_asc {mk : List Nat} (h : mk.Pairwise (· < ·)) : ((mapsL mk).map (·.1)).Pairwise (· < ·) := by
  rw [maps_keys, List.pairwise_map]
  exact h.imp fun h => by omega
theorem mapsL_val (mk : List Nat) : ∀ p ∈ mapsL mk, p.2 = stackD := fun p hp => by
  unfold mapsL at hp
  obtain ⟨i, _, rfl⟩ := List.mem_map.mp hp
  rfl
theorem newMaps_asc (ks : List Bool) {mk : List Nat} (h : mk.Pairwise (· < ·)) : ((newMaps ks mk).map (·.1)).Pairwise (· < ·) := by
  unfold newMaps
  rw [List.map_map, List.pairwise_map]
  refine (List.Pairwise.and_mem.mp (h.filter _)).imp ?_
  rintro a b ⟨ha, hb, hab⟩
  have := cnt_lt ks hab (List.mem_filter.mp ha).2
  show (cnt ks a : Int) + 1 < (cnt ks b : Int) + 1
  omega
theorem newMaps_val (ks : List Bool) (mk : List Nat) : ∀ p ∈ newMaps ks mk, p.2 = stackD := fun p hp => by
  unfold newMaps at hp
  obtain ⟨i, _, rfl⟩ := List.mem_map.mp hp
  rfl
theorem newMaps_len (ks : List Bool) (mk : List Nat) : (newMaps ks mk).length ≤ mk.length := by
  unfold newMaps
  rw [List.length_map]
  exact List.length_filter_le _ _
theorem newFixes_len (ks : List Bool) (fx : List Fix) : (newFixes ks fx).length ≤ fx.length := by
  unfold newFixes
  rw [List.length_map]
  exact List.length_filter_le _ _
theorem bools_di (G : Addr → Obj → Prop) : ∀ ks : List Bool, DIs G (ks.map Value.bool) (ks.map Dat.bool)
  | [] => .nil
  | b :: ks => .cons (.bool b) (bools_di G ks)
theorem objIs_apart' {w : World} {H h : Heap} {x : Addr} {es : List DictEntry} {o : OD} (X : ObjIs w h x es o) (f : Fresh H h x es) : ∃ K, (∀ b o, K.get? b = some o → h.get? b = some o ∧ (SeqO o ∨ H.get? b = none)) ∧ ObjIs w K x es o := objIs_apart X f
theorem four_not {g H h K : Heap} {L a b c d : Addr} {oa ob oc od : Obj} {l : List (Addr × Obj)} {va vb vc vd : Option Value} (hap : ∀ b o, K.get? b = some o → h.get? b = some o ∧ (SeqO o ∨ H.get? b = none)) (NH : News g L H ((a, oa) :: (b, ob) :: (c, oc) :: (d, od) :: l)) (N : News g L h ((a, oa) :: (b, ob) :: (c, oc) :: (d, od) :: l))
    (ha : oa.data = .cell va) (hb : ob.data = .cell vb) (hc : oc.data = .cell vc) (hd : od.data = .cell vd) : ∀ x ∈ [a, b, c, d], ∀ o, K.get? x = some o → False := by
  simp only [List.forall_mem_cons, List.not_mem_nil, false_imp_iff, implies_true, and_true]
  exact ⟨cell_not hap (N _ (.head _)).1 ha (NH _ (.head _)).1, cell_not hap (N _ (.tail _ (.head _))).1 hb (NH _ (.tail _ (.head _))).1, cell_not hap (N _ (.tail _ (.tail _ (.head _)))).1 hc (NH _ (.tail _ (.tail _ (.head _)))).1, cell_not hap (N _ (.tail _ (.tail _ (.tail _ (.head _))))).1 hd (NH _ (.tail _ (.tail _ (.tail _ (.head _))))).1⟩
section
variable {prog : Program} {w : World} {A : Around} {s : Shared} {env : Env}
theorem For_invVF {E : Value → Shared → Prop} {Q : Flow → Shared → Prop} {x : Str} {px pos : Pos} {iter : PySem.Expr} {body : List Stmt} {h₀ hh : Heap} {L : Addr} {m : Str → Option Value} (_F : Fr h₀ L hh m) (hx : env.kindOf x = some .local)
    (hp : (env.scope.kind == .class || (env.scope.kind == .module && env.locals != env.globals)) = false)
    (h : wpAny (model prog w) A (eval iter env) (fun xv s₁ => wpAny (model prog w) A (pyIter xv) (fun it s₂ => LoopAtV prog w A h₀ env x body Q E it s₂) E s₁) E s)
    (hs : ∀ x, foldedSetIterable iter env x = pure x)
    (hE : PassesOwn (model prog w) A env E := by passes_own) :
    wpAny (model prog w) A (exec (.For (.Name x px) iter body [] pos) env) Q E s := For_invV h₀ hx hp h hs hE
end
section
variable {prog : Program} {w : World} {A : Around} {E : Value → Shared → Prop} {s : Shared} {env : Env} {h₀ : Heap} {x : Str} {body : List Stmt} {Q : Flow → Shared → Prop}
/-- a loop over range(n) that only reads -/
theorem loopRN {r : Addr} {b₀ : Int} {t₀ u₀ v₀ : Tok} {n : Nat} {m₀ : Str → Option Value} {news : List (Addr × Obj)} (stored : List Str)
    (hh : A.handled = none) (hr : IsRange s.heap r 0 b₀ 1 t₀ u₀ v₀) (hb : b₀ = (n : Int)) (hsm : n ≤ 1000000) (F : Fr h₀ env.locals s.heap m₀) (N : News h₀ env.locals s.heap news)
    (turn : ∀ tl (i : Nat) t (u : Str → Option Value) h tk own, i < n → KdSep own tl (news.map (·.1)) → OwnOff (tl ++ own) (news.map (·.1)) →
      Fr h₀ env.locals h (fun y => if y = x then some (.int (i : Int) t) else if stored.contains y then u y else m₀ y) → News h₀ env.locals h (news ++ (tl ++ own)) →
      wpAny (model prog w) A (execs body env) (InvPostG h₀ env.locals (KdS (fun _ : Unit => []) news (fun _ => []) (fun _ _ => True) x stored m₀ (fun (_ : Nat) _ => True) (news.map (·.1)) (i + 1)) own { s with heap := h, toks := tk } Q) E { s with heap := h, toks := tk })
    (done : ∀ tl (u : Str → Option Value) h tk, OwnOff tl (news.map (·.1)) → Fr h₀ env.locals h (fun y => if y = x then u y else if stored.contains y then u y else m₀ y) → News h₀ env.locals h (news ++ tl) → Q .next { s with heap := h, toks := tk }) :
    wpAny (model prog w) A (pyIter (.ref r)) (fun it s₂ => LoopAtV prog w A h₀ env x body Q E it s₂) E s :=
  loopR (fun _ : Unit => []) news (fun _ => []) (fun _ _ => True) stored (fun _ _ => True) (news.map (·.1)) () hh hr hb hsm F N (fun p hp => by simpa using hp) (fun _ => rfl) trivial (fun p hp => nomatch hp) trivial
    (fun _ tl i t u h tk own hlt sep off _ _ F' N' => turn tl i t u h tk own hlt sep off F' (by simpa using N')) (fun _ tl u h tk off _ _ F' N' => done tl u h tk off F' (by simpa using N'))
theorem endN {stored : List Str} {m₀ m' : Str → Option Value} {news tl own l : List (Addr × Obj)} {L : Addr} {s₁ : Shared} {h' : Heap} {tk : Nat} {i : Nat}
    (h0 : KdSep own tl (news.map (·.1))) (F : Fr h₀ L h' m') (N : News h₀ L h' l) (hs : ∀ p ∈ news ++ (tl ++ own), p ∈ l) (hr : ∀ z, z ≠ x → (∀ p ∈ ([] : List (Str × Value)), z ≠ p.1) → stored.contains z = false → m' z = m₀ z) :
    InvEndG h₀ L (KdS (fun _ : Unit => []) news (fun _ => []) (fun _ _ => True) x stored m₀ (fun (_ : Nat) _ => True) (news.map (·.1)) i) own s₁ { s₁ with heap := h', toks := tk } :=
  end0 () h0 F (fun p hp => N p (hs p (by simpa using hp))) rfl (fun p hp => nomatch hp) hr trivial trivial
end
theorem knk {K g h : Heap} {L : Addr} {m : Str → Option Value} {tl c l : List (Addr × Obj)} (kk : KIn K g tl) (F : Fr g L h m) (N : News g L h l) (h1 : ∀ p ∈ tl, p ∈ l) (h2 : ∀ p ∈ c, p ∈ l) : ∀ a o, Kn K c a o → Hp h a o := fun a o q => q.elim (fun e => kk.le F N h1 a o e) fun hm => (N _ (h2 _ hm)).1
/-- the cells behind what the law has made by the way -/
theorem news_cells5 {g h : Heap} {L : Addr} {a b c d e : Addr × Obj} {l : List (Addr × Obj)} (N : News g L h (a :: b :: c :: d :: e :: l)) : News g L h l := fun p hp => N p (.tail _ (.tail _ (.tail _ (.tail _ (.tail _ hp)))))

theorem rowDat_ok (n i : Nat) (r : Row) : kqdOk (n + 1) (rowDat i r) = true := by
  cases r with
  | b m t => cases m <;> (simp only [rowDat, kqdOk, List.all_cons, List.all_nil, Bool.and_true, Bool.true_and, Bool.and_eq_true]; decide +kernel)
  | bl t => simp only [rowDat, kqdOk, List.all_cons, List.all_nil, Bool.and_true, Bool.true_and, Bool.and_eq_true]; decide +kernel
  | imp => simp only [rowDat, kqdOk, List.all_cons, List.all_nil, Bool.and_true, Bool.true_and, Bool.and_eq_true]; decide +kernel
  | addr t => simp only [rowDat, kqdOk, List.all_cons, List.all_nil, Bool.and_true, Bool.true_and, Bool.and_eq_true]; decide +kernel
  | plain d => simp only [rowDat, kqdOk, List.all_cons, List.all_nil, Bool.and_true, Bool.true_and, Bool.and_eq_true]; decide +kernel
theorem newRow_ok (ks : List Bool) (n i : Nat) (r : Row) : kqdOk (n + 1) (newRow ks i r) = true := by
  cases r with
  | b m t => cases m <;> (simp only [newRow, kqdOk, List.all_cons, List.all_nil, Bool.and_true, Bool.true_and, Bool.and_eq_true]; decide +kernel)
  | bl t => simp only [newRow, kqdOk, List.all_cons, List.all_nil, Bool.and_true, Bool.true_and, Bool.and_eq_true]; decide +kernel
  | imp => simp only [newRow, kqdOk, List.all_cons, List.all_nil, Bool.and_true, Bool.true_and, Bool.and_eq_true]; decide +kernel
  | addr t => simp only [newRow, kqdOk, List.all_cons, List.all_nil, Bool.and_true, Bool.true_and, Bool.and_eq_true]; decide +kernel
  | plain d => simp only [newRow, kqdOk, List.all_cons, List.all_nil, Bool.and_true, Bool.true_and, Bool.and_eq_true]; decide +kernel
theorem rowsD_ok (n : Nat) (rows : List Row) : (rowsD rows).all (kqdOk (n + 1)) = true := by
  refine List.all_eq_true.mpr fun d hd => ?_
  obtain ⟨k, r, _, h⟩ := gen_mem hd
  rw [List.mem_singleton.mp h]
  exact rowDat_ok _ _ _
theorem fix_kind {rows : List Row} {f : Fix} (h : f ∈ fixes rows) : PyData.strOk f.kind = true := by
  obtain ⟨k, r, _, hx, _⟩ := fixes_mem h
  cases r with
  | plain d => cases d <;> simp [fixOf] at hx; subst hx; exact (by decide +kernel : PyData.strOk (Str.ofString "data") = true)
  | imp => simp [fixOf] at hx; subst hx; exact (by decide +kernel : PyData.strOk (Str.ofString "call") = true)
  | addr t => simp [fixOf] at hx; subst hx; exact (by decide +kernel : PyData.strOk (Str.ofString "addr") = true)
  | _ => simp [fixOf] at hx
theorem fixes_ok (n : Nat) (rows : List Row) : ((fixes rows).map Fix.dat).all (kqdOk (n + 1)) = true := by
  refine List.all_eq_true.mpr fun d hd => ?_
  obtain ⟨f, hf, rfl⟩ := List.mem_map.mp hd
  have := fix_kind hf
  simp only [Fix.dat, kqdOk, List.all_cons, List.all_nil, Bool.and_true, Bool.true_and, this]
theorem newFixes_ok (n : Nat) (ks : List Bool) (rows : List Row) : (newFixes ks (fixes rows)).all (kqdOk (n + 1)) = true := by
  refine List.all_eq_true.mpr fun d hd => ?_
  unfold newFixes at hd
  obtain ⟨f, hf, rfl⟩ := List.mem_map.mp hd
  have := fix_kind (List.mem_filter.mp hf).1
  simp only [newFix, kqdOk, List.all_cons, List.all_nil, Bool.and_true, Bool.true_and, this]
theorem maps_okd (n : Nat) (l : List (Int × Dat)) (h : ∀ p ∈ l, p.2 = stackD) : (l.map fun p => Dat.tuple [.int p.1, p.2]).all (kqdOk (n + 2)) = true := by
  refine List.all_eq_true.mpr fun d hd => ?_
  obtain ⟨p, hp, rfl⟩ := List.mem_map.mp hd
  rw [h p hp]
  simp [kqdOk, stackD]
theorem seen_okd (rows : List Row) (c g r b : Nat) : kqdOk 9 (seenD (odOf rows c g r b)) = true := by
  have h1 := rowsD_ok 6 rows
  have h2 := fixes_ok 6 rows
  have h3 := maps_okd 5 (mapsL (mk rows)) (mapsL_val _)
  have s1 : PyData.strOk (Str.ofString "M") = true := by decide +kernel
  have s2 : PyData.strOk (Str.ofString "N") = true := by decide +kernel
  have s3 : PyData.strOk (Str.ofString "data") = true := by decide +kernel
  have s4 : PyData.strOk (Str.ofString "code") = true := by decide +kernel
  have s5 : PyData.strOk (Str.ofString "Go") = true := by decide +kernel
  have s6 : PyData.strOk (Str.ofString "Run") = true := by decide +kernel
  simp only [seenD, odOf, kqdOk, List.all_cons, List.all_nil, List.map_cons, List.map_nil, Bool.and_true, Bool.true_and, Bool.and_self, s1, s2, s3, s4, s5, s6, h1, h2, h3]
theorem newRows_cnt (ks : List Bool) (rows : List Row) (hn : ks.length = rows.length) : ∀ k, k ≤ rows.length → (newRows ks (rows.take k)).length = cnt ks k
  | 0, _ => rfl
  | k + 1, h => by
    obtain ⟨r, hr⟩ : ∃ r, rows[k]? = some r := ⟨_, List.getElem?_eq_getElem (by omega)⟩
    rw [newRows_snoc ks hr, List.length_append, newRows_cnt ks rows hn k (by omega), cnt_succ ks k (stays_at (by omega))]
    cases stays ks k <;> rfl
theorem newRows_total (ks : List Bool) (rows : List Row) (hn : ks.length = rows.length) : (newRows ks rows).length = cnt ks ks.length := by
  have := newRows_cnt ks rows hn rows.length (Nat.le_refl _)
  rwa [List.take_length, ← hn] at this
theorem newRows_at (ks : List Bool) {rows : List Row} (hn : ks.length = rows.length) {i : Nat} {r : Row} (hr : rows[i]? = some r) (hs : stays ks i = true) : (newRows ks rows)[cnt ks i]? = some (newRow ks i r) := by
  have hi := (List.getElem?_eq_some_iff.mp hr).1
  have e : rows = rows.take i ++ (r :: rows.drop (i + 1)) := by
    obtain ⟨h1, h2⟩ := List.getElem?_eq_some_iff.mp hr
    rw [← h2, List.getElem_cons_drop, List.take_append_drop]
  have hl := newRows_cnt ks rows hn i (by omega)
  have e2 : newRows ks rows = newRows ks (rows.take i) ++ ([newRow ks i r] ++ gen (fun i r => if stays ks i then [newRow ks i r] else []) (i + 1) (rows.drop (i + 1))) := by
    conv => lhs; rw [e]
    unfold newRows
    rw [gen_append, gen, List.length_take, Nat.min_eq_left (by omega), Nat.zero_add, hs]
    rfl
  rw [e2, List.getElem?_append_right (by omega), hl, Nat.sub_self]
  rfl
theorem stayN_at (ks : List Bool) : ∀ k, k ≤ ks.length → ∀ j, j < cnt ks k → ∃ i, i < k ∧ stays ks i = true ∧ cnt ks i = j ∧ (stayN ks k)[j]? = some (i : Int)
  | 0, _, j, h => by simp [cnt_zero] at h
  | k + 1, hk, j, h => by
    rw [cnt_succ ks k (stays_at (by omega))] at h
    rw [stayN_succ]
    have hl := stayN_len ks k (by omega)
    by_cases hj : j < cnt ks k
    · obtain ⟨i, h1, h2, h3, h4⟩ := stayN_at ks k (by omega) j hj
      exact ⟨i, by omega, h2, h3, by rw [List.getElem?_append_left (by omega), h4]⟩
    · cases hs : stays ks k with
      | false => rw [hs] at h; simp at h; omega
      | true =>
        rw [hs] at h
        simp only [if_true] at h
        have : j = cnt ks k := by omega
        subst this
        exact ⟨k, by omega, hs, rfl, by rw [List.getElem?_append_right (by omega), hl, Nat.sub_self]; rfl⟩
theorem stayN_prefix (ks : List Bool) (k d : Nat) : ∃ r, stayN ks (k + d) = stayN ks k ++ r := by
  induction d with
  | zero => exact ⟨[], by simp⟩
  | succ d ih =>
    obtain ⟨r, e⟩ := ih
    exact ⟨r ++ _, by rw [← Nat.add_assoc, stayN_succ, e, List.append_assoc]⟩
theorem goalN_stay (ks : List Bool) {t : Nat} (ht : t ≤ ks.length) : goalN (stayN ks ks.length) (t : Int) = cnt ks t := by
  have hl := stayN_len ks ks.length (Nat.le_refl _)
  have hlt := stayN_len ks t ht
  have hm := cnt_mono ks ht
  refine goalN_of _ _ _ (by omega) (fun j x hj hx => ?_) (fun x hx => ?_)
  · obtain ⟨i, h1, _, _, h4⟩ := stayN_at ks t ht j hj
    obtain ⟨r, e⟩ := stayN_prefix ks t (ks.length - t)
    rw [show t + (ks.length - t) = ks.length by omega] at e
    rw [e, List.getElem?_append_left (by omega), h4] at hx
    cases hx
    omega
  · have hj : cnt ks t < cnt ks ks.length := by
      have := (List.getElem?_eq_some_iff.mp hx).1
      omega
    obtain ⟨i, h1, h2, h3, h4⟩ := stayN_at ks ks.length (Nat.le_refl _) _ hj
    rw [h4] at hx
    cases hx
    intro hc
    have := cnt_lt ks (show i < t by omega) h2
    omega
/-- which rows call, which hold -/
def kindN (k : Str) (fx : List Fix) : List Int := (fx.filter fun f => decide (f.kind = k)).map Fix.row
theorem kindN_snoc (k : Str) {fx : List Fix} {i : Nat} {f : Fix} (h : fx[i]? = some f) : kindN k (fx.take (i + 1)) = kindN k (fx.take i) ++ (if f.kind = k then [f.row] else []) := by
  unfold kindN
  rw [List.take_add_one, h, Option.toList_some, List.filter_append, List.map_append]
  by_cases hb : f.kind = k <;> simp [hb]
theorem kindN_any (k : Str) (fx : List Fix) (x : Int) : (kindN k fx).any (· == x) = fx.any fun f => decide (f.kind = k ∧ f.row = x) := by
  unfold kindN
  rw [List.any_map, List.any_filter]
  congr 1
  funext f
  by_cases h1 : f.kind = k <;> by_cases h2 : f.row = x <;> simp [h1, h2]
theorem away_any {rows : List Row} {k : Nat} {r : Row} (h : rows[k]? = some r) : (kindN (Str.ofString "call") (fixes rows)).any (· == (k : Int)) = isImp r := (kindN_any _ _ _).trans (calls_at h)
theorem held_any {rows : List Row} {k : Nat} {r : Row} (h : rows[k]? = some r) : (kindN (Str.ofString "addr") (fixes rows)).any (· == (k : Int)) = isAddr r := by
  rw [kindN_any, ← addrs_at h]
  apply Bool.eq_iff_iff.mpr
  rw [List.any_eq_true, List.any_eq_true]
  constructor
  · rintro ⟨f, hf, hq⟩
    have hq := of_decide_eq_true hq
    refine ⟨f, hf, decide_eq_true ⟨hq.1, ?_, hq.2⟩⟩
    obtain ⟨k', r', _, hx, _⟩ := fixes_mem hf
    cases r' with
    | plain d => cases d <;> simp [fixOf] at hx; subst hx; rfl
    | imp => simp [fixOf] at hx; subst hx; exact absurd (show Str.ofString "call" = Str.ofString "addr" from hq.1) (by decide)
    | addr t => simp [fixOf] at hx; subst hx; rfl
    | _ => simp [fixOf] at hx
  · rintro ⟨f, hf, hq⟩
    have hq := of_decide_eq_true hq
    exact ⟨f, hf, decide_eq_true ⟨hq.1, hq.2.2⟩⟩
theorem kindN_len (k : Str) (fx : List Fix) : (kindN k fx).length ≤ fx.length := by
  unfold kindN
  rw [List.length_map]
  exact List.length_filter_le _ _

theorem cnt_le (ks : List Bool) (k : Nat) : cnt ks k ≤ k := by
  unfold cnt
  exact Nat.le_trans (List.length_filter_le _ _) (by rw [List.length_take]; omega)
local macro_rules | `(tactic| walk_at "compareOp NotIn int ref") => `(tactic| (k_here; k_dflt (refine notin_list_ints (News.isList (by k_asm) (by k_mem)) (by with_reducible assumption) ?_; k_whole)))
local macro_rules | `(tactic| walk_at "compareOp In int ref") => `(tactic| (k_here; k_dflt (refine in_list_ints (News.isList (by k_asm) (by k_mem)) (by with_reducible assumption) ?_; k_whole)))
theorem goal_law {w : World} {mean : ExcName → Option Value} {mg mb : Str → Option Value} {dp un : Nat} {gd : Option (List Code)} {cn : Str} {cs : Scope} {L a : Addr} {ccd : Value} {cl : List (Str × Addr)} {outer : List Env} {A₀ : Around} {base h₀ : Heap} {m : Str → Option Value} {s : Shared} {Q E : Value → Shared → Prop} {HK : Heap} {la : Addr} {vs : List Value} {ks : List Bool} {old : Int} {t : Tok} {q : Nat} {tl news : List (Addr × Obj)}
    (B : Below A₀ base outer h₀) (F : Fr h₀ L s.heap m) (X : (Mine.hd.heap_1 w.params).In h₀) (T : Top Mine.hd.view_1 (looseW Mine.hd.view_1 []) mean mg mb h₀) (hk : cs.kind = .function) (hd : dp ≤ 500) (hu : un ≤ 500) (N : News h₀ L s.heap news) (kk : KIn HK h₀ tl) (hs : ∀ p ∈ tl, p ∈ news) (hl : HK.IsList la vs.toArray) (hi : IntsAre vs (stayN ks ks.length)) (hn : ks.length ≤ 1000) (ho : old = (q : Int)) (hq : q ≤ ks.length)
    (ret : ∀ h' tk t', Fr h₀ L h' m → News h₀ L h' news → Q (.int (cnt ks q : Nat) t') { s with heap := h', toks := tk }) :
    wpAny (model PySem.Challenge.rw_nu0316_01.row.prog w) (ktrTop dp un gd cn cs L a ccd cl outer) (call (.ref 131) [.ref la, .int old t]) Q E s := by
  subst ho
  have hlen := stayN_len ks ks.length (Nat.le_refl _)
  have hcn := cnt_le ks ks.length
  refine goal_ok B F X T hk hd hu (stays_list (kk.le F N hs) hl) hi (by omega) fun r h' tk keep h => ?_
  obtain ⟨t', rfl⟩ := h
  have k' : ∀ b o, s.heap.get? b = some o → h'.get? b = some o := fun b o e => keep b o e (by simp)
  rw [goalN_stay ks hq]
  exact ret h' tk t' (F.keeps k') (N.grown k')

section
variable {prog : Program} {w : World} {A : Around} {E : Value → Shared → Prop} {s : Shared}
theorem sliceApplied_p {sl : Addr} {vl vu : Value} {lo hi : Option Int} {n l0 h0 : Int} {Q : Int × Int × Nat → Shared → Prop} (hs : s.heap.IsSliceOf sl vl vu .none) (pl : IsPart vl lo) (pu : IsPart vu hi) (hb : Builtin.Slice.sliceAdjust lo hi 1 n = (l0, h0)) (h : Q (l0, 1, Builtin.Slice.slicePlaces l0 h0 1) s) :
    wpAny (model prog w) A (Builtin.Slice.sliceApplied (.ref sl) (pure n)) Q E s := by
  obtain ⟨os, hos, hcs, hds⟩ := id hs
  unfold Builtin.Slice.sliceApplied Builtin.Slice.sliceFields
  refine wpAny_bind (wpAny_bind (wpAny_field hos hds (x := vl) rfl (wpAny_bind (wpAny_field hos hds (x := vu) rfl (wpAny_bind (wpAny_field hos hds (x := .none) rfl (wpAny_pure ?_)))))))
  refine wpAny_bind (slicePart_none ?_)
  show wpAny _ _ (if ((1 : Int) == 0) = true then _ else _) _ _ s
  rw [if_neg (by decide)]
  have fin : wpAny (model prog w) A (match Builtin.Slice.sliceAdjust lo hi 1 n with | (a, b) => (pure (a, (1 : Int), Builtin.Slice.slicePlaces a b 1) : Sem (Int × Int × Nat))) Q E s := by
    rw [hb]
    exact wpAny_pure h
  cases pl with
  | none =>
    cases pu with
    | none => exact wpAny_bind (slicePart_none (wpAny_bind (slicePart_none (wpAny_bind (wpAny_pure fin)))))
    | int j u => exact wpAny_bind (slicePart_none (wpAny_bind (slicePart_int (wpAny_bind (wpAny_pure fin)))))
  | int i t =>
    cases pu with
    | none => exact wpAny_bind (slicePart_int (wpAny_bind (slicePart_none (wpAny_bind (wpAny_pure fin)))))
    | int j u => exact wpAny_bind (slicePart_int (wpAny_bind (slicePart_int (wpAny_bind (wpAny_pure fin)))))
theorem getItem_tupP {t sl : Addr} {items : Array Value} {vl vu : Value} {lo hi : Option Int} {k n0 : Nat} {l0 h0 : Int} {zs : List Value} {Q : Value → Shared → Prop} (ht : IsTup s.heap t items) (hs : s.heap.IsSliceOf sl vl vu .none) (pl : IsPart vl lo) (pu : IsPart vu hi)
    (hk : items.size = k) (hb : Builtin.Slice.sliceAdjust lo hi 1 (k : Int) = (l0, h0)) (hn : Builtin.Slice.slicePlaces l0 h0 1 = n0) (hno : (l0 == 0 && n0 == k) = false) (e : (List.range n0).filterMap (fun (j : Nat) => items[(l0 + (j : Int) * 1).toNat]?) = zs) (hz : zs.length ≤ 1000)
    (h : Q (.ref s.heap.objs.size) { s with heap := s.heap.push { cls := .type "tuple", data := .seq zs.toArray } }) : wpAny (model prog w) A (getItem (.ref t) (.ref sl)) Q E s := by
  have hdrop : sizeOk (.seq zs.toArray) := by
    show zs.toArray.size ≤ sizeLine
    rw [List.size_toArray, sizeLine_eq]
    omega
  obtain ⟨os, hos, hcs, hds⟩ := id hs
  have hTs : s.TypeIs (.ref sl) "slice" := ⟨os, hos, hcs⟩
  unfold getItem
  try with_reducible refine wpAny_holding ?_
  first | refine wpAny_bind (wpAny_pure ?_) | skip
  refine wpAny_bind (wpAny_sequenceKey ht.typeIs (by decide) ?_)
  refine wpAny_bind (wpAny_callSpecial?_slot (name := Str.ofString "__getitem__") ht.typeIs slot_tuple_getitem
    (wpAny_call_entry slot_tuple_getitem ht.typeIs entry_tuple_getitem ?_ (args_tuple_getitem _ _)))
  show wpAny _ _ (Builtin.Tuple.tupleItemsOf (.ref t) >>= _) _ _ s
  refine wpAny_bind (tupleItemsOf_ ht ?_)
  refine wpAny_bind (wpAny_typeOf hTs ?_)
  rw [if_pos (by decide), hk]
  refine wpAny_bind (sliceApplied_p hs pl pu hb ?_)
  rw [hn]
  have hno' : ¬ ((l0 == 0 && (1 : Int) == 1 && n0 == k) = true) := by
    intro q
    rw [show ((1 : Int) == 1) = true from rfl, Bool.and_true, hno] at q
    cases q
  show wpAny _ _ (if (l0 == 0 && (1 : Int) == 1 && n0 == k) = true then _ else _) _ _ s
  rw [if_neg hno', e]
  first
    | exact wpAny_bind (m := Builtin.Tuple.tupleExact _) (wpAny_newObj_type (wpAny_pure ⟨_, rfl, wpAny_pure h⟩) hdrop)
    | exact wpAny_bind (m := Builtin.Tuple.tupleExact _) (wpAny_newObj_type (wpAny_bind (wpAny_pure (wpAny_pure ⟨_, rfl, wpAny_pure h⟩))) hdrop)
    | exact wpAny_bind (wpAny_bind (m := Builtin.Tuple.tupleExact _) (wpAny_newObj_type (wpAny_pure (wpAny_pure ⟨_, rfl, wpAny_pure h⟩)) hdrop))
    | exact wpAny_bind (wpAny_bind (m := Builtin.Tuple.tupleExact _) (wpAny_newObj_type (wpAny_pure ⟨_, rfl, wpAny_pure h⟩) hdrop))
end
section
variable {prog : Program} {w : World} {A : Around} {E : Value → Shared → Prop} {s : Shared} {h₀ : Heap} {L : Addr} {m : Str → Option Value} {news : List (Addr × Obj)}
theorem slice_tupP {value slice : PySem.Expr} {t : Addr} {items : Array Value} {vl vu : Value} {lo hi : Option Int} {k n0 : Nat} {l0 h0 : Int} {zs : List Value} {Q : Value → Shared → Prop}
    (F : Fr h₀ L s.heap m) (N : News h₀ L s.heap news) (ht : IsTup s.heap t items) (pl : IsPart vl lo) (pu : IsPart vu hi)
    (hk : items.size = k) (hb : Builtin.Slice.sliceAdjust lo hi 1 (k : Int) = (l0, h0)) (hn : Builtin.Slice.slicePlaces l0 h0 1 = n0) (hno : (l0 == 0 && n0 == k) = false) (e : (List.range n0).filterMap (fun (j : Nat) => items[(l0 + (j : Int) * 1).toNat]?) = zs) (hz : zs.length ≤ 1000)
    (hs : subscripted slice false (.ref t) (.ref s.heap.objs.size) = operate [.ref s.heap.objs.size, .ref t] (getItem (.ref t) (.ref s.heap.objs.size)))
    (hg : ∀ r, letTemporaryGo value (.ref t) r = pure ())
    (h : ∀ D h', Fr h₀ L h' m → News h₀ L h' ((D, { cls := .type "tuple", data := .seq zs.toArray }) :: news) → (∀ p ∈ news, p.1 < D) → Q (.ref D) { s with heap := h' }) :
    wpAny (model prog w) A (subscriptTail value slice (.ref t) (.ref s.heap.objs.size)) Q E { s with heap := s.heap.push { cls := .type "slice", data := .fields #[vl, vu, .none] } } := by
  have ht' : IsTup (s.heap.push { cls := .type "slice", data := .fields #[vl, vu, .none] }) t items := ht.keeps fun _ _ e => Heap.get?_push_of_some _ e
  refine subscriptTail_ops (s := { s with heap := s.heap.push { cls := .type "slice", data := .fields #[vl, vu, .none] } }) ht'.typeIs slot_tuple_getitem.lookup
    (getItem_tupP ht' (Heap.IsSliceOf.new ..) pl pu hk hb hn hno e hz ?_) hs hg
  have N1 := News.push (F.push { cls := .type "slice", data := .fields #[vl, vu, .none] }) (N.grown fun _ _ e => Heap.get?_push_of_some _ e) { cls := .type "tuple", data := .seq zs.toArray }
  rw [Heap.size_push] at N1
  show Q (.ref (s.heap.push _).objs.size) _
  rw [Heap.size_push]
  exact h _ _ ((F.push _).push _) N1 fun p hp => Nat.lt_succ_of_lt (Heap.lt_size (N p hp).1)
end
theorem part_take {vs : List Value} {n : Nat} (hl : vs.length = n) (h3 : 3 ≤ n) : (List.range 3).filterMap (fun (j : Nat) => vs.toArray[((0 : Int) + (j : Int) * 1).toNat]?) = vs.take 3 := by
  match vs, hl with
  | a :: b :: c :: r, _ => rfl
  | [], e => simp at e; omega
  | [_], e => simp at e; omega
  | [_, _], e => simp at e; omega
theorem part_drop {vs : List Value} (hl : vs.length = 13) : (List.range 3).filterMap (fun (j : Nat) => vs.toArray[((4 : Int) + (j : Int) * 1).toNat]?) = (vs.drop 4).take 3 := by
  have e : vs = vs.take 4 ++ vs.drop 4 := (List.take_append_drop 4 vs).symm
  have l4 : (vs.take 4).length = 4 := by rw [List.length_take]; omega
  have key : ∀ j : Nat, vs.toArray[((4 : Int) + (j : Int) * 1).toNat]? = (vs.drop 4)[j]? := fun j => by
    rw [show ((4 : Int) + (j : Int) * 1).toNat = 4 + j by omega, List.getElem?_toArray, List.getElem?_drop]
  simp only [key]
  generalize hd : vs.drop 4 = r
  have hr : r.length = 9 := by rw [← hd, List.length_drop]; omega
  match r, hr with
  | a :: b :: c :: r, _ => rfl
  | [], e => simp at e
  | [_], e => simp at e
  | [_, _], e => simp at e
section
variable {prog : Program} {w : World} {A : Around} {E : Value → Shared → Prop} {s : Shared} {h₀ : Heap} {L : Addr} {m : Str → Option Value} {news : List (Addr × Obj)}
theorem slice4 {value slice : PySem.Expr} {t : Addr} {v0 v1 v2 v3 : Value} {tu : Tok} {hh : Heap} {gens : _} {drawn : _} {tk : _} {os : _} {Q : Value → Shared → Prop} (F : Fr h₀ L hh m) (N : News h₀ L hh news) (ht : IsTup hh t #[v0, v1, v2, v3])
    (hs : subscripted slice false (.ref t) (.ref hh.objs.size) = operate [.ref hh.objs.size, .ref t] (getItem (.ref t) (.ref hh.objs.size))) (hg : ∀ r, letTemporaryGo value (.ref t) r = pure ())
    (h : ∀ D h', Fr h₀ L h' m → News h₀ L h' ((D, { cls := .type "tuple", data := .seq (List.toArray [v1, v2, v3]) }) :: news) → (∀ p ∈ news, p.1 < D) → Q (.ref D) (Shared.mk h' gens drawn tk os)) :
    wpAny (model prog w) A (subscriptTail value slice (.ref t) (.ref hh.objs.size)) Q E (Shared.mk (hh.push { cls := .type "slice", data := .fields #[.int 1 tu, .none, .none] }) gens drawn tk os) :=
  slice_tupP (s := Shared.mk hh gens drawn tk os) (zs := [v1, v2, v3]) (k := 4) (l0 := 1) (h0 := 4) (n0 := 3) F N ht (.int _ _) .none rfl (by decide) (by decide) (by decide) rfl (Nat.le_of_ble_eq_true rfl) hs hg h
theorem slice13a {value slice : PySem.Expr} {t : Addr} {vs : List Value} {tu : Tok} {hh : Heap} {gens : _} {drawn : _} {tk : _} {os : _} {Q : Value → Shared → Prop} (F : Fr h₀ L hh m) (N : News h₀ L hh news) (ht : IsTup hh t vs.toArray) (hl : vs.length = 13)
    (hs : subscripted slice false (.ref t) (.ref hh.objs.size) = operate [.ref hh.objs.size, .ref t] (getItem (.ref t) (.ref hh.objs.size))) (hg : ∀ r, letTemporaryGo value (.ref t) r = pure ())
    (h : ∀ D h', Fr h₀ L h' m → News h₀ L h' ((D, { cls := .type "tuple", data := .seq (List.toArray (vs.take 3)) }) :: news) → (∀ p ∈ news, p.1 < D) → Q (.ref D) (Shared.mk h' gens drawn tk os)) :
    wpAny (model prog w) A (subscriptTail value slice (.ref t) (.ref hh.objs.size)) Q E (Shared.mk (hh.push { cls := .type "slice", data := .fields #[.none, .int 3 tu, .none] }) gens drawn tk os) :=
  slice_tupP (s := Shared.mk hh gens drawn tk os) (zs := vs.take 3) (k := 13) (l0 := 0) (h0 := 3) (n0 := 3) F N ht .none (.int _ _) (by rw [List.size_toArray, hl]) (by decide) (by decide) (by decide) (part_take hl (by decide)) (by rw [List.length_take]; omega) hs hg h
theorem slice13b {value slice : PySem.Expr} {t : Addr} {vs : List Value} {tu tv : Tok} {hh : Heap} {gens : _} {drawn : _} {tk : _} {os : _} {Q : Value → Shared → Prop} (F : Fr h₀ L hh m) (N : News h₀ L hh news) (ht : IsTup hh t vs.toArray) (hl : vs.length = 13)
    (hs : subscripted slice false (.ref t) (.ref hh.objs.size) = operate [.ref hh.objs.size, .ref t] (getItem (.ref t) (.ref hh.objs.size))) (hg : ∀ r, letTemporaryGo value (.ref t) r = pure ())
    (h : ∀ D h', Fr h₀ L h' m → News h₀ L h' ((D, { cls := .type "tuple", data := .seq (List.toArray ((vs.drop 4).take 3)) }) :: news) → (∀ p ∈ news, p.1 < D) → Q (.ref D) (Shared.mk h' gens drawn tk os)) :
    wpAny (model prog w) A (subscriptTail value slice (.ref t) (.ref hh.objs.size)) Q E (Shared.mk (hh.push { cls := .type "slice", data := .fields #[.int 4 tu, .int 7 tv, .none] }) gens drawn tk os) :=
  slice_tupP (s := Shared.mk hh gens drawn tk os) (zs := (vs.drop 4).take 3) (k := 13) (l0 := 4) (h0 := 7) (n0 := 3) F N ht (.int _ _) (.int _ _) (by rw [List.size_toArray, hl]) (by decide) (by decide) (by decide) (part_drop hl) (by rw [List.length_take]; omega) hs hg h
end
local macro_rules | `(tactic| walk_at "call type:list") => `(tactic| (k_here; (with_reducible show wpAny _ _ (call (Value.type "list") [Value.ref _]) _ _ _); k_dflt (refine list_copyK (by k_asm) (by k_asm) (stays_list (KIn.le (by with_reducible assumption) (by k_asm) (by k_asm) (by walk_at "m:sub")) (by with_reducible assumption)) ?_ (by walk_at "m:size"); k_whole); intro D' c' h' F' N' l1; (try k_lt l1); (try k_sweep)))
theorem di_list {h : Heap} {l : Addr} {us : List Value} {ds : List Dat} (hl : h.IsList l us.toArray) (hd : DIs (Hp h) us ds) : DI (Hp h) (.ref l) (.list ds) := let ⟨_, e, hc, _, he⟩ := hl; .list e hc he hd
section
variable {prog : Program} {w : World} {A : Around} {E : Value → Shared → Prop} {s : Shared} {env : Env} {h₀ : Heap} {x : Str} {body : List Stmt} {Q : Flow → Shared → Prop}
/-- a loop over a list of the ledger that only reads -/
theorem loopLN {l : Addr} {vs : List Value} {nn : Nat} {m₀ : Str → Option Value} {news : List (Addr × Obj)} (stored : List Str)
    (hh : A.handled = none) (hl : (l, listOf vs.toArray nn) ∈ news) (F : Fr h₀ env.locals s.heap m₀) (N : News h₀ env.locals s.heap news)
    (turn : ∀ tl (i : Nat) v (u : Str → Option Value) h tk own, vs[i]? = some v → KdSep own tl (news.map (·.1)) → OwnOff (tl ++ own) (news.map (·.1)) →
      Fr h₀ env.locals h (fun y => if y = x then some v else if stored.contains y then u y else m₀ y) → News h₀ env.locals h (news ++ (tl ++ own)) →
      wpAny (model prog w) A (execs body env) (InvPostG h₀ env.locals (KdS (fun _ : Unit => []) news (fun _ => []) (fun _ _ => True) x stored m₀ (fun (_ : Nat) _ => True) (news.map (·.1)) (i + 1)) own { s with heap := h, toks := tk } Q) E { s with heap := h, toks := tk })
    (done : ∀ tl (u : Str → Option Value) h tk, OwnOff tl (news.map (·.1)) → Fr h₀ env.locals h (fun y => if y = x then u y else if stored.contains y then u y else m₀ y) → News h₀ env.locals h (news ++ tl) → Q .next { s with heap := h, toks := tk }) :
    wpAny (model prog w) A (pyIter (.ref l)) (fun it s₂ => LoopAtV prog w A h₀ env x body Q E it s₂) E s :=
  loopL (fun _ : Unit => []) news (fun _ => []) (fun _ _ => True) stored (fun _ _ => True) (news.map (·.1)) () hh hl F N (fun p hp => by simpa using hp) (fun _ => rfl) trivial (fun p hp => nomatch hp) trivial
    (fun _ tl i v u h tk own hv sep off _ _ F' N' => turn tl i v u h tk own hv sep off F' (by simpa using N')) (fun _ tl u h tk off _ _ F' N' => done tl u h tk off F' (by simpa using N'))
end
theorem ent_ok (x : Int) : kqdOk 9 (.list [.tuple [.str (Str.ofString "data"), .int 8], .tuple [.str (Str.ofString "code"), .int x]]) = true := by
  have s3 : PyData.strOk (Str.ofString "data") = true := by decide +kernel
  have s4 : PyData.strOk (Str.ofString "code") = true := by decide +kernel
  simp only [kqdOk, List.all_cons, List.all_nil, Bool.and_true, Bool.true_and, Bool.and_self, s3, s4]
theorem AttK.two {K : Heap} {prog : Program} {w : World} {es : List DictEntry} {n : Str} {a b : Int} (x : AttK (PySem.strKind prog w) K es n [(Str.ofString "Go", .int a), (Str.ofString "Run", .int b)]) :
    ∃ d ta tb, getL n es = some (some (Value.ref d)) ∧ K.DictOf (PySem.strKind prog w) d [(Str.ofString "Go", Value.int a ta), (Str.ofString "Run", Value.int b tb)] := by
  obtain ⟨d, kvs, e, _, hd, hk⟩ := x
  cases hk with
  | cons y1 z1 => cases z1 with
    | cons y2 z2 =>
      cases z2; cases y1; cases y2
      exact ⟨d, _, _, e, hd⟩
theorem two_go (a b : Int) (ta tb : Tok) : valueAt [(Str.ofString "Go", Value.int a ta), (Str.ofString "Run", Value.int b tb)] (Str.ofString "Go") = some (Value.int a ta) := rfl
theorem two_run (a b : Int) (ta tb : Tok) : valueAt [(Str.ofString "Go", Value.int a ta), (Str.ofString "Run", Value.int b tb)] (Str.ofString "Run") = some (Value.int b tb) := rfl

theorem DIs.take {G : Addr → Obj → Prop} : ∀ {vs : List Value} {ds : List Dat} (n : Nat), DIs G vs ds → DIs G (vs.take n) (ds.take n)
  | _, _, 0, _ => by simp only [List.take_zero]; exact .nil
  | _, _, _ + 1, .nil => .nil
  | _, _, n + 1, .cons h r => .cons h (r.take n)
theorem DIs.drop {G : Addr → Obj → Prop} : ∀ {vs : List Value} {ds : List Dat} (n : Nat), DIs G vs ds → DIs G (vs.drop n) (ds.drop n)
  | _, _, 0, h => h
  | _, _, _ + 1, .nil => .nil
  | _, _, n + 1, .cons _ r => r.drop n
/-- what the law's look at an object holds -/
theorem seen_parts {K : Heap} {r : Value} {o : OD} {P : Prop} (h : DI (Hp K) r (seenD o)) (k : ∀ (a : Addr) (vs : List Value) (v9 : Value), r = .ref a → IsTup K a vs.toArray → vs.length = 13 → vs[9]? = some v9 → DIs (Hp K) (vs.take 3) [o.name, o.key, .list o.imports] → DIs (Hp K) ((vs.drop 4).take 3) [o.dsize, .list o.words, .list o.dfix] → DI (Hp K) v9 (.list o.pointers) → P) : P := by
  unfold seenD at h
  cases h with
  | tuple ha hc he hds =>
    obtain ⟨v9, e9, h9⟩ := hds.get (k := 9) rfl
    exact k _ _ v9 rfl ⟨_, ha, hc, _, he⟩ hds.length e9 (hds.take 3) ((hds.drop 4).take 3) h9
theorem head_ok : kqdOk 9 (.tuple [.str (Str.ofString "M"), .int 7, .list [.tuple [.str (Str.ofString "N"), .int 9]]]) = true := by decide +kernel
theorem data_ok : kqdOk 9 (.tuple [.int 16, .list [.tuple [.int 0, .int 5]], .list [.tuple [.int 4, .int 0, .int 0]]]) = true := by decide +kernel
theorem point_ok : kqdOk 9 (.list [.int 12]) = true := by decide +kernel
theorem due_ok (ks : List Bool) (rows : List Row) : kqdOk 9 (.list ((newMaps ks (mk rows)).map fun p => Dat.tuple [.int p.1, p.2])) = true := by
  have h := maps_okd 6 (newMaps ks (mk rows)) (newMaps_val ks (mk rows))
  generalize (newMaps ks (mk rows)).map (fun p => Dat.tuple [.int p.1, p.2]) = l at h
  exact h

set_option maxHeartbeats 16000000 in
theorem lawx : PySem.Challenge.rw_nu0316_01.row.Holds := Mine.hd (by
  w_top off
  k_fill
  intro w s₀ s₁ mg mb G Y fa o pm cd doc dV kV ho hd hcd hD hmg hg args vals as hpre hlay hrd hwl hlo
  have KX := kIn_of Y
  have X := (Ground.X G).1
  refine Ground.open G ?_
  intro T B D TE TW
  clear D
  obtain ⟨_, _, he, B0⟩ := based_of_top T rfl hmg ho hd
  cases he
  clear hmg
  wrow_args hpre hlay hrd hwl hlo
  first | refine callC_kw (enter_call ?_) | refine enter_call ?_
  w_top on
  try refine codeAny_mono ?_ (fun _ _ g => GoodW.toG g)
  have K0 := below_caller (Top.heap T)
  w_call any ho hd hcd hD T F
  clear hd
  k_drop
  w_top off
  (all_goals try k_fold)
  rename CellsAre _ _ _ => Y0
  clear Y0
  (first | ((try k_unmd); (try k_fold); repeat' (first | (k_unfold; (try dsimp only)) | (first | ((with_reducible show wpAny _ _ (call (Value.ref 131) _) _ _ _); k_here; k_dflt (refine goal_law (by k_asm) (by k_asm) (by k_asm) (by k_asm) (by rfl) (by (first | decide | ((try dsimp only [ktrTop, Around.deeper, Around.in1]); omega) | fail)) (by (first | decide | ((try dsimp only [ktrTop, Around.deeper, Around.in1]); omega) | fail)) (by k_asm) (by with_reducible assumption) (by (first | (intro p hp; first | (with_reducible (repeat' (first | exact hp | exact List.mem_append_left _ hp | exact List.mem_append_right _ hp | refine List.mem_cons_of_mem _ ?_)); done) | ((simp only [List.nil_append, List.cons_append, List.append_nil, List.append_assoc, List.mem_cons, List.mem_append, List.not_mem_nil, or_false, false_or] at hp ⊢); first | done | grind)) | fail)) (by with_reducible assumption) (by with_reducible assumption) (by omega) (by first | (with_reducible assumption) | rfl | fail) (by first | (with_reducible assumption) | omega | fail) ?_; k_whole); intro h' tk' t' F' N'; (try k_sweep)) | ((with_reducible show wpAny _ _ (call (Value.ref 112) _) _ _ _); k_here; k_dflt (refine draw_at (by k_asm) (by k_asm) (by k_asm) (by k_asm) (by rfl) (by (first | decide | ((try dsimp only [ktrTop, Around.deeper, Around.in1]); omega) | fail)) (by (first | decide | ((try dsimp only [ktrTop, Around.deeper, Around.in1]); omega) | fail)) (by k_asm) (by k_updF) (by with_reducible assumption) (by with_reducible assumption) (by omega) (by omega) ?_; k_whole); intro h' tk' vs' n' ns' x' t' F' N' hi' hl' x1'; (try k_sweep)) | ((with_reducible show wpAny _ _ (subscriptTail _ _ (Value.ref _) (Value.str _ _)) _ _ _); k_here; k_dflt (refine bd_item (knd := PySem.strKind _ _) (by k_asm) (by with_reducible assumption) (strKind_is _ _ _ _) (by with_reducible assumption) ?_ (by with_unfolding_all rfl); k_whole)) | ((with_reducible show wpAny _ _ (subscriptTail _ _ (Value.ref _) (Value.int _ _)) _ _ _); k_here; k_dflt (refine bd_item (knd := PySem.intKind _ _) (by k_asm) (by with_reducible assumption) (intKind_is _ _ _ _) (by with_reducible assumption) ?_ (by with_unfolding_all rfl); k_whole)) | fail) | ((first | (fail_if_success (with_reducible first | show wpAny _ _ (call (Value.ref _) _) _ _ _ | show wpAny _ _ (exec (Stmt.While _ _ _ _) _) _ _ _ | show wpAny _ _ (exec (Stmt.For _ _ _ _ _) _) _ _ _ | show wpAny _ _ (pyIter _) _ _ _ | show wpAny _ _ (setItem _ _ _) _ _ _ | show wpAny _ _ (eval (Expr.ListComp _ _ _ _) _) _ _ _ | show wpAny _ _ (exec (Stmt.Assign _ (Expr.ListComp _ _ _ _) _) _) _ _ _ | show InvPostG _ _ _ _ _ _ _ _ | show InvEndG _ _ _ _ _ _ | show OnG _ _ _ _ _ _ _ | show Fin _ _ _ _ _ _ | show KswEnd _ _ _ _ _ _ _ _ _ _ _ _ | show wpAny _ _ (call (Value.builtin "sorted") _) _ _ _ | show LCg.CompEnd _ _ _ _ _ _ _ _ _ _ _ _ _ _ | show LCg.CompSrc _ _ _ _ _ _ _ _ _ _ _ _ _ _ | show LCt.CompSrcT _ _ _ _ _ _ _ _ _ _ _ _ _ _ _)) | fail); first | walk1 | (dsimp only; (try k_fold); (first | (fail_if_success (with_reducible first | show wpAny _ _ (call (Value.ref _) _) _ _ _ | show wpAny _ _ (exec (Stmt.While _ _ _ _) _) _ _ _ | show wpAny _ _ (exec (Stmt.For _ _ _ _ _) _) _ _ _ | show wpAny _ _ (pyIter _) _ _ _ | show wpAny _ _ (setItem _ _ _) _ _ _ | show wpAny _ _ (eval (Expr.ListComp _ _ _ _) _) _ _ _ | show wpAny _ _ (exec (Stmt.Assign _ (Expr.ListComp _ _ _ _) _) _) _ _ _ | show InvPostG _ _ _ _ _ _ _ _ | show InvEndG _ _ _ _ _ _ | show OnG _ _ _ _ _ _ _ | show Fin _ _ _ _ _ _ | show KswEnd _ _ _ _ _ _ _ _ _ _ _ _ | show wpAny _ _ (call (Value.builtin "sorted") _) _ _ _ | show LCg.CompEnd _ _ _ _ _ _ _ _ _ _ _ _ _ _ | show LCg.CompSrc _ _ _ _ _ _ _ _ _ _ _ _ _ _ | show LCt.CompSrcT _ _ _ _ _ _ _ _ _ _ _ _ _ _ _)) | fail); walk1)) | (leave1; walk_say "STEP leave1"; try dsimp only) | fail "no step")) | fail)
  rename IntsAre _ _ => hI; rename Heap.IsList _ _ _ => hL; rename ¬ _ < _ => hlen
  have hvl := hI.length
  rename Fr _ _ _ _ => F1; rename News _ _ _ _ => N1
  k_dflt refine figs_ok (by k_asm) (by k_asm) (by k_asm) (by k_asm) rfl (by decide) (by decide) (stays_list F1.keep hL) hI (by omega) (after F1 N1 ?_)
  rintro r1 h1 tk1 F2 N2 K2 ⟨fa, us, fn, zs, rfl, ffr, fobj, fI, flen⟩
  have ltf := adopt_ne N1 ffr
  have ltf' := neAll_of ltf
  dsimp only [List.map] at ltf'
  replace N2 := adopt F1 N2 ffr fobj
  clear K2 ffr fobj
  (try dsimp only)
  (first | ((try k_unmd); (try k_fold); repeat' (first | (k_unfold; (try dsimp only)) | (first | ((with_reducible show wpAny _ _ (call (Value.ref 131) _) _ _ _); k_here; k_dflt (refine goal_law (by k_asm) (by k_asm) (by k_asm) (by k_asm) (by rfl) (by (first | decide | ((try dsimp only [ktrTop, Around.deeper, Around.in1]); omega) | fail)) (by (first | decide | ((try dsimp only [ktrTop, Around.deeper, Around.in1]); omega) | fail)) (by k_asm) (by with_reducible assumption) (by (first | (intro p hp; first | (with_reducible (repeat' (first | exact hp | exact List.mem_append_left _ hp | exact List.mem_append_right _ hp | refine List.mem_cons_of_mem _ ?_)); done) | ((simp only [List.nil_append, List.cons_append, List.append_nil, List.append_assoc, List.mem_cons, List.mem_append, List.not_mem_nil, or_false, false_or] at hp ⊢); first | done | grind)) | fail)) (by with_reducible assumption) (by with_reducible assumption) (by omega) (by first | (with_reducible assumption) | rfl | fail) (by first | (with_reducible assumption) | omega | fail) ?_; k_whole); intro h' tk' t' F' N'; (try k_sweep)) | ((with_reducible show wpAny _ _ (call (Value.ref 112) _) _ _ _); k_here; k_dflt (refine draw_at (by k_asm) (by k_asm) (by k_asm) (by k_asm) (by rfl) (by (first | decide | ((try dsimp only [ktrTop, Around.deeper, Around.in1]); omega) | fail)) (by (first | decide | ((try dsimp only [ktrTop, Around.deeper, Around.in1]); omega) | fail)) (by k_asm) (by k_updF) (by with_reducible assumption) (by with_reducible assumption) (by omega) (by omega) ?_; k_whole); intro h' tk' vs' n' ns' x' t' F' N' hi' hl' x1'; (try k_sweep)) | ((with_reducible show wpAny _ _ (subscriptTail _ _ (Value.ref _) (Value.str _ _)) _ _ _); k_here; k_dflt (refine bd_item (knd := PySem.strKind _ _) (by k_asm) (by with_reducible assumption) (strKind_is _ _ _ _) (by with_reducible assumption) ?_ (by with_unfolding_all rfl); k_whole)) | ((with_reducible show wpAny _ _ (subscriptTail _ _ (Value.ref _) (Value.int _ _)) _ _ _); k_here; k_dflt (refine bd_item (knd := PySem.intKind _ _) (by k_asm) (by with_reducible assumption) (intKind_is _ _ _ _) (by with_reducible assumption) ?_ (by with_unfolding_all rfl); k_whole)) | fail) | ((first | (fail_if_success (with_reducible first | show wpAny _ _ (call (Value.ref _) _) _ _ _ | show wpAny _ _ (exec (Stmt.While _ _ _ _) _) _ _ _ | show wpAny _ _ (exec (Stmt.For _ _ _ _ _) _) _ _ _ | show wpAny _ _ (pyIter _) _ _ _ | show wpAny _ _ (setItem _ _ _) _ _ _ | show wpAny _ _ (eval (Expr.ListComp _ _ _ _) _) _ _ _ | show wpAny _ _ (exec (Stmt.Assign _ (Expr.ListComp _ _ _ _) _) _) _ _ _ | show InvPostG _ _ _ _ _ _ _ _ | show InvEndG _ _ _ _ _ _ | show OnG _ _ _ _ _ _ _ | show Fin _ _ _ _ _ _ | show KswEnd _ _ _ _ _ _ _ _ _ _ _ _ | show wpAny _ _ (call (Value.builtin "sorted") _) _ _ _ | show LCg.CompEnd _ _ _ _ _ _ _ _ _ _ _ _ _ _ | show LCg.CompSrc _ _ _ _ _ _ _ _ _ _ _ _ _ _ | show LCt.CompSrcT _ _ _ _ _ _ _ _ _ _ _ _ _ _ _)) | fail); first | walk1 | (dsimp only; (try k_fold); (first | (fail_if_success (with_reducible first | show wpAny _ _ (call (Value.ref _) _) _ _ _ | show wpAny _ _ (exec (Stmt.While _ _ _ _) _) _ _ _ | show wpAny _ _ (exec (Stmt.For _ _ _ _ _) _) _ _ _ | show wpAny _ _ (pyIter _) _ _ _ | show wpAny _ _ (setItem _ _ _) _ _ _ | show wpAny _ _ (eval (Expr.ListComp _ _ _ _) _) _ _ _ | show wpAny _ _ (exec (Stmt.Assign _ (Expr.ListComp _ _ _ _) _) _) _ _ _ | show InvPostG _ _ _ _ _ _ _ _ | show InvEndG _ _ _ _ _ _ | show OnG _ _ _ _ _ _ _ | show Fin _ _ _ _ _ _ | show KswEnd _ _ _ _ _ _ _ _ _ _ _ _ | show wpAny _ _ (call (Value.builtin "sorted") _) _ _ _ | show LCg.CompEnd _ _ _ _ _ _ _ _ _ _ _ _ _ _ | show LCg.CompSrc _ _ _ _ _ _ _ _ _ _ _ _ _ _ | show LCt.CompSrcT _ _ _ _ _ _ _ _ _ _ _ _ _ _ _)) | fail); walk1)) | (leave1; walk_say "STEP leave1"; try dsimp only) | fail "no step")) | fail)
  rename Fr _ _ _ _ => F3; rename News _ _ _ _ => N3; rename Obj.data _ = Data.cell (some (Value.ref fa)) => dc1
  have hfl := fI.length
  k_dflt refine object_ok (by k_asm) F3 (by k_asm) (by k_asm) rfl (by decide) (by decide) (fun p hp => N3 p (by rw [List.mem_singleton.mp hp]; exact .head _)) fI (by omega) (after1 F3 N3 ltf ?_)
  rintro r4 h4 tk4 F4 N4 ⟨K, x, es, rows, c₀, gg, rr, b₀, us2, fn2, zs2, rfl, hKa, hO, hfa, hI2, hl2, hn1, hn2, hV, hc, hg, hr, hb⟩
  replace N4 := N4 _ hfa
  obtain ⟨K0, tl, hK0, NT, hoff, hKI⟩ := snap F4 (fa :: _ :: _ :: _ :: _ :: []) (by
    simp only [List.forall_mem_cons, List.not_mem_nil, false_imp_iff, implies_true, and_true]
    exact ⟨(N4 (fa, _) (by k_mem)).2.2, (N3 _ (.tail _ (.head _))).2.2, (N3 _ (.tail _ (.tail _ (.head _)))).2.2, (N3 _ (.tail _ (.tail _ (.tail _ (.head _))))).2.2, (N3 _ (.tail _ (.tail _ (.tail _ (.tail _ (.head _)))))).2.2⟩)
  dsimp only at hK0 hoff
  have hKK : ∀ b o, K.get? b = some o → K0.get? b = some o := into_snap F3 F4 hK0 (fun b o e => ⟨(hKa b o e).1, (hKa b o e).2.2⟩) (by
    have hap : ∀ b o, K.get? b = some o → h4.get? b = some o ∧ _ := fun b o e => ⟨(hKa b o e).1, (hKa b o e).2.2⟩
    simp only [List.forall_mem_cons, List.not_mem_nil, false_imp_iff, implies_true, and_true]
    exact ⟨fun o e => (hKa _ _ e).2.1 rfl, cell_not hap (N4 _ (.tail _ (.head _))).1 (by assumption) (N3 _ (.tail _ (.head _))).1, cell_not hap (N4 _ (.tail _ (.tail _ (.head _)))).1 (by assumption) (N3 _ (.tail _ (.tail _ (.head _)))).1,
      cell_not hap (N4 _ (.tail _ (.tail _ (.tail _ (.head _))))).1 (by assumption) (N3 _ (.tail _ (.tail _ (.tail _ (.head _))))).1, cell_not hap (N4 _ (.tail _ (.tail _ (.tail _ (.tail _ (.head _)))))).1 (by assumption) (N3 _ (.tail _ (.tail _ (.tail _ (.tail _ (.head _)))))).1⟩)
  have O := hO.keeps hKK
  have hKn : ∀ b o, K0.get? b = some o → b ≠ _ ∧ b ∉ [_, _, _, _] := fun b o e => ⟨((hK0 b o).mp e).2.1, fun z => ((hK0 b o).mp e).2.2 (.tail _ z)⟩
  replace N4 := news_both N4 NT
  simp only [List.cons_append, List.nil_append] at N4
  refine fr_any F4 ?_
  clear F4 F3 N3 hKK hO hKa hK0 NT fI hfa K hI hL hvl hlen
  intro m0 F4
  obtain ⟨lr, rvs, hr1, hr2, hr3⟩ := O.rows.list
  have Ob := O.obj
  dsimp only [odOf] at hr3
  (try dsimp only)
  (first | ((try k_unmd); (try k_fold); repeat' (first | (k_unfold; (try dsimp only)) | (first | ((with_reducible show wpAny _ _ (call (Value.ref 131) _) _ _ _); k_here; k_dflt (refine goal_law (by k_asm) (by k_asm) (by k_asm) (by k_asm) (by rfl) (by (first | decide | ((try dsimp only [ktrTop, Around.deeper, Around.in1]); omega) | fail)) (by (first | decide | ((try dsimp only [ktrTop, Around.deeper, Around.in1]); omega) | fail)) (by k_asm) (by with_reducible assumption) (by (first | (intro p hp; first | (with_reducible (repeat' (first | exact hp | exact List.mem_append_left _ hp | exact List.mem_append_right _ hp | refine List.mem_cons_of_mem _ ?_)); done) | ((simp only [List.nil_append, List.cons_append, List.append_nil, List.append_assoc, List.mem_cons, List.mem_append, List.not_mem_nil, or_false, false_or] at hp ⊢); first | done | grind)) | fail)) (by with_reducible assumption) (by with_reducible assumption) (by omega) (by first | (with_reducible assumption) | rfl | fail) (by first | (with_reducible assumption) | omega | fail) ?_; k_whole); intro h' tk' t' F' N'; (try k_sweep)) | ((with_reducible show wpAny _ _ (call (Value.ref 112) _) _ _ _); k_here; k_dflt (refine draw_at (by k_asm) (by k_asm) (by k_asm) (by k_asm) (by rfl) (by (first | decide | ((try dsimp only [ktrTop, Around.deeper, Around.in1]); omega) | fail)) (by (first | decide | ((try dsimp only [ktrTop, Around.deeper, Around.in1]); omega) | fail)) (by k_asm) (by k_updF) (by with_reducible assumption) (by with_reducible assumption) (by omega) (by omega) ?_; k_whole); intro h' tk' vs' n' ns' x' t' F' N' hi' hl' x1'; (try k_sweep)) | ((with_reducible show wpAny _ _ (subscriptTail _ _ (Value.ref _) (Value.str _ _)) _ _ _); k_here; k_dflt (refine bd_item (knd := PySem.strKind _ _) (by k_asm) (by with_reducible assumption) (strKind_is _ _ _ _) (by with_reducible assumption) ?_ (by with_unfolding_all rfl); k_whole)) | ((with_reducible show wpAny _ _ (subscriptTail _ _ (Value.ref _) (Value.int _ _)) _ _ _); k_here; k_dflt (refine bd_item (knd := PySem.intKind _ _) (by k_asm) (by with_reducible assumption) (intKind_is _ _ _ _) (by with_reducible assumption) ?_ (by with_unfolding_all rfl); k_whole)) | fail) | ((first | (fail_if_success (with_reducible first | show wpAny _ _ (call (Value.ref _) _) _ _ _ | show wpAny _ _ (exec (Stmt.While _ _ _ _) _) _ _ _ | show wpAny _ _ (exec (Stmt.For _ _ _ _ _) _) _ _ _ | show wpAny _ _ (pyIter _) _ _ _ | show wpAny _ _ (setItem _ _ _) _ _ _ | show wpAny _ _ (eval (Expr.ListComp _ _ _ _) _) _ _ _ | show wpAny _ _ (exec (Stmt.Assign _ (Expr.ListComp _ _ _ _) _) _) _ _ _ | show InvPostG _ _ _ _ _ _ _ _ | show InvEndG _ _ _ _ _ _ | show OnG _ _ _ _ _ _ _ | show Fin _ _ _ _ _ _ | show KswEnd _ _ _ _ _ _ _ _ _ _ _ _ | show wpAny _ _ (call (Value.builtin "sorted") _) _ _ _ | show LCg.CompEnd _ _ _ _ _ _ _ _ _ _ _ _ _ _ | show LCg.CompSrc _ _ _ _ _ _ _ _ _ _ _ _ _ _ | show LCt.CompSrcT _ _ _ _ _ _ _ _ _ _ _ _ _ _ _)) | fail); first | walk1 | (dsimp only; (try k_fold); (first | (fail_if_success (with_reducible first | show wpAny _ _ (call (Value.ref _) _) _ _ _ | show wpAny _ _ (exec (Stmt.While _ _ _ _) _) _ _ _ | show wpAny _ _ (exec (Stmt.For _ _ _ _ _) _) _ _ _ | show wpAny _ _ (pyIter _) _ _ _ | show wpAny _ _ (setItem _ _ _) _ _ _ | show wpAny _ _ (eval (Expr.ListComp _ _ _ _) _) _ _ _ | show wpAny _ _ (exec (Stmt.Assign _ (Expr.ListComp _ _ _ _) _) _) _ _ _ | show InvPostG _ _ _ _ _ _ _ _ | show InvEndG _ _ _ _ _ _ | show OnG _ _ _ _ _ _ _ | show Fin _ _ _ _ _ _ | show KswEnd _ _ _ _ _ _ _ _ _ _ _ _ | show wpAny _ _ (call (Value.builtin "sorted") _) _ _ _ | show LCg.CompEnd _ _ _ _ _ _ _ _ _ _ _ _ _ _ | show LCg.CompSrc _ _ _ _ _ _ _ _ _ _ _ _ _ _ | show LCt.CompSrcT _ _ _ _ _ _ _ _ _ _ _ _ _ _ _)) | fail); walk1)) | (leave1; walk_say "STEP leave1"; try dsimp only) | fail "no step")) | fail)
  rename Fr _ _ _ _ => F5; rename News _ _ _ _ => N5
  refine wpAny_Assign_Name ?_ (by with_unfolding_all rfl)
  k_dflt (refine LCg.ListComp_U (cl := [(Str.ofString "figures", _)]) (F₀ := F5) (by with_unfolding_all rfl) (by decide) (by rfl) (by decide) (by rfl) ?_)
  (first | ((try k_unmd); (try k_fold); repeat' (first | (k_unfold; (try dsimp only)) | (first | ((with_reducible show wpAny _ _ (call (Value.ref 131) _) _ _ _); k_here; k_dflt (refine goal_law (by k_asm) (by k_asm) (by k_asm) (by k_asm) (by rfl) (by (first | decide | ((try dsimp only [ktrTop, Around.deeper, Around.in1]); omega) | fail)) (by (first | decide | ((try dsimp only [ktrTop, Around.deeper, Around.in1]); omega) | fail)) (by k_asm) (by with_reducible assumption) (by (first | (intro p hp; first | (with_reducible (repeat' (first | exact hp | exact List.mem_append_left _ hp | exact List.mem_append_right _ hp | refine List.mem_cons_of_mem _ ?_)); done) | ((simp only [List.nil_append, List.cons_append, List.append_nil, List.append_assoc, List.mem_cons, List.mem_append, List.not_mem_nil, or_false, false_or] at hp ⊢); first | done | grind)) | fail)) (by with_reducible assumption) (by with_reducible assumption) (by omega) (by first | (with_reducible assumption) | rfl | fail) (by first | (with_reducible assumption) | omega | fail) ?_; k_whole); intro h' tk' t' F' N'; (try k_sweep)) | ((with_reducible show wpAny _ _ (call (Value.ref 112) _) _ _ _); k_here; k_dflt (refine draw_at (by k_asm) (by k_asm) (by k_asm) (by k_asm) (by rfl) (by (first | decide | ((try dsimp only [ktrTop, Around.deeper, Around.in1]); omega) | fail)) (by (first | decide | ((try dsimp only [ktrTop, Around.deeper, Around.in1]); omega) | fail)) (by k_asm) (by k_updF) (by with_reducible assumption) (by with_reducible assumption) (by omega) (by omega) ?_; k_whole); intro h' tk' vs' n' ns' x' t' F' N' hi' hl' x1'; (try k_sweep)) | ((with_reducible show wpAny _ _ (subscriptTail _ _ (Value.ref _) (Value.str _ _)) _ _ _); k_here; k_dflt (refine bd_item (knd := PySem.strKind _ _) (by k_asm) (by with_reducible assumption) (strKind_is _ _ _ _) (by with_reducible assumption) ?_ (by with_unfolding_all rfl); k_whole)) | ((with_reducible show wpAny _ _ (subscriptTail _ _ (Value.ref _) (Value.int _ _)) _ _ _); k_here; k_dflt (refine bd_item (knd := PySem.intKind _ _) (by k_asm) (by with_reducible assumption) (intKind_is _ _ _ _) (by with_reducible assumption) ?_ (by with_unfolding_all rfl); k_whole)) | fail) | ((first | (fail_if_success (with_reducible first | show wpAny _ _ (call (Value.ref _) _) _ _ _ | show wpAny _ _ (exec (Stmt.While _ _ _ _) _) _ _ _ | show wpAny _ _ (exec (Stmt.For _ _ _ _ _) _) _ _ _ | show wpAny _ _ (pyIter _) _ _ _ | show wpAny _ _ (setItem _ _ _) _ _ _ | show wpAny _ _ (eval (Expr.ListComp _ _ _ _) _) _ _ _ | show wpAny _ _ (exec (Stmt.Assign _ (Expr.ListComp _ _ _ _) _) _) _ _ _ | show InvPostG _ _ _ _ _ _ _ _ | show InvEndG _ _ _ _ _ _ | show OnG _ _ _ _ _ _ _ | show Fin _ _ _ _ _ _ | show KswEnd _ _ _ _ _ _ _ _ _ _ _ _ | show wpAny _ _ (call (Value.builtin "sorted") _) _ _ _ | show LCg.CompEnd _ _ _ _ _ _ _ _ _ _ _ _ _ _ | show LCg.CompSrc _ _ _ _ _ _ _ _ _ _ _ _ _ _ | show LCt.CompSrcT _ _ _ _ _ _ _ _ _ _ _ _ _ _ _)) | fail); first | walk1 | (dsimp only; (try k_fold); (first | (fail_if_success (with_reducible first | show wpAny _ _ (call (Value.ref _) _) _ _ _ | show wpAny _ _ (exec (Stmt.While _ _ _ _) _) _ _ _ | show wpAny _ _ (exec (Stmt.For _ _ _ _ _) _) _ _ _ | show wpAny _ _ (pyIter _) _ _ _ | show wpAny _ _ (setItem _ _ _) _ _ _ | show wpAny _ _ (eval (Expr.ListComp _ _ _ _) _) _ _ _ | show wpAny _ _ (exec (Stmt.Assign _ (Expr.ListComp _ _ _ _) _) _) _ _ _ | show InvPostG _ _ _ _ _ _ _ _ | show InvEndG _ _ _ _ _ _ | show OnG _ _ _ _ _ _ _ | show Fin _ _ _ _ _ _ | show KswEnd _ _ _ _ _ _ _ _ _ _ _ _ | show wpAny _ _ (call (Value.builtin "sorted") _) _ _ _ | show LCg.CompEnd _ _ _ _ _ _ _ _ _ _ _ _ _ _ | show LCg.CompSrc _ _ _ _ _ _ _ _ _ _ _ _ _ _ | show LCt.CompSrcT _ _ _ _ _ _ _ _ _ _ _ _ _ _ _)) | fail); walk1)) | (leave1; walk_say "STEP leave1"; try dsimp only) | fail "no step")) | fail)
  have hrl := hr3.length
  rw [rowsD_len] at hrl
  refine compsrc_k (by rfl) F5 N5 hKI (by (first | (intro p hp; first | (with_reducible (repeat' (first | exact hp | exact List.mem_append_left _ hp | exact List.mem_append_right _ hp | refine List.mem_cons_of_mem _ ?_)); done) | ((simp only [List.nil_append, List.cons_append, List.append_nil, List.append_assoc, List.mem_cons, List.mem_append, List.not_mem_nil, or_false, false_or] at hp ⊢); first | done | grind)) | fail)) hr2 (by omega) ?_
  intro g' S hS
  refine compI (fun c : List Value × Nat × List Int => (fa, listOf c.1.toArray c.2.1) :: _ :: _ :: _ :: _ :: tl) (fun i ys c => IntsAre c.1 c.2.2 ∧ c.2.2.length ≤ 1000 ∧ ∃ ks : List Bool, ks.length = i ∧ ys = ks.map Value.bool) (us2, fn2, zs2) ⟨hI2, hl2, [], rfl, rfl⟩ ?_ ?_
  · intro i ys c v I oI C oC D m₂ h tk E' hi hv hJ hC hx F6 N6 off ne
    obtain ⟨vs, n, ns⟩ := c
    obtain ⟨hi8, hl8, ks, hks, rfl⟩ := hJ
    dsimp only at hi8 hl8 N6 off
    have off' := neAll_3 off
    dsimp only [List.map] at off'
    obtain ⟨off1, off2, off3⟩ := off'
    clear F5 N5 hv hi hI2 hl2
    have hKd := kdMark
    (first | ((try k_unmd); (try k_fold); repeat' (first | (k_unfold; (try dsimp only)) | (first | ((with_reducible show wpAny _ _ (call (Value.ref 131) _) _ _ _); k_here; k_dflt (refine goal_law (by k_asm) (by k_asm) (by k_asm) (by k_asm) (by rfl) (by (first | decide | ((try dsimp only [ktrTop, Around.deeper, Around.in1]); omega) | fail)) (by (first | decide | ((try dsimp only [ktrTop, Around.deeper, Around.in1]); omega) | fail)) (by k_asm) (by with_reducible assumption) (by (first | (intro p hp; first | (with_reducible (repeat' (first | exact hp | exact List.mem_append_left _ hp | exact List.mem_append_right _ hp | refine List.mem_cons_of_mem _ ?_)); done) | ((simp only [List.nil_append, List.cons_append, List.append_nil, List.append_assoc, List.mem_cons, List.mem_append, List.not_mem_nil, or_false, false_or] at hp ⊢); first | done | grind)) | fail)) (by with_reducible assumption) (by with_reducible assumption) (by omega) (by first | (with_reducible assumption) | rfl | fail) (by first | (with_reducible assumption) | omega | fail) ?_; k_whole); intro h' tk' t' F' N'; (try k_sweep)) | ((with_reducible show wpAny _ _ (call (Value.ref 112) _) _ _ _); k_here; k_dflt (refine draw_at (by k_asm) (by k_asm) (by k_asm) (by k_asm) (by rfl) (by (first | decide | ((try dsimp only [ktrTop, Around.deeper, Around.in1]); omega) | fail)) (by (first | decide | ((try dsimp only [ktrTop, Around.deeper, Around.in1]); omega) | fail)) (by k_asm) (by k_updF) (by with_reducible assumption) (by with_reducible assumption) (by omega) (by omega) ?_; k_whole); intro h' tk' vs' n' ns' x' t' F' N' hi' hl' x1'; (try k_sweep)) | ((with_reducible show wpAny _ _ (subscriptTail _ _ (Value.ref _) (Value.str _ _)) _ _ _); k_here; k_dflt (refine bd_item (knd := PySem.strKind _ _) (by k_asm) (by with_reducible assumption) (strKind_is _ _ _ _) (by with_reducible assumption) ?_ (by with_unfolding_all rfl); k_whole)) | ((with_reducible show wpAny _ _ (subscriptTail _ _ (Value.ref _) (Value.int _ _)) _ _ _); k_here; k_dflt (refine bd_item (knd := PySem.intKind _ _) (by k_asm) (by with_reducible assumption) (intKind_is _ _ _ _) (by with_reducible assumption) ?_ (by with_unfolding_all rfl); k_whole)) | fail) | ((first | (fail_if_success (with_reducible first | show wpAny _ _ (call (Value.ref _) _) _ _ _ | show wpAny _ _ (exec (Stmt.While _ _ _ _) _) _ _ _ | show wpAny _ _ (exec (Stmt.For _ _ _ _ _) _) _ _ _ | show wpAny _ _ (pyIter _) _ _ _ | show wpAny _ _ (setItem _ _ _) _ _ _ | show wpAny _ _ (eval (Expr.ListComp _ _ _ _) _) _ _ _ | show wpAny _ _ (exec (Stmt.Assign _ (Expr.ListComp _ _ _ _) _) _) _ _ _ | show InvPostG _ _ _ _ _ _ _ _ | show InvEndG _ _ _ _ _ _ | show OnG _ _ _ _ _ _ _ | show Fin _ _ _ _ _ _ | show KswEnd _ _ _ _ _ _ _ _ _ _ _ _ | show wpAny _ _ (call (Value.builtin "sorted") _) _ _ _ | show LCg.CompEnd _ _ _ _ _ _ _ _ _ _ _ _ _ _ | show LCg.CompSrc _ _ _ _ _ _ _ _ _ _ _ _ _ _ | show LCt.CompSrcT _ _ _ _ _ _ _ _ _ _ _ _ _ _ _)) | fail); first | walk1 | (dsimp only; (try k_fold); (first | (fail_if_success (with_reducible first | show wpAny _ _ (call (Value.ref _) _) _ _ _ | show wpAny _ _ (exec (Stmt.While _ _ _ _) _) _ _ _ | show wpAny _ _ (exec (Stmt.For _ _ _ _ _) _) _ _ _ | show wpAny _ _ (pyIter _) _ _ _ | show wpAny _ _ (setItem _ _ _) _ _ _ | show wpAny _ _ (eval (Expr.ListComp _ _ _ _) _) _ _ _ | show wpAny _ _ (exec (Stmt.Assign _ (Expr.ListComp _ _ _ _) _) _) _ _ _ | show InvPostG _ _ _ _ _ _ _ _ | show InvEndG _ _ _ _ _ _ | show OnG _ _ _ _ _ _ _ | show Fin _ _ _ _ _ _ | show KswEnd _ _ _ _ _ _ _ _ _ _ _ _ | show wpAny _ _ (call (Value.builtin "sorted") _) _ _ _ | show LCg.CompEnd _ _ _ _ _ _ _ _ _ _ _ _ _ _ | show LCg.CompSrc _ _ _ _ _ _ _ _ _ _ _ _ _ _ | show LCt.CompSrcT _ _ _ _ _ _ _ _ _ _ _ _ _ _ _)) | fail); walk1)) | (leave1; walk_say "STEP leave1"; try dsimp only) | fail "no step")) | fail)
    rename Fr _ _ _ _ => F7; rename News _ _ _ _ => N7; rename IntsAre _ _ => hi7; rename List.length _ ≤ 1000 => hl7
    exact LCg.CompEnd.intro F7 N7 _ (fun p hp => hp) off (hS _ fun p hp => by repeat' (first | exact hp | refine List.Mem.tail _ ?_)) ⟨(_, _, _), rfl, hi7, hl7, ks ++ [_], by rw [List.length_append, hks]; rfl, (List.map_append (l₁ := ks) (l₂ := [_])).symm⟩
  · intro ys c hJ
    obtain ⟨vs, n, ns⟩ := c
    obtain ⟨-, -, ks, hks, rfl⟩ := hJ
    unfold LCg.FinE
    intro D2 h3 tk3 F6 N6 off6
    dsimp only at N6 off6
    clear F5 N5 hI2 hl2 hS
    have hKd := kdMark
    rw [hrl] at hks
    replace off6 := neAll_of off6
    dsimp only [List.map] at off6
    (try dsimp only)
    (first | ((try k_unmd); (try k_fold); repeat' (first | (k_unfold; (try dsimp only)) | (first | ((with_reducible show wpAny _ _ (call (Value.ref 131) _) _ _ _); k_here; k_dflt (refine goal_law (by k_asm) (by k_asm) (by k_asm) (by k_asm) (by rfl) (by (first | decide | ((try dsimp only [ktrTop, Around.deeper, Around.in1]); omega) | fail)) (by (first | decide | ((try dsimp only [ktrTop, Around.deeper, Around.in1]); omega) | fail)) (by k_asm) (by with_reducible assumption) (by (first | (intro p hp; first | (with_reducible (repeat' (first | exact hp | exact List.mem_append_left _ hp | exact List.mem_append_right _ hp | refine List.mem_cons_of_mem _ ?_)); done) | ((simp only [List.nil_append, List.cons_append, List.append_nil, List.append_assoc, List.mem_cons, List.mem_append, List.not_mem_nil, or_false, false_or] at hp ⊢); first | done | grind)) | fail)) (by with_reducible assumption) (by with_reducible assumption) (by omega) (by first | (with_reducible assumption) | rfl | fail) (by first | (with_reducible assumption) | omega | fail) ?_; k_whole); intro h' tk' t' F' N'; (try k_sweep)) | ((with_reducible show wpAny _ _ (call (Value.ref 112) _) _ _ _); k_here; k_dflt (refine draw_at (by k_asm) (by k_asm) (by k_asm) (by k_asm) (by rfl) (by (first | decide | ((try dsimp only [ktrTop, Around.deeper, Around.in1]); omega) | fail)) (by (first | decide | ((try dsimp only [ktrTop, Around.deeper, Around.in1]); omega) | fail)) (by k_asm) (by k_updF) (by with_reducible assumption) (by with_reducible assumption) (by omega) (by omega) ?_; k_whole); intro h' tk' vs' n' ns' x' t' F' N' hi' hl' x1'; (try k_sweep)) | ((with_reducible show wpAny _ _ (subscriptTail _ _ (Value.ref _) (Value.str _ _)) _ _ _); k_here; k_dflt (refine bd_item (knd := PySem.strKind _ _) (by k_asm) (by with_reducible assumption) (strKind_is _ _ _ _) (by with_reducible assumption) ?_ (by with_unfolding_all rfl); k_whole)) | ((with_reducible show wpAny _ _ (subscriptTail _ _ (Value.ref _) (Value.int _ _)) _ _ _); k_here; k_dflt (refine bd_item (knd := PySem.intKind _ _) (by k_asm) (by with_reducible assumption) (intKind_is _ _ _ _) (by with_reducible assumption) ?_ (by with_unfolding_all rfl); k_whole)) | fail) | ((first | (fail_if_success (with_reducible first | show wpAny _ _ (call (Value.ref _) _) _ _ _ | show wpAny _ _ (exec (Stmt.While _ _ _ _) _) _ _ _ | show wpAny _ _ (exec (Stmt.For _ _ _ _ _) _) _ _ _ | show wpAny _ _ (pyIter _) _ _ _ | show wpAny _ _ (setItem _ _ _) _ _ _ | show wpAny _ _ (eval (Expr.ListComp _ _ _ _) _) _ _ _ | show wpAny _ _ (exec (Stmt.Assign _ (Expr.ListComp _ _ _ _) _) _) _ _ _ | show InvPostG _ _ _ _ _ _ _ _ | show InvEndG _ _ _ _ _ _ | show OnG _ _ _ _ _ _ _ | show Fin _ _ _ _ _ _ | show KswEnd _ _ _ _ _ _ _ _ _ _ _ _ | show wpAny _ _ (call (Value.builtin "sorted") _) _ _ _ | show LCg.CompEnd _ _ _ _ _ _ _ _ _ _ _ _ _ _ | show LCg.CompSrc _ _ _ _ _ _ _ _ _ _ _ _ _ _ | show LCt.CompSrcT _ _ _ _ _ _ _ _ _ _ _ _ _ _ _)) | fail); first | walk1 | (dsimp only; (try k_fold); (first | (fail_if_success (with_reducible first | show wpAny _ _ (call (Value.ref _) _) _ _ _ | show wpAny _ _ (exec (Stmt.While _ _ _ _) _) _ _ _ | show wpAny _ _ (exec (Stmt.For _ _ _ _ _) _) _ _ _ | show wpAny _ _ (pyIter _) _ _ _ | show wpAny _ _ (setItem _ _ _) _ _ _ | show wpAny _ _ (eval (Expr.ListComp _ _ _ _) _) _ _ _ | show wpAny _ _ (exec (Stmt.Assign _ (Expr.ListComp _ _ _ _) _) _) _ _ _ | show InvPostG _ _ _ _ _ _ _ _ | show InvEndG _ _ _ _ _ _ | show OnG _ _ _ _ _ _ _ | show Fin _ _ _ _ _ _ | show KswEnd _ _ _ _ _ _ _ _ _ _ _ _ | show wpAny _ _ (call (Value.builtin "sorted") _) _ _ _ | show LCg.CompEnd _ _ _ _ _ _ _ _ _ _ _ _ _ _ | show LCg.CompSrc _ _ _ _ _ _ _ _ _ _ _ _ _ _ | show LCt.CompSrcT _ _ _ _ _ _ _ _ _ _ _ _ _ _ _)) | fail); walk1)) | (leave1; walk_say "STEP leave1"; try dsimp only) | fail "no step")) | fail)
    rename Fr _ _ _ _ => F7; rename News _ _ _ _ => N7
    replace N7 : News _ _ _ ([(D2, LCg.lst (ks.map Value.bool)), (_, _), (_, _), (_, _), (_, _)] ++ tl) := fun p hp => N7 p (by
      simp only [List.cons_append, List.nil_append] at hp
      cases hp with
      | head => exact .head _
      | tail _ hp => exact .tail _ (.tail _ hp))
    simp only [List.cons_append, List.nil_append] at N7
    obtain ⟨K1, tl1, hK1, NT, hoff1, hKI1, hKK⟩ := resnap F7 N7 hKI (by (first | (intro p hp; first | (with_reducible (repeat' (first | exact hp | exact List.mem_append_left _ hp | exact List.mem_append_right _ hp | refine List.mem_cons_of_mem _ ?_)); done) | ((simp only [List.nil_append, List.cons_append, List.append_nil, List.append_assoc, List.mem_cons, List.mem_append, List.not_mem_nil, or_false, false_or] at hp ⊢); first | done | grind)) | fail)) hKn (none_four fun p hp => N7 p (.tail _ hp))
    have hkl : K1.IsList D2 (ks.map Value.bool).toArray := list_k hK1 (N7 _ (.head _)).1 (N7 _ (.head _)).2.1 (not_mem4 (by k_ne) (by k_ne) (by k_ne) (by k_ne))
    replace O := O.keeps hKK
    have N8 := news_both (news_take 4 (show News _ _ _ _ from fun p hp => N7 p (.tail _ hp))) NT
    simp only [List.take_succ_cons, List.take_zero, List.cons_append, List.nil_append] at N8
    clear N7 NT hKI hKn hKK hr1 hr2 hr3 Ob hoff off6
    obtain ⟨lr, rvs, hr1, hr2, hr3⟩ := O.rows.list
    have Ob := O.obj
    dsimp only [odOf] at hr3
    have hKn : ∀ b o, K1.get? b = some o → b ≠ _ ∧ b ∉ [_, _, _, _] := fun b o e => ((hK1 b o).mp e).2
    clear hK1
    have hkn : (ks.map Value.bool).length = ks.length := List.length_map _
    refine wpAny_Assign_Name ?_ (by with_unfolding_all rfl)
    k_dflt (refine LCt.ListComp_T (cl := [(Str.ofString "kept", _)]) (F₀ := F7) (by with_unfolding_all rfl) (by decide) (by rfl) (by decide) (by rfl) ?_)
    have hKd := kdMark
    (first | ((try k_unmd); (try k_fold); repeat' (first | (k_unfold; (try dsimp only)) | (first | ((with_reducible show wpAny _ _ (call (Value.ref 131) _) _ _ _); k_here; k_dflt (refine goal_law (by k_asm) (by k_asm) (by k_asm) (by k_asm) (by rfl) (by (first | decide | ((try dsimp only [ktrTop, Around.deeper, Around.in1]); omega) | fail)) (by (first | decide | ((try dsimp only [ktrTop, Around.deeper, Around.in1]); omega) | fail)) (by k_asm) (by with_reducible assumption) (by (first | (intro p hp; first | (with_reducible (repeat' (first | exact hp | exact List.mem_append_left _ hp | exact List.mem_append_right _ hp | refine List.mem_cons_of_mem _ ?_)); done) | ((simp only [List.nil_append, List.cons_append, List.append_nil, List.append_assoc, List.mem_cons, List.mem_append, List.not_mem_nil, or_false, false_or] at hp ⊢); first | done | grind)) | fail)) (by with_reducible assumption) (by with_reducible assumption) (by omega) (by first | (with_reducible assumption) | rfl | fail) (by first | (with_reducible assumption) | omega | fail) ?_; k_whole); intro h' tk' t' F' N'; (try k_sweep)) | ((with_reducible show wpAny _ _ (call (Value.ref 112) _) _ _ _); k_here; k_dflt (refine draw_at (by k_asm) (by k_asm) (by k_asm) (by k_asm) (by rfl) (by (first | decide | ((try dsimp only [ktrTop, Around.deeper, Around.in1]); omega) | fail)) (by (first | decide | ((try dsimp only [ktrTop, Around.deeper, Around.in1]); omega) | fail)) (by k_asm) (by k_updF) (by with_reducible assumption) (by with_reducible assumption) (by omega) (by omega) ?_; k_whole); intro h' tk' vs' n' ns' x' t' F' N' hi' hl' x1'; (try k_sweep)) | ((with_reducible show wpAny _ _ (subscriptTail _ _ (Value.ref _) (Value.str _ _)) _ _ _); k_here; k_dflt (refine bd_item (knd := PySem.strKind _ _) (by k_asm) (by with_reducible assumption) (strKind_is _ _ _ _) (by with_reducible assumption) ?_ (by with_unfolding_all rfl); k_whole)) | ((with_reducible show wpAny _ _ (subscriptTail _ _ (Value.ref _) (Value.int _ _)) _ _ _); k_here; k_dflt (refine bd_item (knd := PySem.intKind _ _) (by k_asm) (by with_reducible assumption) (intKind_is _ _ _ _) (by with_reducible assumption) ?_ (by with_unfolding_all rfl); k_whole)) | fail) | ((first | (fail_if_success (with_reducible first | show wpAny _ _ (call (Value.ref _) _) _ _ _ | show wpAny _ _ (exec (Stmt.While _ _ _ _) _) _ _ _ | show wpAny _ _ (exec (Stmt.For _ _ _ _ _) _) _ _ _ | show wpAny _ _ (pyIter _) _ _ _ | show wpAny _ _ (setItem _ _ _) _ _ _ | show wpAny _ _ (eval (Expr.ListComp _ _ _ _) _) _ _ _ | show wpAny _ _ (exec (Stmt.Assign _ (Expr.ListComp _ _ _ _) _) _) _ _ _ | show InvPostG _ _ _ _ _ _ _ _ | show InvEndG _ _ _ _ _ _ | show OnG _ _ _ _ _ _ _ | show Fin _ _ _ _ _ _ | show KswEnd _ _ _ _ _ _ _ _ _ _ _ _ | show wpAny _ _ (call (Value.builtin "sorted") _) _ _ _ | show LCg.CompEnd _ _ _ _ _ _ _ _ _ _ _ _ _ _ | show LCg.CompSrc _ _ _ _ _ _ _ _ _ _ _ _ _ _ | show LCt.CompSrcT _ _ _ _ _ _ _ _ _ _ _ _ _ _ _)) | fail); first | walk1 | (dsimp only; (try k_fold); (first | (fail_if_success (with_reducible first | show wpAny _ _ (call (Value.ref _) _) _ _ _ | show wpAny _ _ (exec (Stmt.While _ _ _ _) _) _ _ _ | show wpAny _ _ (exec (Stmt.For _ _ _ _ _) _) _ _ _ | show wpAny _ _ (pyIter _) _ _ _ | show wpAny _ _ (setItem _ _ _) _ _ _ | show wpAny _ _ (eval (Expr.ListComp _ _ _ _) _) _ _ _ | show wpAny _ _ (exec (Stmt.Assign _ (Expr.ListComp _ _ _ _) _) _) _ _ _ | show InvPostG _ _ _ _ _ _ _ _ | show InvEndG _ _ _ _ _ _ | show OnG _ _ _ _ _ _ _ | show Fin _ _ _ _ _ _ | show KswEnd _ _ _ _ _ _ _ _ _ _ _ _ | show wpAny _ _ (call (Value.builtin "sorted") _) _ _ _ | show LCg.CompEnd _ _ _ _ _ _ _ _ _ _ _ _ _ _ | show LCg.CompSrc _ _ _ _ _ _ _ _ _ _ _ _ _ _ | show LCt.CompSrcT _ _ _ _ _ _ _ _ _ _ _ _ _ _ _)) | fail); walk1)) | (leave1; walk_say "STEP leave1"; try dsimp only) | fail "no step")) | fail)
    rename Fr _ _ _ _ => F9; rename News _ _ _ _ => N9; rename IsRange _ _ _ _ _ _ _ _ => hir
    refine LCt.CompSrcT.range (by rfl) F9 N9 hir (small_one (by omega) (by omega) (by omega) (by omega)) (n := ks.length) (by rw [rangeSize_nat]; omega) (by rw [sizeLine_eq]; omega) ?_
    intro g2
    refine compIT (fun _ : Unit => _ :: _ :: _ :: _ :: tl1) (fun i ys _ => IntsAre ys (stayN ks i)) () .nil ?_ ?_
    · intro i ys c v I oI C oC D m₂ h tk E' hi hv hJ hC hx F6 N6 off ne
      obtain ⟨t, rfl⟩ := hv
      rw [Int.zero_add] at hx
      have hst := stays_at hi
      have hkx : (ks.map Value.bool)[(i : Int).toNat]? = some (Value.bool (stays ks i)) := by rw [Int.toNat_natCast, List.getElem?_map, hst]; rfl
      have hsn := stayN_succ ks i
      clear F9 N9 hir hst
      generalize stays ks i = b at hkx hsn
      have hKd := kdMark
      (first | ((try k_unmd); (try k_fold); repeat' (first | (k_unfold; (try dsimp only)) | (first | ((with_reducible show wpAny _ _ (call (Value.ref 131) _) _ _ _); k_here; k_dflt (refine goal_law (by k_asm) (by k_asm) (by k_asm) (by k_asm) (by rfl) (by (first | decide | ((try dsimp only [ktrTop, Around.deeper, Around.in1]); omega) | fail)) (by (first | decide | ((try dsimp only [ktrTop, Around.deeper, Around.in1]); omega) | fail)) (by k_asm) (by with_reducible assumption) (by (first | (intro p hp; first | (with_reducible (repeat' (first | exact hp | exact List.mem_append_left _ hp | exact List.mem_append_right _ hp | refine List.mem_cons_of_mem _ ?_)); done) | ((simp only [List.nil_append, List.cons_append, List.append_nil, List.append_assoc, List.mem_cons, List.mem_append, List.not_mem_nil, or_false, false_or] at hp ⊢); first | done | grind)) | fail)) (by with_reducible assumption) (by with_reducible assumption) (by omega) (by first | (with_reducible assumption) | rfl | fail) (by first | (with_reducible assumption) | omega | fail) ?_; k_whole); intro h' tk' t' F' N'; (try k_sweep)) | ((with_reducible show wpAny _ _ (call (Value.ref 112) _) _ _ _); k_here; k_dflt (refine draw_at (by k_asm) (by k_asm) (by k_asm) (by k_asm) (by rfl) (by (first | decide | ((try dsimp only [ktrTop, Around.deeper, Around.in1]); omega) | fail)) (by (first | decide | ((try dsimp only [ktrTop, Around.deeper, Around.in1]); omega) | fail)) (by k_asm) (by k_updF) (by with_reducible assumption) (by with_reducible assumption) (by omega) (by omega) ?_; k_whole); intro h' tk' vs' n' ns' x' t' F' N' hi' hl' x1'; (try k_sweep)) | ((with_reducible show wpAny _ _ (subscriptTail _ _ (Value.ref _) (Value.str _ _)) _ _ _); k_here; k_dflt (refine bd_item (knd := PySem.strKind _ _) (by k_asm) (by with_reducible assumption) (strKind_is _ _ _ _) (by with_reducible assumption) ?_ (by with_unfolding_all rfl); k_whole)) | ((with_reducible show wpAny _ _ (subscriptTail _ _ (Value.ref _) (Value.int _ _)) _ _ _); k_here; k_dflt (refine bd_item (knd := PySem.intKind _ _) (by k_asm) (by with_reducible assumption) (intKind_is _ _ _ _) (by with_reducible assumption) ?_ (by with_unfolding_all rfl); k_whole)) | fail) | ((first | (fail_if_success (with_reducible first | show wpAny _ _ (call (Value.ref _) _) _ _ _ | show wpAny _ _ (exec (Stmt.While _ _ _ _) _) _ _ _ | show wpAny _ _ (exec (Stmt.For _ _ _ _ _) _) _ _ _ | show wpAny _ _ (pyIter _) _ _ _ | show wpAny _ _ (setItem _ _ _) _ _ _ | show wpAny _ _ (eval (Expr.ListComp _ _ _ _) _) _ _ _ | show wpAny _ _ (exec (Stmt.Assign _ (Expr.ListComp _ _ _ _) _) _) _ _ _ | show InvPostG _ _ _ _ _ _ _ _ | show InvEndG _ _ _ _ _ _ | show OnG _ _ _ _ _ _ _ | show Fin _ _ _ _ _ _ | show KswEnd _ _ _ _ _ _ _ _ _ _ _ _ | show wpAny _ _ (call (Value.builtin "sorted") _) _ _ _ | show LCg.CompEnd _ _ _ _ _ _ _ _ _ _ _ _ _ _ | show LCg.CompSrc _ _ _ _ _ _ _ _ _ _ _ _ _ _ | show LCt.CompSrcT _ _ _ _ _ _ _ _ _ _ _ _ _ _ _)) | fail); first | walk1 | (dsimp only; (try k_fold); (first | (fail_if_success (with_reducible first | show wpAny _ _ (call (Value.ref _) _) _ _ _ | show wpAny _ _ (exec (Stmt.While _ _ _ _) _) _ _ _ | show wpAny _ _ (exec (Stmt.For _ _ _ _ _) _) _ _ _ | show wpAny _ _ (pyIter _) _ _ _ | show wpAny _ _ (setItem _ _ _) _ _ _ | show wpAny _ _ (eval (Expr.ListComp _ _ _ _) _) _ _ _ | show wpAny _ _ (exec (Stmt.Assign _ (Expr.ListComp _ _ _ _) _) _) _ _ _ | show InvPostG _ _ _ _ _ _ _ _ | show InvEndG _ _ _ _ _ _ | show OnG _ _ _ _ _ _ _ | show Fin _ _ _ _ _ _ | show KswEnd _ _ _ _ _ _ _ _ _ _ _ _ | show wpAny _ _ (call (Value.builtin "sorted") _) _ _ _ | show LCg.CompEnd _ _ _ _ _ _ _ _ _ _ _ _ _ _ | show LCg.CompSrc _ _ _ _ _ _ _ _ _ _ _ _ _ _ | show LCt.CompSrcT _ _ _ _ _ _ _ _ _ _ _ _ _ _ _)) | fail); walk1)) | (leave1; walk_say "STEP leave1"; try dsimp only) | fail "no step")) | fail)
      · rename b = true => hb9
        exact LCg.CompEnd.intro F6 N6 _ (fun p hp => hp) off trivial ⟨(), rfl, by rw [hsn, hb9]; exact hJ.append (.cons _ _ .nil)⟩
      · rename b = false => hb9
        exact LCg.CompEnd.intro F6 N6 _ (fun p hp => hp) off trivial ⟨(), rfl, by rw [hsn, hb9]; simpa using hJ⟩
    · intro ys c hSt
      unfold LCg.FinE
      intro D3 h5 tk5 F6 N6 off6
      replace off6 := neAll_of off6
      dsimp only [List.map] at off6
      clear F9 N9 hir
      have hKd := kdMark
      (try dsimp only)
      (first | ((try k_unmd); (try k_fold); repeat' (first | (k_unfold; (try dsimp only)) | (first | ((with_reducible show wpAny _ _ (call (Value.ref 131) _) _ _ _); k_here; k_dflt (refine goal_law (by k_asm) (by k_asm) (by k_asm) (by k_asm) (by rfl) (by (first | decide | ((try dsimp only [ktrTop, Around.deeper, Around.in1]); omega) | fail)) (by (first | decide | ((try dsimp only [ktrTop, Around.deeper, Around.in1]); omega) | fail)) (by k_asm) (by with_reducible assumption) (by (first | (intro p hp; first | (with_reducible (repeat' (first | exact hp | exact List.mem_append_left _ hp | exact List.mem_append_right _ hp | refine List.mem_cons_of_mem _ ?_)); done) | ((simp only [List.nil_append, List.cons_append, List.append_nil, List.append_assoc, List.mem_cons, List.mem_append, List.not_mem_nil, or_false, false_or] at hp ⊢); first | done | grind)) | fail)) (by with_reducible assumption) (by with_reducible assumption) (by omega) (by first | (with_reducible assumption) | rfl | fail) (by first | (with_reducible assumption) | omega | fail) ?_; k_whole); intro h' tk' t' F' N'; (try k_sweep)) | ((with_reducible show wpAny _ _ (call (Value.ref 112) _) _ _ _); k_here; k_dflt (refine draw_at (by k_asm) (by k_asm) (by k_asm) (by k_asm) (by rfl) (by (first | decide | ((try dsimp only [ktrTop, Around.deeper, Around.in1]); omega) | fail)) (by (first | decide | ((try dsimp only [ktrTop, Around.deeper, Around.in1]); omega) | fail)) (by k_asm) (by k_updF) (by with_reducible assumption) (by with_reducible assumption) (by omega) (by omega) ?_; k_whole); intro h' tk' vs' n' ns' x' t' F' N' hi' hl' x1'; (try k_sweep)) | ((with_reducible show wpAny _ _ (subscriptTail _ _ (Value.ref _) (Value.str _ _)) _ _ _); k_here; k_dflt (refine bd_item (knd := PySem.strKind _ _) (by k_asm) (by with_reducible assumption) (strKind_is _ _ _ _) (by with_reducible assumption) ?_ (by with_unfolding_all rfl); k_whole)) | ((with_reducible show wpAny _ _ (subscriptTail _ _ (Value.ref _) (Value.int _ _)) _ _ _); k_here; k_dflt (refine bd_item (knd := PySem.intKind _ _) (by k_asm) (by with_reducible assumption) (intKind_is _ _ _ _) (by with_reducible assumption) ?_ (by with_unfolding_all rfl); k_whole)) | fail) | ((first | (fail_if_success (with_reducible first | show wpAny _ _ (call (Value.ref _) _) _ _ _ | show wpAny _ _ (exec (Stmt.While _ _ _ _) _) _ _ _ | show wpAny _ _ (exec (Stmt.For _ _ _ _ _) _) _ _ _ | show wpAny _ _ (pyIter _) _ _ _ | show wpAny _ _ (setItem _ _ _) _ _ _ | show wpAny _ _ (eval (Expr.ListComp _ _ _ _) _) _ _ _ | show wpAny _ _ (exec (Stmt.Assign _ (Expr.ListComp _ _ _ _) _) _) _ _ _ | show InvPostG _ _ _ _ _ _ _ _ | show InvEndG _ _ _ _ _ _ | show OnG _ _ _ _ _ _ _ | show Fin _ _ _ _ _ _ | show KswEnd _ _ _ _ _ _ _ _ _ _ _ _ | show wpAny _ _ (call (Value.builtin "sorted") _) _ _ _ | show LCg.CompEnd _ _ _ _ _ _ _ _ _ _ _ _ _ _ | show LCg.CompSrc _ _ _ _ _ _ _ _ _ _ _ _ _ _ | show LCt.CompSrcT _ _ _ _ _ _ _ _ _ _ _ _ _ _ _)) | fail); first | walk1 | (dsimp only; (try k_fold); (first | (fail_if_success (with_reducible first | show wpAny _ _ (call (Value.ref _) _) _ _ _ | show wpAny _ _ (exec (Stmt.While _ _ _ _) _) _ _ _ | show wpAny _ _ (exec (Stmt.For _ _ _ _ _) _) _ _ _ | show wpAny _ _ (pyIter _) _ _ _ | show wpAny _ _ (setItem _ _ _) _ _ _ | show wpAny _ _ (eval (Expr.ListComp _ _ _ _) _) _ _ _ | show wpAny _ _ (exec (Stmt.Assign _ (Expr.ListComp _ _ _ _) _) _) _ _ _ | show InvPostG _ _ _ _ _ _ _ _ | show InvEndG _ _ _ _ _ _ | show OnG _ _ _ _ _ _ _ | show Fin _ _ _ _ _ _ | show KswEnd _ _ _ _ _ _ _ _ _ _ _ _ | show wpAny _ _ (call (Value.builtin "sorted") _) _ _ _ | show LCg.CompEnd _ _ _ _ _ _ _ _ _ _ _ _ _ _ | show LCg.CompSrc _ _ _ _ _ _ _ _ _ _ _ _ _ _ | show LCt.CompSrcT _ _ _ _ _ _ _ _ _ _ _ _ _ _ _)) | fail); walk1)) | (leave1; walk_say "STEP leave1"; try dsimp only) | fail "no step")) | fail)
      rename Fr _ _ _ _ => F7; rename News _ _ _ _ => N7
      k_dflt refine seen_ok (by k_asm) F7 (by k_asm) (by k_asm) rfl (by decide) (by decide) (O.keeps (hKI1.le F7 N7 (by (first | (intro p hp; first | (with_reducible (repeat' (first | exact hp | exact List.mem_append_left _ hp | exact List.mem_append_right _ hp | refine List.mem_cons_of_mem _ ?_)); done) | ((simp only [List.nil_append, List.cons_append, List.append_nil, List.append_assoc, List.mem_cons, List.mem_append, List.not_mem_nil, or_false, false_or] at hp ⊢); first | done | grind)) | fail)))) rfl (mapsL_asc (mk_pairwise rows)) (mapsL_val _) (by have := mk_len rows; simp only [odOf, mapsL, List.length_map]; omega) (by
        have := fixes_len rows
        simp only [odOf, List.forall_mem_cons, List.not_mem_nil, false_imp_iff, implies_true, and_true, rowsD_len, List.length_map, List.length_cons, List.length_nil]
        omega) (after F7 N7 ?_)
      intro r8 h8 tk8 F8 N8 K8 hE
      clear K8 F7 N7
      have N8t := fun p hp => N8 p (List.Mem.tail _ hp)
      have hc4 := four_cells (N := N8t) (by assumption) (by assumption) (by assumption) (by assumption)
      obtain ⟨K2, tl2, hK2, NT, hoff2, hKI2, hKK⟩ := resnap F8 N8 hKI1 (by (first | (intro p hp; first | (with_reducible (repeat' (first | exact hp | exact List.mem_append_left _ hp | exact List.mem_append_right _ hp | refine List.mem_cons_of_mem _ ?_)); done) | ((simp only [List.nil_append, List.cons_append, List.append_nil, List.append_assoc, List.mem_cons, List.mem_append, List.not_mem_nil, or_false, false_or] at hp ⊢); first | done | grind)) | fail)) hKn (none_four N8t)
      have hE0 := hE.seq.mono (di_snap F8 hK2 hc4)
      have hsl : K2.IsList D3 ys.toArray := list_k hK2 (N8 _ (.head _)).1 (N8 _ (.head _)).2.1 (not_mem4 (by k_ne) (by k_ne) (by k_ne) (by k_ne))
      replace O := O.keeps hKK
      replace hkl := stays_list hKK hkl
      have N9 := news_both (news_take 4 N8t) NT
      simp only [List.take_succ_cons, List.take_zero, List.cons_append, List.nil_append] at N9
      have hKn2 : ∀ b o, K2.get? b = some o → b ≠ _ ∧ b ∉ [_, _, _, _] := fun b o e => ((hK2 b o).mp e).2
      clear N8 N8t NT hKI1 hKn hKK hr1 hr2 hr3 Ob hoff1 off6 hE hK2 hc4
      obtain ⟨lr, rvs, hr1, hr2, hr3⟩ := O.rows.list
      have Ob := O.obj
      dsimp only [odOf] at hr3
      (first | ((try k_unmd); (try k_fold); repeat' (first | (k_unfold; (try dsimp only)) | (first | ((with_reducible show wpAny _ _ (call (Value.ref 131) _) _ _ _); k_here; k_dflt (refine goal_law (by k_asm) (by k_asm) (by k_asm) (by k_asm) (by rfl) (by (first | decide | ((try dsimp only [ktrTop, Around.deeper, Around.in1]); omega) | fail)) (by (first | decide | ((try dsimp only [ktrTop, Around.deeper, Around.in1]); omega) | fail)) (by k_asm) (by with_reducible assumption) (by (first | (intro p hp; first | (with_reducible (repeat' (first | exact hp | exact List.mem_append_left _ hp | exact List.mem_append_right _ hp | refine List.mem_cons_of_mem _ ?_)); done) | ((simp only [List.nil_append, List.cons_append, List.append_nil, List.append_assoc, List.mem_cons, List.mem_append, List.not_mem_nil, or_false, false_or] at hp ⊢); first | done | grind)) | fail)) (by with_reducible assumption) (by with_reducible assumption) (by omega) (by first | (with_reducible assumption) | rfl | fail) (by first | (with_reducible assumption) | omega | fail) ?_; k_whole); intro h' tk' t' F' N'; (try k_sweep)) | ((with_reducible show wpAny _ _ (call (Value.ref 112) _) _ _ _); k_here; k_dflt (refine draw_at (by k_asm) (by k_asm) (by k_asm) (by k_asm) (by rfl) (by (first | decide | ((try dsimp only [ktrTop, Around.deeper, Around.in1]); omega) | fail)) (by (first | decide | ((try dsimp only [ktrTop, Around.deeper, Around.in1]); omega) | fail)) (by k_asm) (by k_updF) (by with_reducible assumption) (by with_reducible assumption) (by omega) (by omega) ?_; k_whole); intro h' tk' vs' n' ns' x' t' F' N' hi' hl' x1'; (try k_sweep)) | ((with_reducible show wpAny _ _ (subscriptTail _ _ (Value.ref _) (Value.str _ _)) _ _ _); k_here; k_dflt (refine bd_item (knd := PySem.strKind _ _) (by k_asm) (by with_reducible assumption) (strKind_is _ _ _ _) (by with_reducible assumption) ?_ (by with_unfolding_all rfl); k_whole)) | ((with_reducible show wpAny _ _ (subscriptTail _ _ (Value.ref _) (Value.int _ _)) _ _ _); k_here; k_dflt (refine bd_item (knd := PySem.intKind _ _) (by k_asm) (by with_reducible assumption) (intKind_is _ _ _ _) (by with_reducible assumption) ?_ (by with_unfolding_all rfl); k_whole)) | fail) | ((first | (fail_if_success (with_reducible first | show wpAny _ _ (call (Value.ref _) _) _ _ _ | show wpAny _ _ (exec (Stmt.While _ _ _ _) _) _ _ _ | show wpAny _ _ (exec (Stmt.For _ _ _ _ _) _) _ _ _ | show wpAny _ _ (pyIter _) _ _ _ | show wpAny _ _ (setItem _ _ _) _ _ _ | show wpAny _ _ (eval (Expr.ListComp _ _ _ _) _) _ _ _ | show wpAny _ _ (exec (Stmt.Assign _ (Expr.ListComp _ _ _ _) _) _) _ _ _ | show InvPostG _ _ _ _ _ _ _ _ | show InvEndG _ _ _ _ _ _ | show OnG _ _ _ _ _ _ _ | show Fin _ _ _ _ _ _ | show KswEnd _ _ _ _ _ _ _ _ _ _ _ _ | show wpAny _ _ (call (Value.builtin "sorted") _) _ _ _ | show LCg.CompEnd _ _ _ _ _ _ _ _ _ _ _ _ _ _ | show LCg.CompSrc _ _ _ _ _ _ _ _ _ _ _ _ _ _ | show LCt.CompSrcT _ _ _ _ _ _ _ _ _ _ _ _ _ _ _)) | fail); first | walk1 | (dsimp only; (try k_fold); (first | (fail_if_success (with_reducible first | show wpAny _ _ (call (Value.ref _) _) _ _ _ | show wpAny _ _ (exec (Stmt.While _ _ _ _) _) _ _ _ | show wpAny _ _ (exec (Stmt.For _ _ _ _ _) _) _ _ _ | show wpAny _ _ (pyIter _) _ _ _ | show wpAny _ _ (setItem _ _ _) _ _ _ | show wpAny _ _ (eval (Expr.ListComp _ _ _ _) _) _ _ _ | show wpAny _ _ (exec (Stmt.Assign _ (Expr.ListComp _ _ _ _) _) _) _ _ _ | show InvPostG _ _ _ _ _ _ _ _ | show InvEndG _ _ _ _ _ _ | show OnG _ _ _ _ _ _ _ | show Fin _ _ _ _ _ _ | show KswEnd _ _ _ _ _ _ _ _ _ _ _ _ | show wpAny _ _ (call (Value.builtin "sorted") _) _ _ _ | show LCg.CompEnd _ _ _ _ _ _ _ _ _ _ _ _ _ _ | show LCg.CompSrc _ _ _ _ _ _ _ _ _ _ _ _ _ _ | show LCt.CompSrcT _ _ _ _ _ _ _ _ _ _ _ _ _ _ _)) | fail); walk1)) | (leave1; walk_say "STEP leave1"; try dsimp only) | fail "no step")) | fail)
      rename Fr _ _ _ _ => F7; rename News _ _ _ _ => N7
      have hle := hKI2.le F7 N7 (by (first | (intro p hp; first | (with_reducible (repeat' (first | exact hp | exact List.mem_append_left _ hp | exact List.mem_append_right _ hp | refine List.mem_cons_of_mem _ ?_)); done) | ((simp only [List.nil_append, List.cons_append, List.append_nil, List.append_assoc, List.mem_cons, List.mem_append, List.not_mem_nil, or_false, false_or] at hp ⊢); first | done | grind)) | fail))
      k_dflt refine remap_ok (rvs := rvs) (by k_asm) F7 (by k_asm) (by k_asm) rfl (by decide) (by decide) (O.keeps hle) hr1 (stays_list hle hkl) (bools_di _ ks) hks (by omega) hV hc hg hr hb (after F7 N7 ?_)
      rintro r8 h8 tk8 F8 N8 K8 ⟨x2, es2, rfl, O2, fr2⟩
      obtain ⟨Kx, hKx, O2⟩ := objIs_apart' O2 fr2
      have hnot := four_not hKx N7 N8 (by assumption) (by assumption) (by assumption) (by assumption)
      obtain ⟨K3, tl3, hK3, NT, hoff3, hKI3, hKK⟩ := resnap F8 N8 hKI2 (by (first | (intro p hp; first | (with_reducible (repeat' (first | exact hp | exact List.mem_append_left _ hp | exact List.mem_append_right _ hp | refine List.mem_cons_of_mem _ ?_)); done) | ((simp only [List.nil_append, List.cons_append, List.append_nil, List.append_assoc, List.mem_cons, List.mem_append, List.not_mem_nil, or_false, false_or] at hp ⊢); first | done | grind)) | fail)) hKn2 (none_four N8)
      replace O2 := O2.keeps (into_snap F7 F8 hK3 hKx hnot)
      replace O := O.keeps hKK
      replace hkl := stays_list hKK hkl
      replace hsl := stays_list hKK hsl
      replace hE0 := hE0.mono hKK
      have N9 := news_both (news_take 4 N8) NT
      simp only [List.take_succ_cons, List.take_zero, List.cons_append, List.nil_append] at N9
      have hKn3 : ∀ b o, K3.get? b = some o → b ≠ _ ∧ b ∉ [_, _, _, _] := fun b o e => ((hK3 b o).mp e).2
      clear F7 N7 N8 NT hKI2 hKn2 hKK hr1 hr2 hr3 Ob hoff2 hle hKx fr2 hnot K8 hK3
      obtain ⟨lr, rvs, hr1, hr2, hr3⟩ := O.rows.list
      obtain ⟨lr2, rvs2, hr4, hr5, hr6⟩ := O2.rows.list
      have Ob := O.obj
      have Ob2 := O2.obj
      dsimp only [odOf] at hr3
      dsimp only [odNew] at hr6
      (try dsimp only)
      (first | ((try k_unmd); (try k_fold); repeat' (first | (k_unfold; (try dsimp only)) | (first | ((with_reducible show wpAny _ _ (call (Value.ref 131) _) _ _ _); k_here; k_dflt (refine goal_law (by k_asm) (by k_asm) (by k_asm) (by k_asm) (by rfl) (by (first | decide | ((try dsimp only [ktrTop, Around.deeper, Around.in1]); omega) | fail)) (by (first | decide | ((try dsimp only [ktrTop, Around.deeper, Around.in1]); omega) | fail)) (by k_asm) (by with_reducible assumption) (by (first | (intro p hp; first | (with_reducible (repeat' (first | exact hp | exact List.mem_append_left _ hp | exact List.mem_append_right _ hp | refine List.mem_cons_of_mem _ ?_)); done) | ((simp only [List.nil_append, List.cons_append, List.append_nil, List.append_assoc, List.mem_cons, List.mem_append, List.not_mem_nil, or_false, false_or] at hp ⊢); first | done | grind)) | fail)) (by with_reducible assumption) (by with_reducible assumption) (by omega) (by first | (with_reducible assumption) | rfl | fail) (by first | (with_reducible assumption) | omega | fail) ?_; k_whole); intro h' tk' t' F' N'; (try k_sweep)) | ((with_reducible show wpAny _ _ (call (Value.ref 112) _) _ _ _); k_here; k_dflt (refine draw_at (by k_asm) (by k_asm) (by k_asm) (by k_asm) (by rfl) (by (first | decide | ((try dsimp only [ktrTop, Around.deeper, Around.in1]); omega) | fail)) (by (first | decide | ((try dsimp only [ktrTop, Around.deeper, Around.in1]); omega) | fail)) (by k_asm) (by k_updF) (by with_reducible assumption) (by with_reducible assumption) (by omega) (by omega) ?_; k_whole); intro h' tk' vs' n' ns' x' t' F' N' hi' hl' x1'; (try k_sweep)) | ((with_reducible show wpAny _ _ (subscriptTail _ _ (Value.ref _) (Value.str _ _)) _ _ _); k_here; k_dflt (refine bd_item (knd := PySem.strKind _ _) (by k_asm) (by with_reducible assumption) (strKind_is _ _ _ _) (by with_reducible assumption) ?_ (by with_unfolding_all rfl); k_whole)) | ((with_reducible show wpAny _ _ (subscriptTail _ _ (Value.ref _) (Value.int _ _)) _ _ _); k_here; k_dflt (refine bd_item (knd := PySem.intKind _ _) (by k_asm) (by with_reducible assumption) (intKind_is _ _ _ _) (by with_reducible assumption) ?_ (by with_unfolding_all rfl); k_whole)) | fail) | ((first | (fail_if_success (with_reducible first | show wpAny _ _ (call (Value.ref _) _) _ _ _ | show wpAny _ _ (exec (Stmt.While _ _ _ _) _) _ _ _ | show wpAny _ _ (exec (Stmt.For _ _ _ _ _) _) _ _ _ | show wpAny _ _ (pyIter _) _ _ _ | show wpAny _ _ (setItem _ _ _) _ _ _ | show wpAny _ _ (eval (Expr.ListComp _ _ _ _) _) _ _ _ | show wpAny _ _ (exec (Stmt.Assign _ (Expr.ListComp _ _ _ _) _) _) _ _ _ | show InvPostG _ _ _ _ _ _ _ _ | show InvEndG _ _ _ _ _ _ | show OnG _ _ _ _ _ _ _ | show Fin _ _ _ _ _ _ | show KswEnd _ _ _ _ _ _ _ _ _ _ _ _ | show wpAny _ _ (call (Value.builtin "sorted") _) _ _ _ | show LCg.CompEnd _ _ _ _ _ _ _ _ _ _ _ _ _ _ | show LCg.CompSrc _ _ _ _ _ _ _ _ _ _ _ _ _ _ | show LCt.CompSrcT _ _ _ _ _ _ _ _ _ _ _ _ _ _ _)) | fail); first | walk1 | (dsimp only; (try k_fold); (first | (fail_if_success (with_reducible first | show wpAny _ _ (call (Value.ref _) _) _ _ _ | show wpAny _ _ (exec (Stmt.While _ _ _ _) _) _ _ _ | show wpAny _ _ (exec (Stmt.For _ _ _ _ _) _) _ _ _ | show wpAny _ _ (pyIter _) _ _ _ | show wpAny _ _ (setItem _ _ _) _ _ _ | show wpAny _ _ (eval (Expr.ListComp _ _ _ _) _) _ _ _ | show wpAny _ _ (exec (Stmt.Assign _ (Expr.ListComp _ _ _ _) _) _) _ _ _ | show InvPostG _ _ _ _ _ _ _ _ | show InvEndG _ _ _ _ _ _ | show OnG _ _ _ _ _ _ _ | show Fin _ _ _ _ _ _ | show KswEnd _ _ _ _ _ _ _ _ _ _ _ _ | show wpAny _ _ (call (Value.builtin "sorted") _) _ _ _ | show LCg.CompEnd _ _ _ _ _ _ _ _ _ _ _ _ _ _ | show LCg.CompSrc _ _ _ _ _ _ _ _ _ _ _ _ _ _ | show LCt.CompSrcT _ _ _ _ _ _ _ _ _ _ _ _ _ _ _)) | fail); walk1)) | (leave1; walk_say "STEP leave1"; try dsimp only) | fail "no step")) | fail)
      rename Fr _ _ _ _ => F7; rename News _ _ _ _ => N7
      k_dflt refine seen_ok (by k_asm) F7 (by k_asm) (by k_asm) rfl (by decide) (by decide) (O.keeps (hKI3.le F7 N7 (by (first | (intro p hp; first | (with_reducible (repeat' (first | exact hp | exact List.mem_append_left _ hp | exact List.mem_append_right _ hp | refine List.mem_cons_of_mem _ ?_)); done) | ((simp only [List.nil_append, List.cons_append, List.append_nil, List.append_assoc, List.mem_cons, List.mem_append, List.not_mem_nil, or_false, false_or] at hp ⊢); first | done | grind)) | fail)))) rfl (mapsL_asc (mk_pairwise rows)) (mapsL_val _) (by have := mk_len rows; simp only [odOf, mapsL, List.length_map]; omega) (by
        have := fixes_len rows
        simp only [odOf, List.forall_mem_cons, List.not_mem_nil, false_imp_iff, implies_true, and_true, rowsD_len, List.length_map, List.length_cons, List.length_nil]
        omega) (after F7 N7 ?_)
      intro r9 h9 tk9 F8 N8 K8 hE
      replace hE0' := hE0.mono (hKI3.le F8 N8 (by (first | (intro p hp; first | (with_reducible (repeat' (first | exact hp | exact List.mem_append_left _ hp | exact List.mem_append_right _ hp | refine List.mem_cons_of_mem _ ?_)); done) | ((simp only [List.nil_append, List.cons_append, List.append_nil, List.append_assoc, List.mem_cons, List.mem_append, List.not_mem_nil, or_false, false_or] at hp ⊢); first | done | grind)) | fail)))
      clear K8 F7 N7
      (try dsimp only)
      (first | ((try k_unmd); (try k_fold); repeat' (first | (k_unfold; (try dsimp only)) | (first | ((with_reducible show wpAny _ _ (call (Value.ref 131) _) _ _ _); k_here; k_dflt (refine goal_law (by k_asm) (by k_asm) (by k_asm) (by k_asm) (by rfl) (by (first | decide | ((try dsimp only [ktrTop, Around.deeper, Around.in1]); omega) | fail)) (by (first | decide | ((try dsimp only [ktrTop, Around.deeper, Around.in1]); omega) | fail)) (by k_asm) (by with_reducible assumption) (by (first | (intro p hp; first | (with_reducible (repeat' (first | exact hp | exact List.mem_append_left _ hp | exact List.mem_append_right _ hp | refine List.mem_cons_of_mem _ ?_)); done) | ((simp only [List.nil_append, List.cons_append, List.append_nil, List.append_assoc, List.mem_cons, List.mem_append, List.not_mem_nil, or_false, false_or] at hp ⊢); first | done | grind)) | fail)) (by with_reducible assumption) (by with_reducible assumption) (by omega) (by first | (with_reducible assumption) | rfl | fail) (by first | (with_reducible assumption) | omega | fail) ?_; k_whole); intro h' tk' t' F' N'; (try k_sweep)) | ((with_reducible show wpAny _ _ (call (Value.ref 112) _) _ _ _); k_here; k_dflt (refine draw_at (by k_asm) (by k_asm) (by k_asm) (by k_asm) (by rfl) (by (first | decide | ((try dsimp only [ktrTop, Around.deeper, Around.in1]); omega) | fail)) (by (first | decide | ((try dsimp only [ktrTop, Around.deeper, Around.in1]); omega) | fail)) (by k_asm) (by k_updF) (by with_reducible assumption) (by with_reducible assumption) (by omega) (by omega) ?_; k_whole); intro h' tk' vs' n' ns' x' t' F' N' hi' hl' x1'; (try k_sweep)) | ((with_reducible show wpAny _ _ (subscriptTail _ _ (Value.ref _) (Value.str _ _)) _ _ _); k_here; k_dflt (refine bd_item (knd := PySem.strKind _ _) (by k_asm) (by with_reducible assumption) (strKind_is _ _ _ _) (by with_reducible assumption) ?_ (by with_unfolding_all rfl); k_whole)) | ((with_reducible show wpAny _ _ (subscriptTail _ _ (Value.ref _) (Value.int _ _)) _ _ _); k_here; k_dflt (refine bd_item (knd := PySem.intKind _ _) (by k_asm) (by with_reducible assumption) (intKind_is _ _ _ _) (by with_reducible assumption) ?_ (by with_unfolding_all rfl); k_whole)) | fail) | ((first | (fail_if_success (with_reducible first | show wpAny _ _ (call (Value.ref _) _) _ _ _ | show wpAny _ _ (exec (Stmt.While _ _ _ _) _) _ _ _ | show wpAny _ _ (exec (Stmt.For _ _ _ _ _) _) _ _ _ | show wpAny _ _ (pyIter _) _ _ _ | show wpAny _ _ (setItem _ _ _) _ _ _ | show wpAny _ _ (eval (Expr.ListComp _ _ _ _) _) _ _ _ | show wpAny _ _ (exec (Stmt.Assign _ (Expr.ListComp _ _ _ _) _) _) _ _ _ | show InvPostG _ _ _ _ _ _ _ _ | show InvEndG _ _ _ _ _ _ | show OnG _ _ _ _ _ _ _ | show Fin _ _ _ _ _ _ | show KswEnd _ _ _ _ _ _ _ _ _ _ _ _ | show wpAny _ _ (call (Value.builtin "sorted") _) _ _ _ | show LCg.CompEnd _ _ _ _ _ _ _ _ _ _ _ _ _ _ | show LCg.CompSrc _ _ _ _ _ _ _ _ _ _ _ _ _ _ | show LCt.CompSrcT _ _ _ _ _ _ _ _ _ _ _ _ _ _ _)) | fail); first | walk1 | (dsimp only; (try k_fold); (first | (fail_if_success (with_reducible first | show wpAny _ _ (call (Value.ref _) _) _ _ _ | show wpAny _ _ (exec (Stmt.While _ _ _ _) _) _ _ _ | show wpAny _ _ (exec (Stmt.For _ _ _ _ _) _) _ _ _ | show wpAny _ _ (pyIter _) _ _ _ | show wpAny _ _ (setItem _ _ _) _ _ _ | show wpAny _ _ (eval (Expr.ListComp _ _ _ _) _) _ _ _ | show wpAny _ _ (exec (Stmt.Assign _ (Expr.ListComp _ _ _ _) _) _) _ _ _ | show InvPostG _ _ _ _ _ _ _ _ | show InvEndG _ _ _ _ _ _ | show OnG _ _ _ _ _ _ _ | show Fin _ _ _ _ _ _ | show KswEnd _ _ _ _ _ _ _ _ _ _ _ _ | show wpAny _ _ (call (Value.builtin "sorted") _) _ _ _ | show LCg.CompEnd _ _ _ _ _ _ _ _ _ _ _ _ _ _ | show LCg.CompSrc _ _ _ _ _ _ _ _ _ _ _ _ _ _ | show LCt.CompSrcT _ _ _ _ _ _ _ _ _ _ _ _ _ _ _)) | fail); walk1)) | (leave1; walk_say "STEP leave1"; try dsimp only) | fail "no step")) | fail)
      refine ne_di (da := seenD (odOf rows c₀ gg rr b₀)) (db := seenD (odOf rows c₀ gg rr b₀)) ?_ ?_ (seen_okd _ _ _ _ _) (seen_okd _ _ _ _ _) ?_ rfl ?_
      · exact hE
      · exact hE0'
      · show callerA.units + 3 + 64 < cLine
        decide
      have hl1 : ys.length = cnt ks ks.length := by rw [hSt.length, stayN_len ks _ (Nat.le_refl _)]
      have hl2 : rvs2.length = cnt ks ks.length := by rw [hr6.length, newRows_total ks rows hks]
      have hcn := cnt_le ks ks.length
      have hcc : ((cnt ks ks.length : Nat) : Int) = ((cnt ks ks.length : Nat) : Int) := rfl
      clear hE hE0'
      (try dsimp only)
      have hKd := kdMark
      (first | ((try k_unmd); (try k_fold); repeat' (first | (k_unfold; (try dsimp only)) | (first | ((with_reducible show wpAny _ _ (call (Value.ref 131) _) _ _ _); k_here; k_dflt (refine goal_law (by k_asm) (by k_asm) (by k_asm) (by k_asm) (by rfl) (by (first | decide | ((try dsimp only [ktrTop, Around.deeper, Around.in1]); omega) | fail)) (by (first | decide | ((try dsimp only [ktrTop, Around.deeper, Around.in1]); omega) | fail)) (by k_asm) (by with_reducible assumption) (by (first | (intro p hp; first | (with_reducible (repeat' (first | exact hp | exact List.mem_append_left _ hp | exact List.mem_append_right _ hp | refine List.mem_cons_of_mem _ ?_)); done) | ((simp only [List.nil_append, List.cons_append, List.append_nil, List.append_assoc, List.mem_cons, List.mem_append, List.not_mem_nil, or_false, false_or] at hp ⊢); first | done | grind)) | fail)) (by with_reducible assumption) (by with_reducible assumption) (by omega) (by first | (with_reducible assumption) | rfl | fail) (by first | (with_reducible assumption) | omega | fail) ?_; k_whole); intro h' tk' t' F' N'; (try k_sweep)) | ((with_reducible show wpAny _ _ (call (Value.ref 112) _) _ _ _); k_here; k_dflt (refine draw_at (by k_asm) (by k_asm) (by k_asm) (by k_asm) (by rfl) (by (first | decide | ((try dsimp only [ktrTop, Around.deeper, Around.in1]); omega) | fail)) (by (first | decide | ((try dsimp only [ktrTop, Around.deeper, Around.in1]); omega) | fail)) (by k_asm) (by k_updF) (by with_reducible assumption) (by with_reducible assumption) (by omega) (by omega) ?_; k_whole); intro h' tk' vs' n' ns' x' t' F' N' hi' hl' x1'; (try k_sweep)) | ((with_reducible show wpAny _ _ (subscriptTail _ _ (Value.ref _) (Value.str _ _)) _ _ _); k_here; k_dflt (refine bd_item (knd := PySem.strKind _ _) (by k_asm) (by with_reducible assumption) (strKind_is _ _ _ _) (by with_reducible assumption) ?_ (by with_unfolding_all rfl); k_whole)) | ((with_reducible show wpAny _ _ (subscriptTail _ _ (Value.ref _) (Value.int _ _)) _ _ _); k_here; k_dflt (refine bd_item (knd := PySem.intKind _ _) (by k_asm) (by with_reducible assumption) (intKind_is _ _ _ _) (by with_reducible assumption) ?_ (by with_unfolding_all rfl); k_whole)) | fail) | ((first | (fail_if_success (with_reducible first | show wpAny _ _ (call (Value.ref _) _) _ _ _ | show wpAny _ _ (exec (Stmt.While _ _ _ _) _) _ _ _ | show wpAny _ _ (exec (Stmt.For _ _ _ _ _) _) _ _ _ | show wpAny _ _ (pyIter _) _ _ _ | show wpAny _ _ (setItem _ _ _) _ _ _ | show wpAny _ _ (eval (Expr.ListComp _ _ _ _) _) _ _ _ | show wpAny _ _ (exec (Stmt.Assign _ (Expr.ListComp _ _ _ _) _) _) _ _ _ | show InvPostG _ _ _ _ _ _ _ _ | show InvEndG _ _ _ _ _ _ | show OnG _ _ _ _ _ _ _ | show Fin _ _ _ _ _ _ | show KswEnd _ _ _ _ _ _ _ _ _ _ _ _ | show wpAny _ _ (call (Value.builtin "sorted") _) _ _ _ | show LCg.CompEnd _ _ _ _ _ _ _ _ _ _ _ _ _ _ | show LCg.CompSrc _ _ _ _ _ _ _ _ _ _ _ _ _ _ | show LCt.CompSrcT _ _ _ _ _ _ _ _ _ _ _ _ _ _ _)) | fail); first | walk1 | (dsimp only; (try k_fold); (first | (fail_if_success (with_reducible first | show wpAny _ _ (call (Value.ref _) _) _ _ _ | show wpAny _ _ (exec (Stmt.While _ _ _ _) _) _ _ _ | show wpAny _ _ (exec (Stmt.For _ _ _ _ _) _) _ _ _ | show wpAny _ _ (pyIter _) _ _ _ | show wpAny _ _ (setItem _ _ _) _ _ _ | show wpAny _ _ (eval (Expr.ListComp _ _ _ _) _) _ _ _ | show wpAny _ _ (exec (Stmt.Assign _ (Expr.ListComp _ _ _ _) _) _) _ _ _ | show InvPostG _ _ _ _ _ _ _ _ | show InvEndG _ _ _ _ _ _ | show OnG _ _ _ _ _ _ _ | show Fin _ _ _ _ _ _ | show KswEnd _ _ _ _ _ _ _ _ _ _ _ _ | show wpAny _ _ (call (Value.builtin "sorted") _) _ _ _ | show LCg.CompEnd _ _ _ _ _ _ _ _ _ _ _ _ _ _ | show LCg.CompSrc _ _ _ _ _ _ _ _ _ _ _ _ _ _ | show LCt.CompSrcT _ _ _ _ _ _ _ _ _ _ _ _ _ _ _)) | fail); walk1)) | (leave1; walk_say "STEP leave1"; try dsimp only) | fail "no step")) | fail)
      rename Fr _ _ _ _ => F7; rename News _ _ _ _ => N7
      k_dflt (refine LCt.Assign_ListComp_T (F₀ := F7) (cl := []) (by rfl) (by with_unfolding_all rfl) (by with_unfolding_all rfl) (by decide) (by rfl) (by decide) (by rfl) (by rfl) (by rfl) ?_)
      obtain ⟨lf, fvs, hf1, hf2, hf3⟩ := O.fixups.list
      replace hf3 : DIs (Hp K3) fvs ((fixes rows).map Fix.dat) := hf3
      have hfl := hf3.length
      have hfl2 := fixes_len rows
      rw [List.length_map] at hfl
      (first | ((try k_unmd); (try k_fold); repeat' (first | (k_unfold; (try dsimp only)) | (first | ((with_reducible show wpAny _ _ (call (Value.ref 131) _) _ _ _); k_here; k_dflt (refine goal_law (by k_asm) (by k_asm) (by k_asm) (by k_asm) (by rfl) (by (first | decide | ((try dsimp only [ktrTop, Around.deeper, Around.in1]); omega) | fail)) (by (first | decide | ((try dsimp only [ktrTop, Around.deeper, Around.in1]); omega) | fail)) (by k_asm) (by with_reducible assumption) (by (first | (intro p hp; first | (with_reducible (repeat' (first | exact hp | exact List.mem_append_left _ hp | exact List.mem_append_right _ hp | refine List.mem_cons_of_mem _ ?_)); done) | ((simp only [List.nil_append, List.cons_append, List.append_nil, List.append_assoc, List.mem_cons, List.mem_append, List.not_mem_nil, or_false, false_or] at hp ⊢); first | done | grind)) | fail)) (by with_reducible assumption) (by with_reducible assumption) (by omega) (by first | (with_reducible assumption) | rfl | fail) (by first | (with_reducible assumption) | omega | fail) ?_; k_whole); intro h' tk' t' F' N'; (try k_sweep)) | ((with_reducible show wpAny _ _ (call (Value.ref 112) _) _ _ _); k_here; k_dflt (refine draw_at (by k_asm) (by k_asm) (by k_asm) (by k_asm) (by rfl) (by (first | decide | ((try dsimp only [ktrTop, Around.deeper, Around.in1]); omega) | fail)) (by (first | decide | ((try dsimp only [ktrTop, Around.deeper, Around.in1]); omega) | fail)) (by k_asm) (by k_updF) (by with_reducible assumption) (by with_reducible assumption) (by omega) (by omega) ?_; k_whole); intro h' tk' vs' n' ns' x' t' F' N' hi' hl' x1'; (try k_sweep)) | ((with_reducible show wpAny _ _ (subscriptTail _ _ (Value.ref _) (Value.str _ _)) _ _ _); k_here; k_dflt (refine bd_item (knd := PySem.strKind _ _) (by k_asm) (by with_reducible assumption) (strKind_is _ _ _ _) (by with_reducible assumption) ?_ (by with_unfolding_all rfl); k_whole)) | ((with_reducible show wpAny _ _ (subscriptTail _ _ (Value.ref _) (Value.int _ _)) _ _ _); k_here; k_dflt (refine bd_item (knd := PySem.intKind _ _) (by k_asm) (by with_reducible assumption) (intKind_is _ _ _ _) (by with_reducible assumption) ?_ (by with_unfolding_all rfl); k_whole)) | fail) | ((first | (fail_if_success (with_reducible first | show wpAny _ _ (call (Value.ref _) _) _ _ _ | show wpAny _ _ (exec (Stmt.While _ _ _ _) _) _ _ _ | show wpAny _ _ (exec (Stmt.For _ _ _ _ _) _) _ _ _ | show wpAny _ _ (pyIter _) _ _ _ | show wpAny _ _ (setItem _ _ _) _ _ _ | show wpAny _ _ (eval (Expr.ListComp _ _ _ _) _) _ _ _ | show wpAny _ _ (exec (Stmt.Assign _ (Expr.ListComp _ _ _ _) _) _) _ _ _ | show InvPostG _ _ _ _ _ _ _ _ | show InvEndG _ _ _ _ _ _ | show OnG _ _ _ _ _ _ _ | show Fin _ _ _ _ _ _ | show KswEnd _ _ _ _ _ _ _ _ _ _ _ _ | show wpAny _ _ (call (Value.builtin "sorted") _) _ _ _ | show LCg.CompEnd _ _ _ _ _ _ _ _ _ _ _ _ _ _ | show LCg.CompSrc _ _ _ _ _ _ _ _ _ _ _ _ _ _ | show LCt.CompSrcT _ _ _ _ _ _ _ _ _ _ _ _ _ _ _)) | fail); first | walk1 | (dsimp only; (try k_fold); (first | (fail_if_success (with_reducible first | show wpAny _ _ (call (Value.ref _) _) _ _ _ | show wpAny _ _ (exec (Stmt.While _ _ _ _) _) _ _ _ | show wpAny _ _ (exec (Stmt.For _ _ _ _ _) _) _ _ _ | show wpAny _ _ (pyIter _) _ _ _ | show wpAny _ _ (setItem _ _ _) _ _ _ | show wpAny _ _ (eval (Expr.ListComp _ _ _ _) _) _ _ _ | show wpAny _ _ (exec (Stmt.Assign _ (Expr.ListComp _ _ _ _) _) _) _ _ _ | show InvPostG _ _ _ _ _ _ _ _ | show InvEndG _ _ _ _ _ _ | show OnG _ _ _ _ _ _ _ | show Fin _ _ _ _ _ _ | show KswEnd _ _ _ _ _ _ _ _ _ _ _ _ | show wpAny _ _ (call (Value.builtin "sorted") _) _ _ _ | show LCg.CompEnd _ _ _ _ _ _ _ _ _ _ _ _ _ _ | show LCg.CompSrc _ _ _ _ _ _ _ _ _ _ _ _ _ _ | show LCt.CompSrcT _ _ _ _ _ _ _ _ _ _ _ _ _ _ _)) | fail); walk1)) | (leave1; walk_say "STEP leave1"; try dsimp only) | fail "no step")) | fail)
      rename Fr _ _ _ _ => F7; rename News _ _ _ _ => N7
      refine compsrcT_k (by rfl) F7 N7 hKI3 (by (first | (intro p hp; first | (with_reducible (repeat' (first | exact hp | exact List.mem_append_left _ hp | exact List.mem_append_right _ hp | refine List.mem_cons_of_mem _ ?_)); done) | ((simp only [List.nil_append, List.cons_append, List.append_nil, List.append_assoc, List.mem_cons, List.mem_append, List.not_mem_nil, or_false, false_or] at hp ⊢); first | done | grind)) | fail)) hf2 (by omega) ?_
      intro g3 S hS
      refine compIT (fun _ : Unit => _ :: _ :: _ :: _ :: tl3) (fun i zs _ => IntsAre zs (kindN (Str.ofString "call") ((fixes rows).take i))) () .nil ?_ ?_
      · intro i zs c v I oI C oC D m₂ h tk E' hi hv hJ hC hx F6 N6 off ne
        obtain ⟨d1, hd1, hv1⟩ := hf3.at (show fvs[i]? = some v by simpa using hv)
        rw [List.getElem?_map] at hd1
        obtain ⟨f, hf0, rfl⟩ := Option.map_eq_some_iff.mp hd1
        have hsn := kindN_snoc (Str.ofString "call") hf0
        obtain ⟨frow, fkind, fm, fe⟩ := f
        clear hd1 hf0 F7 N7 hv
        refine di_fix hv1 ?_
        intro a9 t1 t2 t3 t4 ev ht
        clear hv1
        subst ev
        have hKd := kdMark
        dsimp only at hsn hx ht
        by_cases hq : fkind = Str.ofString "call"
        · subst hq
          rw [if_pos rfl] at hsn
          (first | ((try k_unmd); (try k_fold); repeat' (first | (k_unfold; (try dsimp only)) | (first | ((with_reducible show wpAny _ _ (call (Value.ref 131) _) _ _ _); k_here; k_dflt (refine goal_law (by k_asm) (by k_asm) (by k_asm) (by k_asm) (by rfl) (by (first | decide | ((try dsimp only [ktrTop, Around.deeper, Around.in1]); omega) | fail)) (by (first | decide | ((try dsimp only [ktrTop, Around.deeper, Around.in1]); omega) | fail)) (by k_asm) (by with_reducible assumption) (by (first | (intro p hp; first | (with_reducible (repeat' (first | exact hp | exact List.mem_append_left _ hp | exact List.mem_append_right _ hp | refine List.mem_cons_of_mem _ ?_)); done) | ((simp only [List.nil_append, List.cons_append, List.append_nil, List.append_assoc, List.mem_cons, List.mem_append, List.not_mem_nil, or_false, false_or] at hp ⊢); first | done | grind)) | fail)) (by with_reducible assumption) (by with_reducible assumption) (by omega) (by first | (with_reducible assumption) | rfl | fail) (by first | (with_reducible assumption) | omega | fail) ?_; k_whole); intro h' tk' t' F' N'; (try k_sweep)) | ((with_reducible show wpAny _ _ (call (Value.ref 112) _) _ _ _); k_here; k_dflt (refine draw_at (by k_asm) (by k_asm) (by k_asm) (by k_asm) (by rfl) (by (first | decide | ((try dsimp only [ktrTop, Around.deeper, Around.in1]); omega) | fail)) (by (first | decide | ((try dsimp only [ktrTop, Around.deeper, Around.in1]); omega) | fail)) (by k_asm) (by k_updF) (by with_reducible assumption) (by with_reducible assumption) (by omega) (by omega) ?_; k_whole); intro h' tk' vs' n' ns' x' t' F' N' hi' hl' x1'; (try k_sweep)) | ((with_reducible show wpAny _ _ (subscriptTail _ _ (Value.ref _) (Value.str _ _)) _ _ _); k_here; k_dflt (refine bd_item (knd := PySem.strKind _ _) (by k_asm) (by with_reducible assumption) (strKind_is _ _ _ _) (by with_reducible assumption) ?_ (by with_unfolding_all rfl); k_whole)) | ((with_reducible show wpAny _ _ (subscriptTail _ _ (Value.ref _) (Value.int _ _)) _ _ _); k_here; k_dflt (refine bd_item (knd := PySem.intKind _ _) (by k_asm) (by with_reducible assumption) (intKind_is _ _ _ _) (by with_reducible assumption) ?_ (by with_unfolding_all rfl); k_whole)) | fail) | ((first | (fail_if_success (with_reducible first | show wpAny _ _ (call (Value.ref _) _) _ _ _ | show wpAny _ _ (exec (Stmt.While _ _ _ _) _) _ _ _ | show wpAny _ _ (exec (Stmt.For _ _ _ _ _) _) _ _ _ | show wpAny _ _ (pyIter _) _ _ _ | show wpAny _ _ (setItem _ _ _) _ _ _ | show wpAny _ _ (eval (Expr.ListComp _ _ _ _) _) _ _ _ | show wpAny _ _ (exec (Stmt.Assign _ (Expr.ListComp _ _ _ _) _) _) _ _ _ | show InvPostG _ _ _ _ _ _ _ _ | show InvEndG _ _ _ _ _ _ | show OnG _ _ _ _ _ _ _ | show Fin _ _ _ _ _ _ | show KswEnd _ _ _ _ _ _ _ _ _ _ _ _ | show wpAny _ _ (call (Value.builtin "sorted") _) _ _ _ | show LCg.CompEnd _ _ _ _ _ _ _ _ _ _ _ _ _ _ | show LCg.CompSrc _ _ _ _ _ _ _ _ _ _ _ _ _ _ | show LCt.CompSrcT _ _ _ _ _ _ _ _ _ _ _ _ _ _ _)) | fail); first | walk1 | (dsimp only; (try k_fold); (first | (fail_if_success (with_reducible first | show wpAny _ _ (call (Value.ref _) _) _ _ _ | show wpAny _ _ (exec (Stmt.While _ _ _ _) _) _ _ _ | show wpAny _ _ (exec (Stmt.For _ _ _ _ _) _) _ _ _ | show wpAny _ _ (pyIter _) _ _ _ | show wpAny _ _ (setItem _ _ _) _ _ _ | show wpAny _ _ (eval (Expr.ListComp _ _ _ _) _) _ _ _ | show wpAny _ _ (exec (Stmt.Assign _ (Expr.ListComp _ _ _ _) _) _) _ _ _ | show InvPostG _ _ _ _ _ _ _ _ | show InvEndG _ _ _ _ _ _ | show OnG _ _ _ _ _ _ _ | show Fin _ _ _ _ _ _ | show KswEnd _ _ _ _ _ _ _ _ _ _ _ _ | show wpAny _ _ (call (Value.builtin "sorted") _) _ _ _ | show LCg.CompEnd _ _ _ _ _ _ _ _ _ _ _ _ _ _ | show LCg.CompSrc _ _ _ _ _ _ _ _ _ _ _ _ _ _ | show LCt.CompSrcT _ _ _ _ _ _ _ _ _ _ _ _ _ _ _)) | fail); walk1)) | (leave1; walk_say "STEP leave1"; try dsimp only) | fail "no step")) | fail)
          exact LCg.CompEnd.intro F6 N6 _ (fun p hp => hp) off (hS _ fun p hp => by repeat' (first | exact hp | refine List.Mem.tail _ ?_)) ⟨(), rfl, by rw [hsn]; exact hJ.append (.cons _ _ .nil)⟩
        · have hq' : (fkind == Str.ofString "call") = false := by simpa using hq
          rw [if_neg hq, List.append_nil] at hsn
          (first | ((try k_unmd); (try k_fold); repeat' (first | (k_unfold; (try dsimp only)) | (first | ((with_reducible show wpAny _ _ (call (Value.ref 131) _) _ _ _); k_here; k_dflt (refine goal_law (by k_asm) (by k_asm) (by k_asm) (by k_asm) (by rfl) (by (first | decide | ((try dsimp only [ktrTop, Around.deeper, Around.in1]); omega) | fail)) (by (first | decide | ((try dsimp only [ktrTop, Around.deeper, Around.in1]); omega) | fail)) (by k_asm) (by with_reducible assumption) (by (first | (intro p hp; first | (with_reducible (repeat' (first | exact hp | exact List.mem_append_left _ hp | exact List.mem_append_right _ hp | refine List.mem_cons_of_mem _ ?_)); done) | ((simp only [List.nil_append, List.cons_append, List.append_nil, List.append_assoc, List.mem_cons, List.mem_append, List.not_mem_nil, or_false, false_or] at hp ⊢); first | done | grind)) | fail)) (by with_reducible assumption) (by with_reducible assumption) (by omega) (by first | (with_reducible assumption) | rfl | fail) (by first | (with_reducible assumption) | omega | fail) ?_; k_whole); intro h' tk' t' F' N'; (try k_sweep)) | ((with_reducible show wpAny _ _ (call (Value.ref 112) _) _ _ _); k_here; k_dflt (refine draw_at (by k_asm) (by k_asm) (by k_asm) (by k_asm) (by rfl) (by (first | decide | ((try dsimp only [ktrTop, Around.deeper, Around.in1]); omega) | fail)) (by (first | decide | ((try dsimp only [ktrTop, Around.deeper, Around.in1]); omega) | fail)) (by k_asm) (by k_updF) (by with_reducible assumption) (by with_reducible assumption) (by omega) (by omega) ?_; k_whole); intro h' tk' vs' n' ns' x' t' F' N' hi' hl' x1'; (try k_sweep)) | ((with_reducible show wpAny _ _ (subscriptTail _ _ (Value.ref _) (Value.str _ _)) _ _ _); k_here; k_dflt (refine bd_item (knd := PySem.strKind _ _) (by k_asm) (by with_reducible assumption) (strKind_is _ _ _ _) (by with_reducible assumption) ?_ (by with_unfolding_all rfl); k_whole)) | ((with_reducible show wpAny _ _ (subscriptTail _ _ (Value.ref _) (Value.int _ _)) _ _ _); k_here; k_dflt (refine bd_item (knd := PySem.intKind _ _) (by k_asm) (by with_reducible assumption) (intKind_is _ _ _ _) (by with_reducible assumption) ?_ (by with_unfolding_all rfl); k_whole)) | fail) | ((first | (fail_if_success (with_reducible first | show wpAny _ _ (call (Value.ref _) _) _ _ _ | show wpAny _ _ (exec (Stmt.While _ _ _ _) _) _ _ _ | show wpAny _ _ (exec (Stmt.For _ _ _ _ _) _) _ _ _ | show wpAny _ _ (pyIter _) _ _ _ | show wpAny _ _ (setItem _ _ _) _ _ _ | show wpAny _ _ (eval (Expr.ListComp _ _ _ _) _) _ _ _ | show wpAny _ _ (exec (Stmt.Assign _ (Expr.ListComp _ _ _ _) _) _) _ _ _ | show InvPostG _ _ _ _ _ _ _ _ | show InvEndG _ _ _ _ _ _ | show OnG _ _ _ _ _ _ _ | show Fin _ _ _ _ _ _ | show KswEnd _ _ _ _ _ _ _ _ _ _ _ _ | show wpAny _ _ (call (Value.builtin "sorted") _) _ _ _ | show LCg.CompEnd _ _ _ _ _ _ _ _ _ _ _ _ _ _ | show LCg.CompSrc _ _ _ _ _ _ _ _ _ _ _ _ _ _ | show LCt.CompSrcT _ _ _ _ _ _ _ _ _ _ _ _ _ _ _)) | fail); first | walk1 | (dsimp only; (try k_fold); (first | (fail_if_success (with_reducible first | show wpAny _ _ (call (Value.ref _) _) _ _ _ | show wpAny _ _ (exec (Stmt.While _ _ _ _) _) _ _ _ | show wpAny _ _ (exec (Stmt.For _ _ _ _ _) _) _ _ _ | show wpAny _ _ (pyIter _) _ _ _ | show wpAny _ _ (setItem _ _ _) _ _ _ | show wpAny _ _ (eval (Expr.ListComp _ _ _ _) _) _ _ _ | show wpAny _ _ (exec (Stmt.Assign _ (Expr.ListComp _ _ _ _) _) _) _ _ _ | show InvPostG _ _ _ _ _ _ _ _ | show InvEndG _ _ _ _ _ _ | show OnG _ _ _ _ _ _ _ | show Fin _ _ _ _ _ _ | show KswEnd _ _ _ _ _ _ _ _ _ _ _ _ | show wpAny _ _ (call (Value.builtin "sorted") _) _ _ _ | show LCg.CompEnd _ _ _ _ _ _ _ _ _ _ _ _ _ _ | show LCg.CompSrc _ _ _ _ _ _ _ _ _ _ _ _ _ _ | show LCt.CompSrcT _ _ _ _ _ _ _ _ _ _ _ _ _ _ _)) | fail); walk1)) | (leave1; walk_say "STEP leave1"; try dsimp only) | fail "no step")) | fail)
          exact LCg.CompEnd.intro F6 N6 _ (fun p hp => hp) off (hS _ fun p hp => by repeat' (first | exact hp | refine List.Mem.tail _ ?_)) ⟨(), rfl, by rw [hsn]; exact hJ⟩
      · intro aw c haw
        unfold LCg.FinA
        intro Daw h3 tk3 F8 N8 offaw
        rw [List.take_of_length_le (by omega)] at haw
        clear F7 N7 hS
        (try dsimp only)
        (first | ((try k_unmd); (try k_fold); repeat' (first | (k_unfold; (try dsimp only)) | (first | ((with_reducible show wpAny _ _ (call (Value.ref 131) _) _ _ _); k_here; k_dflt (refine goal_law (by k_asm) (by k_asm) (by k_asm) (by k_asm) (by rfl) (by (first | decide | ((try dsimp only [ktrTop, Around.deeper, Around.in1]); omega) | fail)) (by (first | decide | ((try dsimp only [ktrTop, Around.deeper, Around.in1]); omega) | fail)) (by k_asm) (by with_reducible assumption) (by (first | (intro p hp; first | (with_reducible (repeat' (first | exact hp | exact List.mem_append_left _ hp | exact List.mem_append_right _ hp | refine List.mem_cons_of_mem _ ?_)); done) | ((simp only [List.nil_append, List.cons_append, List.append_nil, List.append_assoc, List.mem_cons, List.mem_append, List.not_mem_nil, or_false, false_or] at hp ⊢); first | done | grind)) | fail)) (by with_reducible assumption) (by with_reducible assumption) (by omega) (by first | (with_reducible assumption) | rfl | fail) (by first | (with_reducible assumption) | omega | fail) ?_; k_whole); intro h' tk' t' F' N'; (try k_sweep)) | ((with_reducible show wpAny _ _ (call (Value.ref 112) _) _ _ _); k_here; k_dflt (refine draw_at (by k_asm) (by k_asm) (by k_asm) (by k_asm) (by rfl) (by (first | decide | ((try dsimp only [ktrTop, Around.deeper, Around.in1]); omega) | fail)) (by (first | decide | ((try dsimp only [ktrTop, Around.deeper, Around.in1]); omega) | fail)) (by k_asm) (by k_updF) (by with_reducible assumption) (by with_reducible assumption) (by omega) (by omega) ?_; k_whole); intro h' tk' vs' n' ns' x' t' F' N' hi' hl' x1'; (try k_sweep)) | ((with_reducible show wpAny _ _ (subscriptTail _ _ (Value.ref _) (Value.str _ _)) _ _ _); k_here; k_dflt (refine bd_item (knd := PySem.strKind _ _) (by k_asm) (by with_reducible assumption) (strKind_is _ _ _ _) (by with_reducible assumption) ?_ (by with_unfolding_all rfl); k_whole)) | ((with_reducible show wpAny _ _ (subscriptTail _ _ (Value.ref _) (Value.int _ _)) _ _ _); k_here; k_dflt (refine bd_item (knd := PySem.intKind _ _) (by k_asm) (by with_reducible assumption) (intKind_is _ _ _ _) (by with_reducible assumption) ?_ (by with_unfolding_all rfl); k_whole)) | fail) | ((first | (fail_if_success (with_reducible first | show wpAny _ _ (call (Value.ref _) _) _ _ _ | show wpAny _ _ (exec (Stmt.While _ _ _ _) _) _ _ _ | show wpAny _ _ (exec (Stmt.For _ _ _ _ _) _) _ _ _ | show wpAny _ _ (pyIter _) _ _ _ | show wpAny _ _ (setItem _ _ _) _ _ _ | show wpAny _ _ (eval (Expr.ListComp _ _ _ _) _) _ _ _ | show wpAny _ _ (exec (Stmt.Assign _ (Expr.ListComp _ _ _ _) _) _) _ _ _ | show InvPostG _ _ _ _ _ _ _ _ | show InvEndG _ _ _ _ _ _ | show OnG _ _ _ _ _ _ _ | show Fin _ _ _ _ _ _ | show KswEnd _ _ _ _ _ _ _ _ _ _ _ _ | show wpAny _ _ (call (Value.builtin "sorted") _) _ _ _ | show LCg.CompEnd _ _ _ _ _ _ _ _ _ _ _ _ _ _ | show LCg.CompSrc _ _ _ _ _ _ _ _ _ _ _ _ _ _ | show LCt.CompSrcT _ _ _ _ _ _ _ _ _ _ _ _ _ _ _)) | fail); first | walk1 | (dsimp only; (try k_fold); (first | (fail_if_success (with_reducible first | show wpAny _ _ (call (Value.ref _) _) _ _ _ | show wpAny _ _ (exec (Stmt.While _ _ _ _) _) _ _ _ | show wpAny _ _ (exec (Stmt.For _ _ _ _ _) _) _ _ _ | show wpAny _ _ (pyIter _) _ _ _ | show wpAny _ _ (setItem _ _ _) _ _ _ | show wpAny _ _ (eval (Expr.ListComp _ _ _ _) _) _ _ _ | show wpAny _ _ (exec (Stmt.Assign _ (Expr.ListComp _ _ _ _) _) _) _ _ _ | show InvPostG _ _ _ _ _ _ _ _ | show InvEndG _ _ _ _ _ _ | show OnG _ _ _ _ _ _ _ | show Fin _ _ _ _ _ _ | show KswEnd _ _ _ _ _ _ _ _ _ _ _ _ | show wpAny _ _ (call (Value.builtin "sorted") _) _ _ _ | show LCg.CompEnd _ _ _ _ _ _ _ _ _ _ _ _ _ _ | show LCg.CompSrc _ _ _ _ _ _ _ _ _ _ _ _ _ _ | show LCt.CompSrcT _ _ _ _ _ _ _ _ _ _ _ _ _ _ _)) | fail); walk1)) | (leave1; walk_say "STEP leave1"; try dsimp only) | fail "no step")) | fail)
        have hKd := kdMark
        k_dflt (refine LCt.Assign_ListComp_T (F₀ := F8) (cl := []) (by rfl) (by with_unfolding_all rfl) (by with_unfolding_all rfl) (by decide) (by rfl) (by decide) (by rfl) (by rfl) (by rfl) ?_)
        (first | ((try k_unmd); (try k_fold); repeat' (first | (k_unfold; (try dsimp only)) | (first | ((with_reducible show wpAny _ _ (call (Value.ref 131) _) _ _ _); k_here; k_dflt (refine goal_law (by k_asm) (by k_asm) (by k_asm) (by k_asm) (by rfl) (by (first | decide | ((try dsimp only [ktrTop, Around.deeper, Around.in1]); omega) | fail)) (by (first | decide | ((try dsimp only [ktrTop, Around.deeper, Around.in1]); omega) | fail)) (by k_asm) (by with_reducible assumption) (by (first | (intro p hp; first | (with_reducible (repeat' (first | exact hp | exact List.mem_append_left _ hp | exact List.mem_append_right _ hp | refine List.mem_cons_of_mem _ ?_)); done) | ((simp only [List.nil_append, List.cons_append, List.append_nil, List.append_assoc, List.mem_cons, List.mem_append, List.not_mem_nil, or_false, false_or] at hp ⊢); first | done | grind)) | fail)) (by with_reducible assumption) (by with_reducible assumption) (by omega) (by first | (with_reducible assumption) | rfl | fail) (by first | (with_reducible assumption) | omega | fail) ?_; k_whole); intro h' tk' t' F' N'; (try k_sweep)) | ((with_reducible show wpAny _ _ (call (Value.ref 112) _) _ _ _); k_here; k_dflt (refine draw_at (by k_asm) (by k_asm) (by k_asm) (by k_asm) (by rfl) (by (first | decide | ((try dsimp only [ktrTop, Around.deeper, Around.in1]); omega) | fail)) (by (first | decide | ((try dsimp only [ktrTop, Around.deeper, Around.in1]); omega) | fail)) (by k_asm) (by k_updF) (by with_reducible assumption) (by with_reducible assumption) (by omega) (by omega) ?_; k_whole); intro h' tk' vs' n' ns' x' t' F' N' hi' hl' x1'; (try k_sweep)) | ((with_reducible show wpAny _ _ (subscriptTail _ _ (Value.ref _) (Value.str _ _)) _ _ _); k_here; k_dflt (refine bd_item (knd := PySem.strKind _ _) (by k_asm) (by with_reducible assumption) (strKind_is _ _ _ _) (by with_reducible assumption) ?_ (by with_unfolding_all rfl); k_whole)) | ((with_reducible show wpAny _ _ (subscriptTail _ _ (Value.ref _) (Value.int _ _)) _ _ _); k_here; k_dflt (refine bd_item (knd := PySem.intKind _ _) (by k_asm) (by with_reducible assumption) (intKind_is _ _ _ _) (by with_reducible assumption) ?_ (by with_unfolding_all rfl); k_whole)) | fail) | ((first | (fail_if_success (with_reducible first | show wpAny _ _ (call (Value.ref _) _) _ _ _ | show wpAny _ _ (exec (Stmt.While _ _ _ _) _) _ _ _ | show wpAny _ _ (exec (Stmt.For _ _ _ _ _) _) _ _ _ | show wpAny _ _ (pyIter _) _ _ _ | show wpAny _ _ (setItem _ _ _) _ _ _ | show wpAny _ _ (eval (Expr.ListComp _ _ _ _) _) _ _ _ | show wpAny _ _ (exec (Stmt.Assign _ (Expr.ListComp _ _ _ _) _) _) _ _ _ | show InvPostG _ _ _ _ _ _ _ _ | show InvEndG _ _ _ _ _ _ | show OnG _ _ _ _ _ _ _ | show Fin _ _ _ _ _ _ | show KswEnd _ _ _ _ _ _ _ _ _ _ _ _ | show wpAny _ _ (call (Value.builtin "sorted") _) _ _ _ | show LCg.CompEnd _ _ _ _ _ _ _ _ _ _ _ _ _ _ | show LCg.CompSrc _ _ _ _ _ _ _ _ _ _ _ _ _ _ | show LCt.CompSrcT _ _ _ _ _ _ _ _ _ _ _ _ _ _ _)) | fail); first | walk1 | (dsimp only; (try k_fold); (first | (fail_if_success (with_reducible first | show wpAny _ _ (call (Value.ref _) _) _ _ _ | show wpAny _ _ (exec (Stmt.While _ _ _ _) _) _ _ _ | show wpAny _ _ (exec (Stmt.For _ _ _ _ _) _) _ _ _ | show wpAny _ _ (pyIter _) _ _ _ | show wpAny _ _ (setItem _ _ _) _ _ _ | show wpAny _ _ (eval (Expr.ListComp _ _ _ _) _) _ _ _ | show wpAny _ _ (exec (Stmt.Assign _ (Expr.ListComp _ _ _ _) _) _) _ _ _ | show InvPostG _ _ _ _ _ _ _ _ | show InvEndG _ _ _ _ _ _ | show OnG _ _ _ _ _ _ _ | show Fin _ _ _ _ _ _ | show KswEnd _ _ _ _ _ _ _ _ _ _ _ _ | show wpAny _ _ (call (Value.builtin "sorted") _) _ _ _ | show LCg.CompEnd _ _ _ _ _ _ _ _ _ _ _ _ _ _ | show LCg.CompSrc _ _ _ _ _ _ _ _ _ _ _ _ _ _ | show LCt.CompSrcT _ _ _ _ _ _ _ _ _ _ _ _ _ _ _)) | fail); walk1)) | (leave1; walk_say "STEP leave1"; try dsimp only) | fail "no step")) | fail)
        rename Fr _ _ _ _ => F7; rename News _ _ _ _ => N7
        refine compsrcT_k (by rfl) F7 N7 hKI3 (by (first | (intro p hp; first | (with_reducible (repeat' (first | exact hp | exact List.mem_append_left _ hp | exact List.mem_append_right _ hp | refine List.mem_cons_of_mem _ ?_)); done) | ((simp only [List.nil_append, List.cons_append, List.append_nil, List.append_assoc, List.mem_cons, List.mem_append, List.not_mem_nil, or_false, false_or] at hp ⊢); first | done | grind)) | fail)) hf2 (by omega) ?_
        intro g3 S hS
        refine compIT (fun _ : Unit => _ :: _ :: _ :: _ :: _ :: tl3) (fun i zs _ => IntsAre zs (kindN (Str.ofString "addr") ((fixes rows).take i))) () .nil ?_ ?_
        · intro i zs c v I oI C oC D m₂ h tk E' hi hv hJ hC hx F6 N6 off ne
          obtain ⟨d1, hd1, hv1⟩ := hf3.at (show fvs[i]? = some v by simpa using hv)
          rw [List.getElem?_map] at hd1
          obtain ⟨f, hf0, rfl⟩ := Option.map_eq_some_iff.mp hd1
          have hsn := kindN_snoc (Str.ofString "addr") hf0
          obtain ⟨frow, fkind, fm, fe⟩ := f
          clear hd1 hf0 F7 N7 hv
          refine di_fix hv1 ?_
          intro a9 t1 t2 t3 t4 ev ht
          clear hv1
          subst ev
          have hKd := kdMark
          dsimp only at hsn hx ht
          by_cases hq : fkind = Str.ofString "addr"
          · subst hq
            rw [if_pos rfl] at hsn
            (first | ((try k_unmd); (try k_fold); repeat' (first | (k_unfold; (try dsimp only)) | (first | ((with_reducible show wpAny _ _ (call (Value.ref 131) _) _ _ _); k_here; k_dflt (refine goal_law (by k_asm) (by k_asm) (by k_asm) (by k_asm) (by rfl) (by (first | decide | ((try dsimp only [ktrTop, Around.deeper, Around.in1]); omega) | fail)) (by (first | decide | ((try dsimp only [ktrTop, Around.deeper, Around.in1]); omega) | fail)) (by k_asm) (by with_reducible assumption) (by (first | (intro p hp; first | (with_reducible (repeat' (first | exact hp | exact List.mem_append_left _ hp | exact List.mem_append_right _ hp | refine List.mem_cons_of_mem _ ?_)); done) | ((simp only [List.nil_append, List.cons_append, List.append_nil, List.append_assoc, List.mem_cons, List.mem_append, List.not_mem_nil, or_false, false_or] at hp ⊢); first | done | grind)) | fail)) (by with_reducible assumption) (by with_reducible assumption) (by omega) (by first | (with_reducible assumption) | rfl | fail) (by first | (with_reducible assumption) | omega | fail) ?_; k_whole); intro h' tk' t' F' N'; (try k_sweep)) | ((with_reducible show wpAny _ _ (call (Value.ref 112) _) _ _ _); k_here; k_dflt (refine draw_at (by k_asm) (by k_asm) (by k_asm) (by k_asm) (by rfl) (by (first | decide | ((try dsimp only [ktrTop, Around.deeper, Around.in1]); omega) | fail)) (by (first | decide | ((try dsimp only [ktrTop, Around.deeper, Around.in1]); omega) | fail)) (by k_asm) (by k_updF) (by with_reducible assumption) (by with_reducible assumption) (by omega) (by omega) ?_; k_whole); intro h' tk' vs' n' ns' x' t' F' N' hi' hl' x1'; (try k_sweep)) | ((with_reducible show wpAny _ _ (subscriptTail _ _ (Value.ref _) (Value.str _ _)) _ _ _); k_here; k_dflt (refine bd_item (knd := PySem.strKind _ _) (by k_asm) (by with_reducible assumption) (strKind_is _ _ _ _) (by with_reducible assumption) ?_ (by with_unfolding_all rfl); k_whole)) | ((with_reducible show wpAny _ _ (subscriptTail _ _ (Value.ref _) (Value.int _ _)) _ _ _); k_here; k_dflt (refine bd_item (knd := PySem.intKind _ _) (by k_asm) (by with_reducible assumption) (intKind_is _ _ _ _) (by with_reducible assumption) ?_ (by with_unfolding_all rfl); k_whole)) | fail) | ((first | (fail_if_success (with_reducible first | show wpAny _ _ (call (Value.ref _) _) _ _ _ | show wpAny _ _ (exec (Stmt.While _ _ _ _) _) _ _ _ | show wpAny _ _ (exec (Stmt.For _ _ _ _ _) _) _ _ _ | show wpAny _ _ (pyIter _) _ _ _ | show wpAny _ _ (setItem _ _ _) _ _ _ | show wpAny _ _ (eval (Expr.ListComp _ _ _ _) _) _ _ _ | show wpAny _ _ (exec (Stmt.Assign _ (Expr.ListComp _ _ _ _) _) _) _ _ _ | show InvPostG _ _ _ _ _ _ _ _ | show InvEndG _ _ _ _ _ _ | show OnG _ _ _ _ _ _ _ | show Fin _ _ _ _ _ _ | show KswEnd _ _ _ _ _ _ _ _ _ _ _ _ | show wpAny _ _ (call (Value.builtin "sorted") _) _ _ _ | show LCg.CompEnd _ _ _ _ _ _ _ _ _ _ _ _ _ _ | show LCg.CompSrc _ _ _ _ _ _ _ _ _ _ _ _ _ _ | show LCt.CompSrcT _ _ _ _ _ _ _ _ _ _ _ _ _ _ _)) | fail); first | walk1 | (dsimp only; (try k_fold); (first | (fail_if_success (with_reducible first | show wpAny _ _ (call (Value.ref _) _) _ _ _ | show wpAny _ _ (exec (Stmt.While _ _ _ _) _) _ _ _ | show wpAny _ _ (exec (Stmt.For _ _ _ _ _) _) _ _ _ | show wpAny _ _ (pyIter _) _ _ _ | show wpAny _ _ (setItem _ _ _) _ _ _ | show wpAny _ _ (eval (Expr.ListComp _ _ _ _) _) _ _ _ | show wpAny _ _ (exec (Stmt.Assign _ (Expr.ListComp _ _ _ _) _) _) _ _ _ | show InvPostG _ _ _ _ _ _ _ _ | show InvEndG _ _ _ _ _ _ | show OnG _ _ _ _ _ _ _ | show Fin _ _ _ _ _ _ | show KswEnd _ _ _ _ _ _ _ _ _ _ _ _ | show wpAny _ _ (call (Value.builtin "sorted") _) _ _ _ | show LCg.CompEnd _ _ _ _ _ _ _ _ _ _ _ _ _ _ | show LCg.CompSrc _ _ _ _ _ _ _ _ _ _ _ _ _ _ | show LCt.CompSrcT _ _ _ _ _ _ _ _ _ _ _ _ _ _ _)) | fail); walk1)) | (leave1; walk_say "STEP leave1"; try dsimp only) | fail "no step")) | fail)
            exact LCg.CompEnd.intro F6 N6 _ (fun p hp => hp) off (hS _ fun p hp => by repeat' (first | exact hp | refine List.Mem.tail _ ?_)) ⟨(), rfl, by rw [hsn]; exact hJ.append (.cons _ _ .nil)⟩
          · have hq' : (fkind == Str.ofString "addr") = false := by simpa using hq
            rw [if_neg hq, List.append_nil] at hsn
            (first | ((try k_unmd); (try k_fold); repeat' (first | (k_unfold; (try dsimp only)) | (first | ((with_reducible show wpAny _ _ (call (Value.ref 131) _) _ _ _); k_here; k_dflt (refine goal_law (by k_asm) (by k_asm) (by k_asm) (by k_asm) (by rfl) (by (first | decide | ((try dsimp only [ktrTop, Around.deeper, Around.in1]); omega) | fail)) (by (first | decide | ((try dsimp only [ktrTop, Around.deeper, Around.in1]); omega) | fail)) (by k_asm) (by with_reducible assumption) (by (first | (intro p hp; first | (with_reducible (repeat' (first | exact hp | exact List.mem_append_left _ hp | exact List.mem_append_right _ hp | refine List.mem_cons_of_mem _ ?_)); done) | ((simp only [List.nil_append, List.cons_append, List.append_nil, List.append_assoc, List.mem_cons, List.mem_append, List.not_mem_nil, or_false, false_or] at hp ⊢); first | done | grind)) | fail)) (by with_reducible assumption) (by with_reducible assumption) (by omega) (by first | (with_reducible assumption) | rfl | fail) (by first | (with_reducible assumption) | omega | fail) ?_; k_whole); intro h' tk' t' F' N'; (try k_sweep)) | ((with_reducible show wpAny _ _ (call (Value.ref 112) _) _ _ _); k_here; k_dflt (refine draw_at (by k_asm) (by k_asm) (by k_asm) (by k_asm) (by rfl) (by (first | decide | ((try dsimp only [ktrTop, Around.deeper, Around.in1]); omega) | fail)) (by (first | decide | ((try dsimp only [ktrTop, Around.deeper, Around.in1]); omega) | fail)) (by k_asm) (by k_updF) (by with_reducible assumption) (by with_reducible assumption) (by omega) (by omega) ?_; k_whole); intro h' tk' vs' n' ns' x' t' F' N' hi' hl' x1'; (try k_sweep)) | ((with_reducible show wpAny _ _ (subscriptTail _ _ (Value.ref _) (Value.str _ _)) _ _ _); k_here; k_dflt (refine bd_item (knd := PySem.strKind _ _) (by k_asm) (by with_reducible assumption) (strKind_is _ _ _ _) (by with_reducible assumption) ?_ (by with_unfolding_all rfl); k_whole)) | ((with_reducible show wpAny _ _ (subscriptTail _ _ (Value.ref _) (Value.int _ _)) _ _ _); k_here; k_dflt (refine bd_item (knd := PySem.intKind _ _) (by k_asm) (by with_reducible assumption) (intKind_is _ _ _ _) (by with_reducible assumption) ?_ (by with_unfolding_all rfl); k_whole)) | fail) | ((first | (fail_if_success (with_reducible first | show wpAny _ _ (call (Value.ref _) _) _ _ _ | show wpAny _ _ (exec (Stmt.While _ _ _ _) _) _ _ _ | show wpAny _ _ (exec (Stmt.For _ _ _ _ _) _) _ _ _ | show wpAny _ _ (pyIter _) _ _ _ | show wpAny _ _ (setItem _ _ _) _ _ _ | show wpAny _ _ (eval (Expr.ListComp _ _ _ _) _) _ _ _ | show wpAny _ _ (exec (Stmt.Assign _ (Expr.ListComp _ _ _ _) _) _) _ _ _ | show InvPostG _ _ _ _ _ _ _ _ | show InvEndG _ _ _ _ _ _ | show OnG _ _ _ _ _ _ _ | show Fin _ _ _ _ _ _ | show KswEnd _ _ _ _ _ _ _ _ _ _ _ _ | show wpAny _ _ (call (Value.builtin "sorted") _) _ _ _ | show LCg.CompEnd _ _ _ _ _ _ _ _ _ _ _ _ _ _ | show LCg.CompSrc _ _ _ _ _ _ _ _ _ _ _ _ _ _ | show LCt.CompSrcT _ _ _ _ _ _ _ _ _ _ _ _ _ _ _)) | fail); first | walk1 | (dsimp only; (try k_fold); (first | (fail_if_success (with_reducible first | show wpAny _ _ (call (Value.ref _) _) _ _ _ | show wpAny _ _ (exec (Stmt.While _ _ _ _) _) _ _ _ | show wpAny _ _ (exec (Stmt.For _ _ _ _ _) _) _ _ _ | show wpAny _ _ (pyIter _) _ _ _ | show wpAny _ _ (setItem _ _ _) _ _ _ | show wpAny _ _ (eval (Expr.ListComp _ _ _ _) _) _ _ _ | show wpAny _ _ (exec (Stmt.Assign _ (Expr.ListComp _ _ _ _) _) _) _ _ _ | show InvPostG _ _ _ _ _ _ _ _ | show InvEndG _ _ _ _ _ _ | show OnG _ _ _ _ _ _ _ | show Fin _ _ _ _ _ _ | show KswEnd _ _ _ _ _ _ _ _ _ _ _ _ | show wpAny _ _ (call (Value.builtin "sorted") _) _ _ _ | show LCg.CompEnd _ _ _ _ _ _ _ _ _ _ _ _ _ _ | show LCg.CompSrc _ _ _ _ _ _ _ _ _ _ _ _ _ _ | show LCt.CompSrcT _ _ _ _ _ _ _ _ _ _ _ _ _ _ _)) | fail); walk1)) | (leave1; walk_say "STEP leave1"; try dsimp only) | fail "no step")) | fail)
            exact LCg.CompEnd.intro F6 N6 _ (fun p hp => hp) off (hS _ fun p hp => by repeat' (first | exact hp | refine List.Mem.tail _ ?_)) ⟨(), rfl, by rw [hsn]; exact hJ⟩
        · intro hd c hhd
          unfold LCg.FinA
          intro Dhd h3 tk3 F8 N8 offhd
          rw [List.take_of_length_le (by omega)] at hhd
          clear F7 N7 hS
          (try dsimp only)
          have hKd := kdMark
          (first | ((try k_unmd); (try k_fold); repeat' (first | (k_unfold; (try dsimp only)) | (first | ((with_reducible show wpAny _ _ (call (Value.ref 131) _) _ _ _); k_here; k_dflt (refine goal_law (by k_asm) (by k_asm) (by k_asm) (by k_asm) (by rfl) (by (first | decide | ((try dsimp only [ktrTop, Around.deeper, Around.in1]); omega) | fail)) (by (first | decide | ((try dsimp only [ktrTop, Around.deeper, Around.in1]); omega) | fail)) (by k_asm) (by with_reducible assumption) (by (first | (intro p hp; first | (with_reducible (repeat' (first | exact hp | exact List.mem_append_left _ hp | exact List.mem_append_right _ hp | refine List.mem_cons_of_mem _ ?_)); done) | ((simp only [List.nil_append, List.cons_append, List.append_nil, List.append_assoc, List.mem_cons, List.mem_append, List.not_mem_nil, or_false, false_or] at hp ⊢); first | done | grind)) | fail)) (by with_reducible assumption) (by with_reducible assumption) (by omega) (by first | (with_reducible assumption) | rfl | fail) (by first | (with_reducible assumption) | omega | fail) ?_; k_whole); intro h' tk' t' F' N'; (try k_sweep)) | ((with_reducible show wpAny _ _ (call (Value.ref 112) _) _ _ _); k_here; k_dflt (refine draw_at (by k_asm) (by k_asm) (by k_asm) (by k_asm) (by rfl) (by (first | decide | ((try dsimp only [ktrTop, Around.deeper, Around.in1]); omega) | fail)) (by (first | decide | ((try dsimp only [ktrTop, Around.deeper, Around.in1]); omega) | fail)) (by k_asm) (by k_updF) (by with_reducible assumption) (by with_reducible assumption) (by omega) (by omega) ?_; k_whole); intro h' tk' vs' n' ns' x' t' F' N' hi' hl' x1'; (try k_sweep)) | ((with_reducible show wpAny _ _ (subscriptTail _ _ (Value.ref _) (Value.str _ _)) _ _ _); k_here; k_dflt (refine bd_item (knd := PySem.strKind _ _) (by k_asm) (by with_reducible assumption) (strKind_is _ _ _ _) (by with_reducible assumption) ?_ (by with_unfolding_all rfl); k_whole)) | ((with_reducible show wpAny _ _ (subscriptTail _ _ (Value.ref _) (Value.int _ _)) _ _ _); k_here; k_dflt (refine bd_item (knd := PySem.intKind _ _) (by k_asm) (by with_reducible assumption) (intKind_is _ _ _ _) (by with_reducible assumption) ?_ (by with_unfolding_all rfl); k_whole)) | fail) | ((first | (fail_if_success (with_reducible first | show wpAny _ _ (call (Value.ref _) _) _ _ _ | show wpAny _ _ (exec (Stmt.While _ _ _ _) _) _ _ _ | show wpAny _ _ (exec (Stmt.For _ _ _ _ _) _) _ _ _ | show wpAny _ _ (pyIter _) _ _ _ | show wpAny _ _ (setItem _ _ _) _ _ _ | show wpAny _ _ (eval (Expr.ListComp _ _ _ _) _) _ _ _ | show wpAny _ _ (exec (Stmt.Assign _ (Expr.ListComp _ _ _ _) _) _) _ _ _ | show InvPostG _ _ _ _ _ _ _ _ | show InvEndG _ _ _ _ _ _ | show OnG _ _ _ _ _ _ _ | show Fin _ _ _ _ _ _ | show KswEnd _ _ _ _ _ _ _ _ _ _ _ _ | show wpAny _ _ (call (Value.builtin "sorted") _) _ _ _ | show LCg.CompEnd _ _ _ _ _ _ _ _ _ _ _ _ _ _ | show LCg.CompSrc _ _ _ _ _ _ _ _ _ _ _ _ _ _ | show LCt.CompSrcT _ _ _ _ _ _ _ _ _ _ _ _ _ _ _)) | fail); first | walk1 | (dsimp only; (try k_fold); (first | (fail_if_success (with_reducible first | show wpAny _ _ (call (Value.ref _) _) _ _ _ | show wpAny _ _ (exec (Stmt.While _ _ _ _) _) _ _ _ | show wpAny _ _ (exec (Stmt.For _ _ _ _ _) _) _ _ _ | show wpAny _ _ (pyIter _) _ _ _ | show wpAny _ _ (setItem _ _ _) _ _ _ | show wpAny _ _ (eval (Expr.ListComp _ _ _ _) _) _ _ _ | show wpAny _ _ (exec (Stmt.Assign _ (Expr.ListComp _ _ _ _) _) _) _ _ _ | show InvPostG _ _ _ _ _ _ _ _ | show InvEndG _ _ _ _ _ _ | show OnG _ _ _ _ _ _ _ | show Fin _ _ _ _ _ _ | show KswEnd _ _ _ _ _ _ _ _ _ _ _ _ | show wpAny _ _ (call (Value.builtin "sorted") _) _ _ _ | show LCg.CompEnd _ _ _ _ _ _ _ _ _ _ _ _ _ _ | show LCg.CompSrc _ _ _ _ _ _ _ _ _ _ _ _ _ _ | show LCt.CompSrcT _ _ _ _ _ _ _ _ _ _ _ _ _ _ _)) | fail); walk1)) | (leave1; walk_say "STEP leave1"; try dsimp only) | fail "no step")) | fail)
          rename Fr _ _ _ _ => F8
          refine For_invVF F8 (by rfl) (by rfl) ?_ (by intro _; with_unfolding_all rfl)
          (first | ((try k_unmd); (try k_fold); repeat' (first | (k_unfold; (try dsimp only)) | (first | ((with_reducible show wpAny _ _ (call (Value.ref 131) _) _ _ _); k_here; k_dflt (refine goal_law (by k_asm) (by k_asm) (by k_asm) (by k_asm) (by rfl) (by (first | decide | ((try dsimp only [ktrTop, Around.deeper, Around.in1]); omega) | fail)) (by (first | decide | ((try dsimp only [ktrTop, Around.deeper, Around.in1]); omega) | fail)) (by k_asm) (by with_reducible assumption) (by (first | (intro p hp; first | (with_reducible (repeat' (first | exact hp | exact List.mem_append_left _ hp | exact List.mem_append_right _ hp | refine List.mem_cons_of_mem _ ?_)); done) | ((simp only [List.nil_append, List.cons_append, List.append_nil, List.append_assoc, List.mem_cons, List.mem_append, List.not_mem_nil, or_false, false_or] at hp ⊢); first | done | grind)) | fail)) (by with_reducible assumption) (by with_reducible assumption) (by omega) (by first | (with_reducible assumption) | rfl | fail) (by first | (with_reducible assumption) | omega | fail) ?_; k_whole); intro h' tk' t' F' N'; (try k_sweep)) | ((with_reducible show wpAny _ _ (call (Value.ref 112) _) _ _ _); k_here; k_dflt (refine draw_at (by k_asm) (by k_asm) (by k_asm) (by k_asm) (by rfl) (by (first | decide | ((try dsimp only [ktrTop, Around.deeper, Around.in1]); omega) | fail)) (by (first | decide | ((try dsimp only [ktrTop, Around.deeper, Around.in1]); omega) | fail)) (by k_asm) (by k_updF) (by with_reducible assumption) (by with_reducible assumption) (by omega) (by omega) ?_; k_whole); intro h' tk' vs' n' ns' x' t' F' N' hi' hl' x1'; (try k_sweep)) | ((with_reducible show wpAny _ _ (subscriptTail _ _ (Value.ref _) (Value.str _ _)) _ _ _); k_here; k_dflt (refine bd_item (knd := PySem.strKind _ _) (by k_asm) (by with_reducible assumption) (strKind_is _ _ _ _) (by with_reducible assumption) ?_ (by with_unfolding_all rfl); k_whole)) | ((with_reducible show wpAny _ _ (subscriptTail _ _ (Value.ref _) (Value.int _ _)) _ _ _); k_here; k_dflt (refine bd_item (knd := PySem.intKind _ _) (by k_asm) (by with_reducible assumption) (intKind_is _ _ _ _) (by with_reducible assumption) ?_ (by with_unfolding_all rfl); k_whole)) | fail) | ((first | (fail_if_success (with_reducible first | show wpAny _ _ (call (Value.ref _) _) _ _ _ | show wpAny _ _ (exec (Stmt.While _ _ _ _) _) _ _ _ | show wpAny _ _ (exec (Stmt.For _ _ _ _ _) _) _ _ _ | show wpAny _ _ (pyIter _) _ _ _ | show wpAny _ _ (setItem _ _ _) _ _ _ | show wpAny _ _ (eval (Expr.ListComp _ _ _ _) _) _ _ _ | show wpAny _ _ (exec (Stmt.Assign _ (Expr.ListComp _ _ _ _) _) _) _ _ _ | show InvPostG _ _ _ _ _ _ _ _ | show InvEndG _ _ _ _ _ _ | show OnG _ _ _ _ _ _ _ | show Fin _ _ _ _ _ _ | show KswEnd _ _ _ _ _ _ _ _ _ _ _ _ | show wpAny _ _ (call (Value.builtin "sorted") _) _ _ _ | show LCg.CompEnd _ _ _ _ _ _ _ _ _ _ _ _ _ _ | show LCg.CompSrc _ _ _ _ _ _ _ _ _ _ _ _ _ _ | show LCt.CompSrcT _ _ _ _ _ _ _ _ _ _ _ _ _ _ _)) | fail); first | walk1 | (dsimp only; (try k_fold); (first | (fail_if_success (with_reducible first | show wpAny _ _ (call (Value.ref _) _) _ _ _ | show wpAny _ _ (exec (Stmt.While _ _ _ _) _) _ _ _ | show wpAny _ _ (exec (Stmt.For _ _ _ _ _) _) _ _ _ | show wpAny _ _ (pyIter _) _ _ _ | show wpAny _ _ (setItem _ _ _) _ _ _ | show wpAny _ _ (eval (Expr.ListComp _ _ _ _) _) _ _ _ | show wpAny _ _ (exec (Stmt.Assign _ (Expr.ListComp _ _ _ _) _) _) _ _ _ | show InvPostG _ _ _ _ _ _ _ _ | show InvEndG _ _ _ _ _ _ | show OnG _ _ _ _ _ _ _ | show Fin _ _ _ _ _ _ | show KswEnd _ _ _ _ _ _ _ _ _ _ _ _ | show wpAny _ _ (call (Value.builtin "sorted") _) _ _ _ | show LCg.CompEnd _ _ _ _ _ _ _ _ _ _ _ _ _ _ | show LCg.CompSrc _ _ _ _ _ _ _ _ _ _ _ _ _ _ | show LCt.CompSrcT _ _ _ _ _ _ _ _ _ _ _ _ _ _ _)) | fail); walk1)) | (leave1; walk_say "STEP leave1"; try dsimp only) | fail "no step")) | fail)
          rename Fr _ _ _ _ => F7; rename News _ _ _ _ => N7; rename IsRange _ _ _ _ _ _ _ _ => hir
          refine loopRN [Str.ofString "index", Str.ofString "one", Str.ofString "other", Str.ofString "goal"] (by rfl) hir (n := cnt ks ks.length) rfl (by omega) F7 N7 ?_ ?_
          · intro tl j t u h tk own hlt sep off F6 N6
            obtain ⟨idx, h1, h2, h3, h4⟩ := stayN_at ks ks.length (Nat.le_refl _) j hlt
            obtain ⟨ti, hyi⟩ := hSt.get _ _ h4
            have hyi' : ys[(j : Int).toNat]? = some (Value.int (idx : Int) ti) := hyi
            obtain ⟨rw9, hr0⟩ : ∃ r, rows[idx]? = some r := ⟨_, List.getElem?_eq_getElem (by omega)⟩
            obtain ⟨rv, hrv, hdr⟩ := hr3.get (rowsD_at hr0)
            obtain ⟨rv2, hrv2, hdr2⟩ := hr6.get (newRows_at ks hks hr0 h2)
            have hrv' : rvs[(idx : Int).toNat]? = some rv := hrv
            rw [h3] at hrv2
            have hrv2' : rvs2[(j : Int).toNat]? = some rv2 := hrv2
            have hA := away_any hr0
            have hH := held_any hr0
            have hVr := hV rw9 (List.mem_of_getElem? hr0)
            have hi0 : (0 : Int) ≤ idx := Int.natCast_nonneg idx
            have hj0 : (0 : Int) ≤ j := Int.natCast_nonneg j
            simp only [List.cons_append, List.nil_append] at N6
            clear F7 N7 hir hyi hrv hrv2 h4
            have hKd := kdMark
            cases rw9 with
            | b m t =>
              have hdr9 := hdr
              simp only [rowDat] at hdr
              refine di_rowB hdr ?_
              intro a9 t1 t2 t3 t4 ev ht
              clear hdr
              subst ev
              have hq1 : (idx : Int) + 1 + ((t : Int) - idx - 1) = ((t : Nat) : Int) := by omega
              have hq2 : t ≤ ks.length := by rw [hks]; exact hVr
              have hA' : (!(kindN (Str.ofString "call") (fixes rows)).any fun x => x == (idx : Int)) = true := by rw [hA]; rfl
              clear hA hH hVr
              (first | ((try k_unmd); (try k_fold); repeat' (first | (k_unfold; (try dsimp only)) | (first | ((with_reducible show wpAny _ _ (call (Value.ref 131) _) _ _ _); k_here; k_dflt (refine goal_law (by k_asm) (by k_asm) (by k_asm) (by k_asm) (by rfl) (by (first | decide | ((try dsimp only [ktrTop, Around.deeper, Around.in1]); omega) | fail)) (by (first | decide | ((try dsimp only [ktrTop, Around.deeper, Around.in1]); omega) | fail)) (by k_asm) (by with_reducible assumption) (by (first | (intro p hp; first | (with_reducible (repeat' (first | exact hp | exact List.mem_append_left _ hp | exact List.mem_append_right _ hp | refine List.mem_cons_of_mem _ ?_)); done) | ((simp only [List.nil_append, List.cons_append, List.append_nil, List.append_assoc, List.mem_cons, List.mem_append, List.not_mem_nil, or_false, false_or] at hp ⊢); first | done | grind)) | fail)) (by with_reducible assumption) (by with_reducible assumption) (by omega) (by first | (with_reducible assumption) | rfl | fail) (by first | (with_reducible assumption) | omega | fail) ?_; k_whole); intro h' tk' t' F' N'; (try k_sweep)) | ((with_reducible show wpAny _ _ (call (Value.ref 112) _) _ _ _); k_here; k_dflt (refine draw_at (by k_asm) (by k_asm) (by k_asm) (by k_asm) (by rfl) (by (first | decide | ((try dsimp only [ktrTop, Around.deeper, Around.in1]); omega) | fail)) (by (first | decide | ((try dsimp only [ktrTop, Around.deeper, Around.in1]); omega) | fail)) (by k_asm) (by k_updF) (by with_reducible assumption) (by with_reducible assumption) (by omega) (by omega) ?_; k_whole); intro h' tk' vs' n' ns' x' t' F' N' hi' hl' x1'; (try k_sweep)) | ((with_reducible show wpAny _ _ (subscriptTail _ _ (Value.ref _) (Value.str _ _)) _ _ _); k_here; k_dflt (refine bd_item (knd := PySem.strKind _ _) (by k_asm) (by with_reducible assumption) (strKind_is _ _ _ _) (by with_reducible assumption) ?_ (by with_unfolding_all rfl); k_whole)) | ((with_reducible show wpAny _ _ (subscriptTail _ _ (Value.ref _) (Value.int _ _)) _ _ _); k_here; k_dflt (refine bd_item (knd := PySem.intKind _ _) (by k_asm) (by with_reducible assumption) (intKind_is _ _ _ _) (by with_reducible assumption) ?_ (by with_unfolding_all rfl); k_whole)) | fail) | ((first | (fail_if_success (with_reducible first | show wpAny _ _ (call (Value.ref _) _) _ _ _ | show wpAny _ _ (exec (Stmt.While _ _ _ _) _) _ _ _ | show wpAny _ _ (exec (Stmt.For _ _ _ _ _) _) _ _ _ | show wpAny _ _ (pyIter _) _ _ _ | show wpAny _ _ (setItem _ _ _) _ _ _ | show wpAny _ _ (eval (Expr.ListComp _ _ _ _) _) _ _ _ | show wpAny _ _ (exec (Stmt.Assign _ (Expr.ListComp _ _ _ _) _) _) _ _ _ | show InvPostG _ _ _ _ _ _ _ _ | show InvEndG _ _ _ _ _ _ | show OnG _ _ _ _ _ _ _ | show Fin _ _ _ _ _ _ | show KswEnd _ _ _ _ _ _ _ _ _ _ _ _ | show wpAny _ _ (call (Value.builtin "sorted") _) _ _ _ | show LCg.CompEnd _ _ _ _ _ _ _ _ _ _ _ _ _ _ | show LCg.CompSrc _ _ _ _ _ _ _ _ _ _ _ _ _ _ | show LCt.CompSrcT _ _ _ _ _ _ _ _ _ _ _ _ _ _ _)) | fail); first | walk1 | (dsimp only; (try k_fold); (first | (fail_if_success (with_reducible first | show wpAny _ _ (call (Value.ref _) _) _ _ _ | show wpAny _ _ (exec (Stmt.While _ _ _ _) _) _ _ _ | show wpAny _ _ (exec (Stmt.For _ _ _ _ _) _) _ _ _ | show wpAny _ _ (pyIter _) _ _ _ | show wpAny _ _ (setItem _ _ _) _ _ _ | show wpAny _ _ (eval (Expr.ListComp _ _ _ _) _) _ _ _ | show wpAny _ _ (exec (Stmt.Assign _ (Expr.ListComp _ _ _ _) _) _) _ _ _ | show InvPostG _ _ _ _ _ _ _ _ | show InvEndG _ _ _ _ _ _ | show OnG _ _ _ _ _ _ _ | show Fin _ _ _ _ _ _ | show KswEnd _ _ _ _ _ _ _ _ _ _ _ _ | show wpAny _ _ (call (Value.builtin "sorted") _) _ _ _ | show LCg.CompEnd _ _ _ _ _ _ _ _ _ _ _ _ _ _ | show LCg.CompSrc _ _ _ _ _ _ _ _ _ _ _ _ _ _ | show LCt.CompSrcT _ _ _ _ _ _ _ _ _ _ _ _ _ _ _)) | fail); walk1)) | (leave1; walk_say "STEP leave1"; try dsimp only) | fail "no step")) | fail)
              rename Fr _ _ _ _ => F7; rename News _ _ _ _ => N7
              refine ne_di (da := newRow ks idx (.b m t)) (db := newRow ks idx (.b m t)) ?_ ?_ (newRow_ok ks 8 idx _) (newRow_ok ks 8 idx _) ?_ rfl ?_
              · exact hdr2.mono (hKI3.le F7 N7 (by (first | (intro p hp; first | (with_reducible (repeat' (first | exact hp | exact List.mem_append_left _ hp | exact List.mem_append_right _ hp | refine List.mem_cons_of_mem _ ?_)); done) | ((simp only [List.nil_append, List.cons_append, List.append_nil, List.append_assoc, List.mem_cons, List.mem_append, List.not_mem_nil, or_false, false_or] at hp ⊢); first | done | grind)) | fail)))
              · exact .tuple (N7 _ (.head _)).1 rfl rfl (.cons (.str _ _) (.cons (.str _ _) (.cons (.int' (by rw [h3])) (.cons (.int _ _) .nil))))
              · show callerA.units + 3 + 64 < cLine
                decide
              (first | ((try k_unmd); (try k_fold); repeat' (first | (k_unfold; (try dsimp only)) | (first | ((with_reducible show wpAny _ _ (call (Value.ref 131) _) _ _ _); k_here; k_dflt (refine goal_law (by k_asm) (by k_asm) (by k_asm) (by k_asm) (by rfl) (by (first | decide | ((try dsimp only [ktrTop, Around.deeper, Around.in1]); omega) | fail)) (by (first | decide | ((try dsimp only [ktrTop, Around.deeper, Around.in1]); omega) | fail)) (by k_asm) (by with_reducible assumption) (by (first | (intro p hp; first | (with_reducible (repeat' (first | exact hp | exact List.mem_append_left _ hp | exact List.mem_append_right _ hp | refine List.mem_cons_of_mem _ ?_)); done) | ((simp only [List.nil_append, List.cons_append, List.append_nil, List.append_assoc, List.mem_cons, List.mem_append, List.not_mem_nil, or_false, false_or] at hp ⊢); first | done | grind)) | fail)) (by with_reducible assumption) (by with_reducible assumption) (by omega) (by first | (with_reducible assumption) | rfl | fail) (by first | (with_reducible assumption) | omega | fail) ?_; k_whole); intro h' tk' t' F' N'; (try k_sweep)) | ((with_reducible show wpAny _ _ (call (Value.ref 112) _) _ _ _); k_here; k_dflt (refine draw_at (by k_asm) (by k_asm) (by k_asm) (by k_asm) (by rfl) (by (first | decide | ((try dsimp only [ktrTop, Around.deeper, Around.in1]); omega) | fail)) (by (first | decide | ((try dsimp only [ktrTop, Around.deeper, Around.in1]); omega) | fail)) (by k_asm) (by k_updF) (by with_reducible assumption) (by with_reducible assumption) (by omega) (by omega) ?_; k_whole); intro h' tk' vs' n' ns' x' t' F' N' hi' hl' x1'; (try k_sweep)) | ((with_reducible show wpAny _ _ (subscriptTail _ _ (Value.ref _) (Value.str _ _)) _ _ _); k_here; k_dflt (refine bd_item (knd := PySem.strKind _ _) (by k_asm) (by with_reducible assumption) (strKind_is _ _ _ _) (by with_reducible assumption) ?_ (by with_unfolding_all rfl); k_whole)) | ((with_reducible show wpAny _ _ (subscriptTail _ _ (Value.ref _) (Value.int _ _)) _ _ _); k_here; k_dflt (refine bd_item (knd := PySem.intKind _ _) (by k_asm) (by with_reducible assumption) (intKind_is _ _ _ _) (by with_reducible assumption) ?_ (by with_unfolding_all rfl); k_whole)) | fail) | ((first | (fail_if_success (with_reducible first | show wpAny _ _ (call (Value.ref _) _) _ _ _ | show wpAny _ _ (exec (Stmt.While _ _ _ _) _) _ _ _ | show wpAny _ _ (exec (Stmt.For _ _ _ _ _) _) _ _ _ | show wpAny _ _ (pyIter _) _ _ _ | show wpAny _ _ (setItem _ _ _) _ _ _ | show wpAny _ _ (eval (Expr.ListComp _ _ _ _) _) _ _ _ | show wpAny _ _ (exec (Stmt.Assign _ (Expr.ListComp _ _ _ _) _) _) _ _ _ | show InvPostG _ _ _ _ _ _ _ _ | show InvEndG _ _ _ _ _ _ | show OnG _ _ _ _ _ _ _ | show Fin _ _ _ _ _ _ | show KswEnd _ _ _ _ _ _ _ _ _ _ _ _ | show wpAny _ _ (call (Value.builtin "sorted") _) _ _ _ | show LCg.CompEnd _ _ _ _ _ _ _ _ _ _ _ _ _ _ | show LCg.CompSrc _ _ _ _ _ _ _ _ _ _ _ _ _ _ | show LCt.CompSrcT _ _ _ _ _ _ _ _ _ _ _ _ _ _ _)) | fail); first | walk1 | (dsimp only; (try k_fold); (first | (fail_if_success (with_reducible first | show wpAny _ _ (call (Value.ref _) _) _ _ _ | show wpAny _ _ (exec (Stmt.While _ _ _ _) _) _ _ _ | show wpAny _ _ (exec (Stmt.For _ _ _ _ _) _) _ _ _ | show wpAny _ _ (pyIter _) _ _ _ | show wpAny _ _ (setItem _ _ _) _ _ _ | show wpAny _ _ (eval (Expr.ListComp _ _ _ _) _) _ _ _ | show wpAny _ _ (exec (Stmt.Assign _ (Expr.ListComp _ _ _ _) _) _) _ _ _ | show InvPostG _ _ _ _ _ _ _ _ | show InvEndG _ _ _ _ _ _ | show OnG _ _ _ _ _ _ _ | show Fin _ _ _ _ _ _ | show KswEnd _ _ _ _ _ _ _ _ _ _ _ _ | show wpAny _ _ (call (Value.builtin "sorted") _) _ _ _ | show LCg.CompEnd _ _ _ _ _ _ _ _ _ _ _ _ _ _ | show LCg.CompSrc _ _ _ _ _ _ _ _ _ _ _ _ _ _ | show LCt.CompSrcT _ _ _ _ _ _ _ _ _ _ _ _ _ _ _)) | fail); walk1)) | (leave1; walk_say "STEP leave1"; try dsimp only) | fail "no step")) | fail)
              dsimp only [InvPostG]
              rename Fr _ _ _ _ => F9; rename News _ _ _ _ => N9
              exact endN sep F9 N9 (fun p hp => by repeat' (first | exact hp | refine List.Mem.tail _ ?_)) (by (first | (intro z h1 h2 h3; (simp only [List.contains_cons, List.contains_nil, Bool.or_eq_false_iff, beq_eq_false_iff_ne, ne_eq, List.forall_mem_cons, List.mem_cons, List.not_mem_nil, or_false, forall_eq_or_imp, forall_eq] at h1 h2 h3); (simp only [h1, h2, h3, if_false, ite_false, List.contains_cons, List.contains_nil, Bool.or_false, beq_iff_eq, Bool.or_eq_true, or_self, or_false, and_true, not_false_eq_true, Bool.false_eq_true]); done) | fail))
            | bl t =>
              have hdr9 := hdr
              simp only [rowDat] at hdr
              refine di_rowB hdr ?_
              intro a9 t1 t2 t3 t4 ev ht
              clear hdr
              subst ev
              have hq1 : (idx : Int) + 1 + ((t : Int) - idx - 1) = ((t : Nat) : Int) := by omega
              have hq2 : t ≤ ks.length := by rw [hks]; exact hVr
              have hA' : (!(kindN (Str.ofString "call") (fixes rows)).any fun x => x == (idx : Int)) = true := by rw [hA]; rfl
              clear hA hH hVr
              (first | ((try k_unmd); (try k_fold); repeat' (first | (k_unfold; (try dsimp only)) | (first | ((with_reducible show wpAny _ _ (call (Value.ref 131) _) _ _ _); k_here; k_dflt (refine goal_law (by k_asm) (by k_asm) (by k_asm) (by k_asm) (by rfl) (by (first | decide | ((try dsimp only [ktrTop, Around.deeper, Around.in1]); omega) | fail)) (by (first | decide | ((try dsimp only [ktrTop, Around.deeper, Around.in1]); omega) | fail)) (by k_asm) (by with_reducible assumption) (by (first | (intro p hp; first | (with_reducible (repeat' (first | exact hp | exact List.mem_append_left _ hp | exact List.mem_append_right _ hp | refine List.mem_cons_of_mem _ ?_)); done) | ((simp only [List.nil_append, List.cons_append, List.append_nil, List.append_assoc, List.mem_cons, List.mem_append, List.not_mem_nil, or_false, false_or] at hp ⊢); first | done | grind)) | fail)) (by with_reducible assumption) (by with_reducible assumption) (by omega) (by first | (with_reducible assumption) | rfl | fail) (by first | (with_reducible assumption) | omega | fail) ?_; k_whole); intro h' tk' t' F' N'; (try k_sweep)) | ((with_reducible show wpAny _ _ (call (Value.ref 112) _) _ _ _); k_here; k_dflt (refine draw_at (by k_asm) (by k_asm) (by k_asm) (by k_asm) (by rfl) (by (first | decide | ((try dsimp only [ktrTop, Around.deeper, Around.in1]); omega) | fail)) (by (first | decide | ((try dsimp only [ktrTop, Around.deeper, Around.in1]); omega) | fail)) (by k_asm) (by k_updF) (by with_reducible assumption) (by with_reducible assumption) (by omega) (by omega) ?_; k_whole); intro h' tk' vs' n' ns' x' t' F' N' hi' hl' x1'; (try k_sweep)) | ((with_reducible show wpAny _ _ (subscriptTail _ _ (Value.ref _) (Value.str _ _)) _ _ _); k_here; k_dflt (refine bd_item (knd := PySem.strKind _ _) (by k_asm) (by with_reducible assumption) (strKind_is _ _ _ _) (by with_reducible assumption) ?_ (by with_unfolding_all rfl); k_whole)) | ((with_reducible show wpAny _ _ (subscriptTail _ _ (Value.ref _) (Value.int _ _)) _ _ _); k_here; k_dflt (refine bd_item (knd := PySem.intKind _ _) (by k_asm) (by with_reducible assumption) (intKind_is _ _ _ _) (by with_reducible assumption) ?_ (by with_unfolding_all rfl); k_whole)) | fail) | ((first | (fail_if_success (with_reducible first | show wpAny _ _ (call (Value.ref _) _) _ _ _ | show wpAny _ _ (exec (Stmt.While _ _ _ _) _) _ _ _ | show wpAny _ _ (exec (Stmt.For _ _ _ _ _) _) _ _ _ | show wpAny _ _ (pyIter _) _ _ _ | show wpAny _ _ (setItem _ _ _) _ _ _ | show wpAny _ _ (eval (Expr.ListComp _ _ _ _) _) _ _ _ | show wpAny _ _ (exec (Stmt.Assign _ (Expr.ListComp _ _ _ _) _) _) _ _ _ | show InvPostG _ _ _ _ _ _ _ _ | show InvEndG _ _ _ _ _ _ | show OnG _ _ _ _ _ _ _ | show Fin _ _ _ _ _ _ | show KswEnd _ _ _ _ _ _ _ _ _ _ _ _ | show wpAny _ _ (call (Value.builtin "sorted") _) _ _ _ | show LCg.CompEnd _ _ _ _ _ _ _ _ _ _ _ _ _ _ | show LCg.CompSrc _ _ _ _ _ _ _ _ _ _ _ _ _ _ | show LCt.CompSrcT _ _ _ _ _ _ _ _ _ _ _ _ _ _ _)) | fail); first | walk1 | (dsimp only; (try k_fold); (first | (fail_if_success (with_reducible first | show wpAny _ _ (call (Value.ref _) _) _ _ _ | show wpAny _ _ (exec (Stmt.While _ _ _ _) _) _ _ _ | show wpAny _ _ (exec (Stmt.For _ _ _ _ _) _) _ _ _ | show wpAny _ _ (pyIter _) _ _ _ | show wpAny _ _ (setItem _ _ _) _ _ _ | show wpAny _ _ (eval (Expr.ListComp _ _ _ _) _) _ _ _ | show wpAny _ _ (exec (Stmt.Assign _ (Expr.ListComp _ _ _ _) _) _) _ _ _ | show InvPostG _ _ _ _ _ _ _ _ | show InvEndG _ _ _ _ _ _ | show OnG _ _ _ _ _ _ _ | show Fin _ _ _ _ _ _ | show KswEnd _ _ _ _ _ _ _ _ _ _ _ _ | show wpAny _ _ (call (Value.builtin "sorted") _) _ _ _ | show LCg.CompEnd _ _ _ _ _ _ _ _ _ _ _ _ _ _ | show LCg.CompSrc _ _ _ _ _ _ _ _ _ _ _ _ _ _ | show LCt.CompSrcT _ _ _ _ _ _ _ _ _ _ _ _ _ _ _)) | fail); walk1)) | (leave1; walk_say "STEP leave1"; try dsimp only) | fail "no step")) | fail)
              rename Fr _ _ _ _ => F7; rename News _ _ _ _ => N7
              refine ne_di (da := newRow ks idx (.bl t)) (db := newRow ks idx (.bl t)) ?_ ?_ (newRow_ok ks 8 idx _) (newRow_ok ks 8 idx _) ?_ rfl ?_
              · exact hdr2.mono (hKI3.le F7 N7 (by (first | (intro p hp; first | (with_reducible (repeat' (first | exact hp | exact List.mem_append_left _ hp | exact List.mem_append_right _ hp | refine List.mem_cons_of_mem _ ?_)); done) | ((simp only [List.nil_append, List.cons_append, List.append_nil, List.append_assoc, List.mem_cons, List.mem_append, List.not_mem_nil, or_false, false_or] at hp ⊢); first | done | grind)) | fail)))
              · exact .tuple (N7 _ (.head _)).1 rfl rfl (.cons (.str _ _) (.cons (.str _ _) (.cons (.int' (by rw [h3])) (.cons (.int _ _) .nil))))
              · show callerA.units + 3 + 64 < cLine
                decide
              (first | ((try k_unmd); (try k_fold); repeat' (first | (k_unfold; (try dsimp only)) | (first | ((with_reducible show wpAny _ _ (call (Value.ref 131) _) _ _ _); k_here; k_dflt (refine goal_law (by k_asm) (by k_asm) (by k_asm) (by k_asm) (by rfl) (by (first | decide | ((try dsimp only [ktrTop, Around.deeper, Around.in1]); omega) | fail)) (by (first | decide | ((try dsimp only [ktrTop, Around.deeper, Around.in1]); omega) | fail)) (by k_asm) (by with_reducible assumption) (by (first | (intro p hp; first | (with_reducible (repeat' (first | exact hp | exact List.mem_append_left _ hp | exact List.mem_append_right _ hp | refine List.mem_cons_of_mem _ ?_)); done) | ((simp only [List.nil_append, List.cons_append, List.append_nil, List.append_assoc, List.mem_cons, List.mem_append, List.not_mem_nil, or_false, false_or] at hp ⊢); first | done | grind)) | fail)) (by with_reducible assumption) (by with_reducible assumption) (by omega) (by first | (with_reducible assumption) | rfl | fail) (by first | (with_reducible assumption) | omega | fail) ?_; k_whole); intro h' tk' t' F' N'; (try k_sweep)) | ((with_reducible show wpAny _ _ (call (Value.ref 112) _) _ _ _); k_here; k_dflt (refine draw_at (by k_asm) (by k_asm) (by k_asm) (by k_asm) (by rfl) (by (first | decide | ((try dsimp only [ktrTop, Around.deeper, Around.in1]); omega) | fail)) (by (first | decide | ((try dsimp only [ktrTop, Around.deeper, Around.in1]); omega) | fail)) (by k_asm) (by k_updF) (by with_reducible assumption) (by with_reducible assumption) (by omega) (by omega) ?_; k_whole); intro h' tk' vs' n' ns' x' t' F' N' hi' hl' x1'; (try k_sweep)) | ((with_reducible show wpAny _ _ (subscriptTail _ _ (Value.ref _) (Value.str _ _)) _ _ _); k_here; k_dflt (refine bd_item (knd := PySem.strKind _ _) (by k_asm) (by with_reducible assumption) (strKind_is _ _ _ _) (by with_reducible assumption) ?_ (by with_unfolding_all rfl); k_whole)) | ((with_reducible show wpAny _ _ (subscriptTail _ _ (Value.ref _) (Value.int _ _)) _ _ _); k_here; k_dflt (refine bd_item (knd := PySem.intKind _ _) (by k_asm) (by with_reducible assumption) (intKind_is _ _ _ _) (by with_reducible assumption) ?_ (by with_unfolding_all rfl); k_whole)) | fail) | ((first | (fail_if_success (with_reducible first | show wpAny _ _ (call (Value.ref _) _) _ _ _ | show wpAny _ _ (exec (Stmt.While _ _ _ _) _) _ _ _ | show wpAny _ _ (exec (Stmt.For _ _ _ _ _) _) _ _ _ | show wpAny _ _ (pyIter _) _ _ _ | show wpAny _ _ (setItem _ _ _) _ _ _ | show wpAny _ _ (eval (Expr.ListComp _ _ _ _) _) _ _ _ | show wpAny _ _ (exec (Stmt.Assign _ (Expr.ListComp _ _ _ _) _) _) _ _ _ | show InvPostG _ _ _ _ _ _ _ _ | show InvEndG _ _ _ _ _ _ | show OnG _ _ _ _ _ _ _ | show Fin _ _ _ _ _ _ | show KswEnd _ _ _ _ _ _ _ _ _ _ _ _ | show wpAny _ _ (call (Value.builtin "sorted") _) _ _ _ | show LCg.CompEnd _ _ _ _ _ _ _ _ _ _ _ _ _ _ | show LCg.CompSrc _ _ _ _ _ _ _ _ _ _ _ _ _ _ | show LCt.CompSrcT _ _ _ _ _ _ _ _ _ _ _ _ _ _ _)) | fail); first | walk1 | (dsimp only; (try k_fold); (first | (fail_if_success (with_reducible first | show wpAny _ _ (call (Value.ref _) _) _ _ _ | show wpAny _ _ (exec (Stmt.While _ _ _ _) _) _ _ _ | show wpAny _ _ (exec (Stmt.For _ _ _ _ _) _) _ _ _ | show wpAny _ _ (pyIter _) _ _ _ | show wpAny _ _ (setItem _ _ _) _ _ _ | show wpAny _ _ (eval (Expr.ListComp _ _ _ _) _) _ _ _ | show wpAny _ _ (exec (Stmt.Assign _ (Expr.ListComp _ _ _ _) _) _) _ _ _ | show InvPostG _ _ _ _ _ _ _ _ | show InvEndG _ _ _ _ _ _ | show OnG _ _ _ _ _ _ _ | show Fin _ _ _ _ _ _ | show KswEnd _ _ _ _ _ _ _ _ _ _ _ _ | show wpAny _ _ (call (Value.builtin "sorted") _) _ _ _ | show LCg.CompEnd _ _ _ _ _ _ _ _ _ _ _ _ _ _ | show LCg.CompSrc _ _ _ _ _ _ _ _ _ _ _ _ _ _ | show LCt.CompSrcT _ _ _ _ _ _ _ _ _ _ _ _ _ _ _)) | fail); walk1)) | (leave1; walk_say "STEP leave1"; try dsimp only) | fail "no step")) | fail)
              dsimp only [InvPostG]
              rename Fr _ _ _ _ => F9; rename News _ _ _ _ => N9
              exact endN sep F9 N9 (fun p hp => by repeat' (first | exact hp | refine List.Mem.tail _ ?_)) (by (first | (intro z h1 h2 h3; (simp only [List.contains_cons, List.contains_nil, Bool.or_eq_false_iff, beq_eq_false_iff_ne, ne_eq, List.forall_mem_cons, List.mem_cons, List.not_mem_nil, or_false, forall_eq_or_imp, forall_eq] at h1 h2 h3); (simp only [h1, h2, h3, if_false, ite_false, List.contains_cons, List.contains_nil, Bool.or_false, beq_iff_eq, Bool.or_eq_true, or_self, or_false, and_true, not_false_eq_true, Bool.false_eq_true]); done) | fail))
            | imp =>
              have hdr9 := hdr
              simp only [rowDat] at hdr
              refine di_rowB hdr ?_
              intro a9 t1 t2 t3 t4 ev ht
              clear hdr
              subst ev
              have hA' : (!(kindN (Str.ofString "call") (fixes rows)).any fun x => x == (idx : Int)) = false := by rw [hA]; rfl
              have hH' : ((kindN (Str.ofString "addr") (fixes rows)).any fun x => x == (idx : Int)) = false := by rw [hH]; rfl
              clear hA hH hVr
              (first | ((try k_unmd); (try k_fold); repeat' (first | (k_unfold; (try dsimp only)) | (first | ((with_reducible show wpAny _ _ (call (Value.ref 131) _) _ _ _); k_here; k_dflt (refine goal_law (by k_asm) (by k_asm) (by k_asm) (by k_asm) (by rfl) (by (first | decide | ((try dsimp only [ktrTop, Around.deeper, Around.in1]); omega) | fail)) (by (first | decide | ((try dsimp only [ktrTop, Around.deeper, Around.in1]); omega) | fail)) (by k_asm) (by with_reducible assumption) (by (first | (intro p hp; first | (with_reducible (repeat' (first | exact hp | exact List.mem_append_left _ hp | exact List.mem_append_right _ hp | refine List.mem_cons_of_mem _ ?_)); done) | ((simp only [List.nil_append, List.cons_append, List.append_nil, List.append_assoc, List.mem_cons, List.mem_append, List.not_mem_nil, or_false, false_or] at hp ⊢); first | done | grind)) | fail)) (by with_reducible assumption) (by with_reducible assumption) (by omega) (by first | (with_reducible assumption) | rfl | fail) (by first | (with_reducible assumption) | omega | fail) ?_; k_whole); intro h' tk' t' F' N'; (try k_sweep)) | ((with_reducible show wpAny _ _ (call (Value.ref 112) _) _ _ _); k_here; k_dflt (refine draw_at (by k_asm) (by k_asm) (by k_asm) (by k_asm) (by rfl) (by (first | decide | ((try dsimp only [ktrTop, Around.deeper, Around.in1]); omega) | fail)) (by (first | decide | ((try dsimp only [ktrTop, Around.deeper, Around.in1]); omega) | fail)) (by k_asm) (by k_updF) (by with_reducible assumption) (by with_reducible assumption) (by omega) (by omega) ?_; k_whole); intro h' tk' vs' n' ns' x' t' F' N' hi' hl' x1'; (try k_sweep)) | ((with_reducible show wpAny _ _ (subscriptTail _ _ (Value.ref _) (Value.str _ _)) _ _ _); k_here; k_dflt (refine bd_item (knd := PySem.strKind _ _) (by k_asm) (by with_reducible assumption) (strKind_is _ _ _ _) (by with_reducible assumption) ?_ (by with_unfolding_all rfl); k_whole)) | ((with_reducible show wpAny _ _ (subscriptTail _ _ (Value.ref _) (Value.int _ _)) _ _ _); k_here; k_dflt (refine bd_item (knd := PySem.intKind _ _) (by k_asm) (by with_reducible assumption) (intKind_is _ _ _ _) (by with_reducible assumption) ?_ (by with_unfolding_all rfl); k_whole)) | fail) | ((first | (fail_if_success (with_reducible first | show wpAny _ _ (call (Value.ref _) _) _ _ _ | show wpAny _ _ (exec (Stmt.While _ _ _ _) _) _ _ _ | show wpAny _ _ (exec (Stmt.For _ _ _ _ _) _) _ _ _ | show wpAny _ _ (pyIter _) _ _ _ | show wpAny _ _ (setItem _ _ _) _ _ _ | show wpAny _ _ (eval (Expr.ListComp _ _ _ _) _) _ _ _ | show wpAny _ _ (exec (Stmt.Assign _ (Expr.ListComp _ _ _ _) _) _) _ _ _ | show InvPostG _ _ _ _ _ _ _ _ | show InvEndG _ _ _ _ _ _ | show OnG _ _ _ _ _ _ _ | show Fin _ _ _ _ _ _ | show KswEnd _ _ _ _ _ _ _ _ _ _ _ _ | show wpAny _ _ (call (Value.builtin "sorted") _) _ _ _ | show LCg.CompEnd _ _ _ _ _ _ _ _ _ _ _ _ _ _ | show LCg.CompSrc _ _ _ _ _ _ _ _ _ _ _ _ _ _ | show LCt.CompSrcT _ _ _ _ _ _ _ _ _ _ _ _ _ _ _)) | fail); first | walk1 | (dsimp only; (try k_fold); (first | (fail_if_success (with_reducible first | show wpAny _ _ (call (Value.ref _) _) _ _ _ | show wpAny _ _ (exec (Stmt.While _ _ _ _) _) _ _ _ | show wpAny _ _ (exec (Stmt.For _ _ _ _ _) _) _ _ _ | show wpAny _ _ (pyIter _) _ _ _ | show wpAny _ _ (setItem _ _ _) _ _ _ | show wpAny _ _ (eval (Expr.ListComp _ _ _ _) _) _ _ _ | show wpAny _ _ (exec (Stmt.Assign _ (Expr.ListComp _ _ _ _) _) _) _ _ _ | show InvPostG _ _ _ _ _ _ _ _ | show InvEndG _ _ _ _ _ _ | show OnG _ _ _ _ _ _ _ | show Fin _ _ _ _ _ _ | show KswEnd _ _ _ _ _ _ _ _ _ _ _ _ | show wpAny _ _ (call (Value.builtin "sorted") _) _ _ _ | show LCg.CompEnd _ _ _ _ _ _ _ _ _ _ _ _ _ _ | show LCg.CompSrc _ _ _ _ _ _ _ _ _ _ _ _ _ _ | show LCt.CompSrcT _ _ _ _ _ _ _ _ _ _ _ _ _ _ _)) | fail); walk1)) | (leave1; walk_say "STEP leave1"; try dsimp only) | fail "no step")) | fail)
              rename Fr _ _ _ _ => F7; rename News _ _ _ _ => N7
              refine ne_di (da := newRow ks idx (.imp)) (db := rowDat idx .imp) ?_ ?_ (newRow_ok ks 8 idx _) (rowDat_ok 8 idx _) ?_ rfl ?_
              · exact hdr2.mono (hKI3.le F7 N7 (by (first | (intro p hp; first | (with_reducible (repeat' (first | exact hp | exact List.mem_append_left _ hp | exact List.mem_append_right _ hp | refine List.mem_cons_of_mem _ ?_)); done) | ((simp only [List.nil_append, List.cons_append, List.append_nil, List.append_assoc, List.mem_cons, List.mem_append, List.not_mem_nil, or_false, false_or] at hp ⊢); first | done | grind)) | fail)))
              · exact hdr9.mono (hKI3.le F7 N7 (by (first | (intro p hp; first | (with_reducible (repeat' (first | exact hp | exact List.mem_append_left _ hp | exact List.mem_append_right _ hp | refine List.mem_cons_of_mem _ ?_)); done) | ((simp only [List.nil_append, List.cons_append, List.append_nil, List.append_assoc, List.mem_cons, List.mem_append, List.not_mem_nil, or_false, false_or] at hp ⊢); first | done | grind)) | fail)))
              · show callerA.units + 3 + 64 < cLine
                decide
              (first | ((try k_unmd); (try k_fold); repeat' (first | (k_unfold; (try dsimp only)) | (first | ((with_reducible show wpAny _ _ (call (Value.ref 131) _) _ _ _); k_here; k_dflt (refine goal_law (by k_asm) (by k_asm) (by k_asm) (by k_asm) (by rfl) (by (first | decide | ((try dsimp only [ktrTop, Around.deeper, Around.in1]); omega) | fail)) (by (first | decide | ((try dsimp only [ktrTop, Around.deeper, Around.in1]); omega) | fail)) (by k_asm) (by with_reducible assumption) (by (first | (intro p hp; first | (with_reducible (repeat' (first | exact hp | exact List.mem_append_left _ hp | exact List.mem_append_right _ hp | refine List.mem_cons_of_mem _ ?_)); done) | ((simp only [List.nil_append, List.cons_append, List.append_nil, List.append_assoc, List.mem_cons, List.mem_append, List.not_mem_nil, or_false, false_or] at hp ⊢); first | done | grind)) | fail)) (by with_reducible assumption) (by with_reducible assumption) (by omega) (by first | (with_reducible assumption) | rfl | fail) (by first | (with_reducible assumption) | omega | fail) ?_; k_whole); intro h' tk' t' F' N'; (try k_sweep)) | ((with_reducible show wpAny _ _ (call (Value.ref 112) _) _ _ _); k_here; k_dflt (refine draw_at (by k_asm) (by k_asm) (by k_asm) (by k_asm) (by rfl) (by (first | decide | ((try dsimp only [ktrTop, Around.deeper, Around.in1]); omega) | fail)) (by (first | decide | ((try dsimp only [ktrTop, Around.deeper, Around.in1]); omega) | fail)) (by k_asm) (by k_updF) (by with_reducible assumption) (by with_reducible assumption) (by omega) (by omega) ?_; k_whole); intro h' tk' vs' n' ns' x' t' F' N' hi' hl' x1'; (try k_sweep)) | ((with_reducible show wpAny _ _ (subscriptTail _ _ (Value.ref _) (Value.str _ _)) _ _ _); k_here; k_dflt (refine bd_item (knd := PySem.strKind _ _) (by k_asm) (by with_reducible assumption) (strKind_is _ _ _ _) (by with_reducible assumption) ?_ (by with_unfolding_all rfl); k_whole)) | ((with_reducible show wpAny _ _ (subscriptTail _ _ (Value.ref _) (Value.int _ _)) _ _ _); k_here; k_dflt (refine bd_item (knd := PySem.intKind _ _) (by k_asm) (by with_reducible assumption) (intKind_is _ _ _ _) (by with_reducible assumption) ?_ (by with_unfolding_all rfl); k_whole)) | fail) | ((first | (fail_if_success (with_reducible first | show wpAny _ _ (call (Value.ref _) _) _ _ _ | show wpAny _ _ (exec (Stmt.While _ _ _ _) _) _ _ _ | show wpAny _ _ (exec (Stmt.For _ _ _ _ _) _) _ _ _ | show wpAny _ _ (pyIter _) _ _ _ | show wpAny _ _ (setItem _ _ _) _ _ _ | show wpAny _ _ (eval (Expr.ListComp _ _ _ _) _) _ _ _ | show wpAny _ _ (exec (Stmt.Assign _ (Expr.ListComp _ _ _ _) _) _) _ _ _ | show InvPostG _ _ _ _ _ _ _ _ | show InvEndG _ _ _ _ _ _ | show OnG _ _ _ _ _ _ _ | show Fin _ _ _ _ _ _ | show KswEnd _ _ _ _ _ _ _ _ _ _ _ _ | show wpAny _ _ (call (Value.builtin "sorted") _) _ _ _ | show LCg.CompEnd _ _ _ _ _ _ _ _ _ _ _ _ _ _ | show LCg.CompSrc _ _ _ _ _ _ _ _ _ _ _ _ _ _ | show LCt.CompSrcT _ _ _ _ _ _ _ _ _ _ _ _ _ _ _)) | fail); first | walk1 | (dsimp only; (try k_fold); (first | (fail_if_success (with_reducible first | show wpAny _ _ (call (Value.ref _) _) _ _ _ | show wpAny _ _ (exec (Stmt.While _ _ _ _) _) _ _ _ | show wpAny _ _ (exec (Stmt.For _ _ _ _ _) _) _ _ _ | show wpAny _ _ (pyIter _) _ _ _ | show wpAny _ _ (setItem _ _ _) _ _ _ | show wpAny _ _ (eval (Expr.ListComp _ _ _ _) _) _ _ _ | show wpAny _ _ (exec (Stmt.Assign _ (Expr.ListComp _ _ _ _) _) _) _ _ _ | show InvPostG _ _ _ _ _ _ _ _ | show InvEndG _ _ _ _ _ _ | show OnG _ _ _ _ _ _ _ | show Fin _ _ _ _ _ _ | show KswEnd _ _ _ _ _ _ _ _ _ _ _ _ | show wpAny _ _ (call (Value.builtin "sorted") _) _ _ _ | show LCg.CompEnd _ _ _ _ _ _ _ _ _ _ _ _ _ _ | show LCg.CompSrc _ _ _ _ _ _ _ _ _ _ _ _ _ _ | show LCt.CompSrcT _ _ _ _ _ _ _ _ _ _ _ _ _ _ _)) | fail); walk1)) | (leave1; walk_say "STEP leave1"; try dsimp only) | fail "no step")) | fail)
              dsimp only [InvPostG]
              rename Fr _ _ _ _ => F9; rename News _ _ _ _ => N9
              exact endN sep F9 N9 (fun p hp => by repeat' (first | exact hp | refine List.Mem.tail _ ?_)) (by (first | (intro z h1 h2 h3; (simp only [List.contains_cons, List.contains_nil, Bool.or_eq_false_iff, beq_eq_false_iff_ne, ne_eq, List.forall_mem_cons, List.mem_cons, List.not_mem_nil, or_false, forall_eq_or_imp, forall_eq] at h1 h2 h3); (simp only [h1, h2, h3, if_false, ite_false, List.contains_cons, List.contains_nil, Bool.or_false, beq_iff_eq, Bool.or_eq_true, or_self, or_false, and_true, not_false_eq_true, Bool.false_eq_true]); done) | fail))
            | addr t =>
              have hdr9 := hdr
              simp only [rowDat] at hdr
              refine di_rowM hdr ?_
              intro a9 t1 t2 t3 t4 ev ht
              clear hdr
              subst ev
              have hq2 : t ≤ ks.length := by rw [hks]; exact Nat.le_of_lt hVr
              have hH' : ((kindN (Str.ofString "addr") (fixes rows)).any fun x => x == (idx : Int)) = true := by rw [hH]; rfl
              clear hA hH hVr
              (first | ((try k_unmd); (try k_fold); repeat' (first | (k_unfold; (try dsimp only)) | (first | ((with_reducible show wpAny _ _ (call (Value.ref 131) _) _ _ _); k_here; k_dflt (refine goal_law (by k_asm) (by k_asm) (by k_asm) (by k_asm) (by rfl) (by (first | decide | ((try dsimp only [ktrTop, Around.deeper, Around.in1]); omega) | fail)) (by (first | decide | ((try dsimp only [ktrTop, Around.deeper, Around.in1]); omega) | fail)) (by k_asm) (by with_reducible assumption) (by (first | (intro p hp; first | (with_reducible (repeat' (first | exact hp | exact List.mem_append_left _ hp | exact List.mem_append_right _ hp | refine List.mem_cons_of_mem _ ?_)); done) | ((simp only [List.nil_append, List.cons_append, List.append_nil, List.append_assoc, List.mem_cons, List.mem_append, List.not_mem_nil, or_false, false_or] at hp ⊢); first | done | grind)) | fail)) (by with_reducible assumption) (by with_reducible assumption) (by omega) (by first | (with_reducible assumption) | rfl | fail) (by first | (with_reducible assumption) | omega | fail) ?_; k_whole); intro h' tk' t' F' N'; (try k_sweep)) | ((with_reducible show wpAny _ _ (call (Value.ref 112) _) _ _ _); k_here; k_dflt (refine draw_at (by k_asm) (by k_asm) (by k_asm) (by k_asm) (by rfl) (by (first | decide | ((try dsimp only [ktrTop, Around.deeper, Around.in1]); omega) | fail)) (by (first | decide | ((try dsimp only [ktrTop, Around.deeper, Around.in1]); omega) | fail)) (by k_asm) (by k_updF) (by with_reducible assumption) (by with_reducible assumption) (by omega) (by omega) ?_; k_whole); intro h' tk' vs' n' ns' x' t' F' N' hi' hl' x1'; (try k_sweep)) | ((with_reducible show wpAny _ _ (subscriptTail _ _ (Value.ref _) (Value.str _ _)) _ _ _); k_here; k_dflt (refine bd_item (knd := PySem.strKind _ _) (by k_asm) (by with_reducible assumption) (strKind_is _ _ _ _) (by with_reducible assumption) ?_ (by with_unfolding_all rfl); k_whole)) | ((with_reducible show wpAny _ _ (subscriptTail _ _ (Value.ref _) (Value.int _ _)) _ _ _); k_here; k_dflt (refine bd_item (knd := PySem.intKind _ _) (by k_asm) (by with_reducible assumption) (intKind_is _ _ _ _) (by with_reducible assumption) ?_ (by with_unfolding_all rfl); k_whole)) | fail) | ((first | (fail_if_success (with_reducible first | show wpAny _ _ (call (Value.ref _) _) _ _ _ | show wpAny _ _ (exec (Stmt.While _ _ _ _) _) _ _ _ | show wpAny _ _ (exec (Stmt.For _ _ _ _ _) _) _ _ _ | show wpAny _ _ (pyIter _) _ _ _ | show wpAny _ _ (setItem _ _ _) _ _ _ | show wpAny _ _ (eval (Expr.ListComp _ _ _ _) _) _ _ _ | show wpAny _ _ (exec (Stmt.Assign _ (Expr.ListComp _ _ _ _) _) _) _ _ _ | show InvPostG _ _ _ _ _ _ _ _ | show InvEndG _ _ _ _ _ _ | show OnG _ _ _ _ _ _ _ | show Fin _ _ _ _ _ _ | show KswEnd _ _ _ _ _ _ _ _ _ _ _ _ | show wpAny _ _ (call (Value.builtin "sorted") _) _ _ _ | show LCg.CompEnd _ _ _ _ _ _ _ _ _ _ _ _ _ _ | show LCg.CompSrc _ _ _ _ _ _ _ _ _ _ _ _ _ _ | show LCt.CompSrcT _ _ _ _ _ _ _ _ _ _ _ _ _ _ _)) | fail); first | walk1 | (dsimp only; (try k_fold); (first | (fail_if_success (with_reducible first | show wpAny _ _ (call (Value.ref _) _) _ _ _ | show wpAny _ _ (exec (Stmt.While _ _ _ _) _) _ _ _ | show wpAny _ _ (exec (Stmt.For _ _ _ _ _) _) _ _ _ | show wpAny _ _ (pyIter _) _ _ _ | show wpAny _ _ (setItem _ _ _) _ _ _ | show wpAny _ _ (eval (Expr.ListComp _ _ _ _) _) _ _ _ | show wpAny _ _ (exec (Stmt.Assign _ (Expr.ListComp _ _ _ _) _) _) _ _ _ | show InvPostG _ _ _ _ _ _ _ _ | show InvEndG _ _ _ _ _ _ | show OnG _ _ _ _ _ _ _ | show Fin _ _ _ _ _ _ | show KswEnd _ _ _ _ _ _ _ _ _ _ _ _ | show wpAny _ _ (call (Value.builtin "sorted") _) _ _ _ | show LCg.CompEnd _ _ _ _ _ _ _ _ _ _ _ _ _ _ | show LCg.CompSrc _ _ _ _ _ _ _ _ _ _ _ _ _ _ | show LCt.CompSrcT _ _ _ _ _ _ _ _ _ _ _ _ _ _ _)) | fail); walk1)) | (leave1; walk_say "STEP leave1"; try dsimp only) | fail "no step")) | fail)
              rename Fr _ _ _ _ => F7; rename News _ _ _ _ => N7
              refine ne_di (da := newRow ks idx (.addr t)) (db := newRow ks idx (.addr t)) ?_ ?_ (newRow_ok ks 8 idx _) (newRow_ok ks 8 idx _) ?_ rfl ?_
              · exact hdr2.mono (hKI3.le F7 N7 (by (first | (intro p hp; first | (with_reducible (repeat' (first | exact hp | exact List.mem_append_left _ hp | exact List.mem_append_right _ hp | refine List.mem_cons_of_mem _ ?_)); done) | ((simp only [List.nil_append, List.cons_append, List.append_nil, List.append_assoc, List.mem_cons, List.mem_append, List.not_mem_nil, or_false, false_or] at hp ⊢); first | done | grind)) | fail)))
              · exact .tuple (N7 _ (.head _)).1 rfl rfl (.cons (.str _ _) (.cons (.int _ _) (.cons (.int _ _) (.cons (.int _ _) .nil))))
              · show callerA.units + 3 + 64 < cLine
                decide
              (first | ((try k_unmd); (try k_fold); repeat' (first | (k_unfold; (try dsimp only)) | (first | ((with_reducible show wpAny _ _ (call (Value.ref 131) _) _ _ _); k_here; k_dflt (refine goal_law (by k_asm) (by k_asm) (by k_asm) (by k_asm) (by rfl) (by (first | decide | ((try dsimp only [ktrTop, Around.deeper, Around.in1]); omega) | fail)) (by (first | decide | ((try dsimp only [ktrTop, Around.deeper, Around.in1]); omega) | fail)) (by k_asm) (by with_reducible assumption) (by (first | (intro p hp; first | (with_reducible (repeat' (first | exact hp | exact List.mem_append_left _ hp | exact List.mem_append_right _ hp | refine List.mem_cons_of_mem _ ?_)); done) | ((simp only [List.nil_append, List.cons_append, List.append_nil, List.append_assoc, List.mem_cons, List.mem_append, List.not_mem_nil, or_false, false_or] at hp ⊢); first | done | grind)) | fail)) (by with_reducible assumption) (by with_reducible assumption) (by omega) (by first | (with_reducible assumption) | rfl | fail) (by first | (with_reducible assumption) | omega | fail) ?_; k_whole); intro h' tk' t' F' N'; (try k_sweep)) | ((with_reducible show wpAny _ _ (call (Value.ref 112) _) _ _ _); k_here; k_dflt (refine draw_at (by k_asm) (by k_asm) (by k_asm) (by k_asm) (by rfl) (by (first | decide | ((try dsimp only [ktrTop, Around.deeper, Around.in1]); omega) | fail)) (by (first | decide | ((try dsimp only [ktrTop, Around.deeper, Around.in1]); omega) | fail)) (by k_asm) (by k_updF) (by with_reducible assumption) (by with_reducible assumption) (by omega) (by omega) ?_; k_whole); intro h' tk' vs' n' ns' x' t' F' N' hi' hl' x1'; (try k_sweep)) | ((with_reducible show wpAny _ _ (subscriptTail _ _ (Value.ref _) (Value.str _ _)) _ _ _); k_here; k_dflt (refine bd_item (knd := PySem.strKind _ _) (by k_asm) (by with_reducible assumption) (strKind_is _ _ _ _) (by with_reducible assumption) ?_ (by with_unfolding_all rfl); k_whole)) | ((with_reducible show wpAny _ _ (subscriptTail _ _ (Value.ref _) (Value.int _ _)) _ _ _); k_here; k_dflt (refine bd_item (knd := PySem.intKind _ _) (by k_asm) (by with_reducible assumption) (intKind_is _ _ _ _) (by with_reducible assumption) ?_ (by with_unfolding_all rfl); k_whole)) | fail) | ((first | (fail_if_success (with_reducible first | show wpAny _ _ (call (Value.ref _) _) _ _ _ | show wpAny _ _ (exec (Stmt.While _ _ _ _) _) _ _ _ | show wpAny _ _ (exec (Stmt.For _ _ _ _ _) _) _ _ _ | show wpAny _ _ (pyIter _) _ _ _ | show wpAny _ _ (setItem _ _ _) _ _ _ | show wpAny _ _ (eval (Expr.ListComp _ _ _ _) _) _ _ _ | show wpAny _ _ (exec (Stmt.Assign _ (Expr.ListComp _ _ _ _) _) _) _ _ _ | show InvPostG _ _ _ _ _ _ _ _ | show InvEndG _ _ _ _ _ _ | show OnG _ _ _ _ _ _ _ | show Fin _ _ _ _ _ _ | show KswEnd _ _ _ _ _ _ _ _ _ _ _ _ | show wpAny _ _ (call (Value.builtin "sorted") _) _ _ _ | show LCg.CompEnd _ _ _ _ _ _ _ _ _ _ _ _ _ _ | show LCg.CompSrc _ _ _ _ _ _ _ _ _ _ _ _ _ _ | show LCt.CompSrcT _ _ _ _ _ _ _ _ _ _ _ _ _ _ _)) | fail); first | walk1 | (dsimp only; (try k_fold); (first | (fail_if_success (with_reducible first | show wpAny _ _ (call (Value.ref _) _) _ _ _ | show wpAny _ _ (exec (Stmt.While _ _ _ _) _) _ _ _ | show wpAny _ _ (exec (Stmt.For _ _ _ _ _) _) _ _ _ | show wpAny _ _ (pyIter _) _ _ _ | show wpAny _ _ (setItem _ _ _) _ _ _ | show wpAny _ _ (eval (Expr.ListComp _ _ _ _) _) _ _ _ | show wpAny _ _ (exec (Stmt.Assign _ (Expr.ListComp _ _ _ _) _) _) _ _ _ | show InvPostG _ _ _ _ _ _ _ _ | show InvEndG _ _ _ _ _ _ | show OnG _ _ _ _ _ _ _ | show Fin _ _ _ _ _ _ | show KswEnd _ _ _ _ _ _ _ _ _ _ _ _ | show wpAny _ _ (call (Value.builtin "sorted") _) _ _ _ | show LCg.CompEnd _ _ _ _ _ _ _ _ _ _ _ _ _ _ | show LCg.CompSrc _ _ _ _ _ _ _ _ _ _ _ _ _ _ | show LCt.CompSrcT _ _ _ _ _ _ _ _ _ _ _ _ _ _ _)) | fail); walk1)) | (leave1; walk_say "STEP leave1"; try dsimp only) | fail "no step")) | fail)
              dsimp only [InvPostG]
              rename Fr _ _ _ _ => F9; rename News _ _ _ _ => N9
              exact endN sep F9 N9 (fun p hp => by repeat' (first | exact hp | refine List.Mem.tail _ ?_)) (by (first | (intro z h1 h2 h3; (simp only [List.contains_cons, List.contains_nil, Bool.or_eq_false_iff, beq_eq_false_iff_ne, ne_eq, List.forall_mem_cons, List.mem_cons, List.not_mem_nil, or_false, forall_eq_or_imp, forall_eq] at h1 h2 h3); (simp only [h1, h2, h3, if_false, ite_false, List.contains_cons, List.contains_nil, Bool.or_false, beq_iff_eq, Bool.or_eq_true, or_self, or_false, and_true, not_false_eq_true, Bool.false_eq_true]); done) | fail))
            | plain d =>
              have hdr9 := hdr
              simp only [rowDat] at hdr
              refine di_rowM hdr ?_
              intro a9 t1 t2 t3 t4 ev ht
              clear hdr
              subst ev
              have hH' : ((kindN (Str.ofString "addr") (fixes rows)).any fun x => x == (idx : Int)) = false := by rw [hH]; rfl
              clear hA hH hVr
              (first | ((try k_unmd); (try k_fold); repeat' (first | (k_unfold; (try dsimp only)) | (first | ((with_reducible show wpAny _ _ (call (Value.ref 131) _) _ _ _); k_here; k_dflt (refine goal_law (by k_asm) (by k_asm) (by k_asm) (by k_asm) (by rfl) (by (first | decide | ((try dsimp only [ktrTop, Around.deeper, Around.in1]); omega) | fail)) (by (first | decide | ((try dsimp only [ktrTop, Around.deeper, Around.in1]); omega) | fail)) (by k_asm) (by with_reducible assumption) (by (first | (intro p hp; first | (with_reducible (repeat' (first | exact hp | exact List.mem_append_left _ hp | exact List.mem_append_right _ hp | refine List.mem_cons_of_mem _ ?_)); done) | ((simp only [List.nil_append, List.cons_append, List.append_nil, List.append_assoc, List.mem_cons, List.mem_append, List.not_mem_nil, or_false, false_or] at hp ⊢); first | done | grind)) | fail)) (by with_reducible assumption) (by with_reducible assumption) (by omega) (by first | (with_reducible assumption) | rfl | fail) (by first | (with_reducible assumption) | omega | fail) ?_; k_whole); intro h' tk' t' F' N'; (try k_sweep)) | ((with_reducible show wpAny _ _ (call (Value.ref 112) _) _ _ _); k_here; k_dflt (refine draw_at (by k_asm) (by k_asm) (by k_asm) (by k_asm) (by rfl) (by (first | decide | ((try dsimp only [ktrTop, Around.deeper, Around.in1]); omega) | fail)) (by (first | decide | ((try dsimp only [ktrTop, Around.deeper, Around.in1]); omega) | fail)) (by k_asm) (by k_updF) (by with_reducible assumption) (by with_reducible assumption) (by omega) (by omega) ?_; k_whole); intro h' tk' vs' n' ns' x' t' F' N' hi' hl' x1'; (try k_sweep)) | ((with_reducible show wpAny _ _ (subscriptTail _ _ (Value.ref _) (Value.str _ _)) _ _ _); k_here; k_dflt (refine bd_item (knd := PySem.strKind _ _) (by k_asm) (by with_reducible assumption) (strKind_is _ _ _ _) (by with_reducible assumption) ?_ (by with_unfolding_all rfl); k_whole)) | ((with_reducible show wpAny _ _ (subscriptTail _ _ (Value.ref _) (Value.int _ _)) _ _ _); k_here; k_dflt (refine bd_item (knd := PySem.intKind _ _) (by k_asm) (by with_reducible assumption) (intKind_is _ _ _ _) (by with_reducible assumption) ?_ (by with_unfolding_all rfl); k_whole)) | fail) | ((first | (fail_if_success (with_reducible first | show wpAny _ _ (call (Value.ref _) _) _ _ _ | show wpAny _ _ (exec (Stmt.While _ _ _ _) _) _ _ _ | show wpAny _ _ (exec (Stmt.For _ _ _ _ _) _) _ _ _ | show wpAny _ _ (pyIter _) _ _ _ | show wpAny _ _ (setItem _ _ _) _ _ _ | show wpAny _ _ (eval (Expr.ListComp _ _ _ _) _) _ _ _ | show wpAny _ _ (exec (Stmt.Assign _ (Expr.ListComp _ _ _ _) _) _) _ _ _ | show InvPostG _ _ _ _ _ _ _ _ | show InvEndG _ _ _ _ _ _ | show OnG _ _ _ _ _ _ _ | show Fin _ _ _ _ _ _ | show KswEnd _ _ _ _ _ _ _ _ _ _ _ _ | show wpAny _ _ (call (Value.builtin "sorted") _) _ _ _ | show LCg.CompEnd _ _ _ _ _ _ _ _ _ _ _ _ _ _ | show LCg.CompSrc _ _ _ _ _ _ _ _ _ _ _ _ _ _ | show LCt.CompSrcT _ _ _ _ _ _ _ _ _ _ _ _ _ _ _)) | fail); first | walk1 | (dsimp only; (try k_fold); (first | (fail_if_success (with_reducible first | show wpAny _ _ (call (Value.ref _) _) _ _ _ | show wpAny _ _ (exec (Stmt.While _ _ _ _) _) _ _ _ | show wpAny _ _ (exec (Stmt.For _ _ _ _ _) _) _ _ _ | show wpAny _ _ (pyIter _) _ _ _ | show wpAny _ _ (setItem _ _ _) _ _ _ | show wpAny _ _ (eval (Expr.ListComp _ _ _ _) _) _ _ _ | show wpAny _ _ (exec (Stmt.Assign _ (Expr.ListComp _ _ _ _) _) _) _ _ _ | show InvPostG _ _ _ _ _ _ _ _ | show InvEndG _ _ _ _ _ _ | show OnG _ _ _ _ _ _ _ | show Fin _ _ _ _ _ _ | show KswEnd _ _ _ _ _ _ _ _ _ _ _ _ | show wpAny _ _ (call (Value.builtin "sorted") _) _ _ _ | show LCg.CompEnd _ _ _ _ _ _ _ _ _ _ _ _ _ _ | show LCg.CompSrc _ _ _ _ _ _ _ _ _ _ _ _ _ _ | show LCt.CompSrcT _ _ _ _ _ _ _ _ _ _ _ _ _ _ _)) | fail); walk1)) | (leave1; walk_say "STEP leave1"; try dsimp only) | fail "no step")) | fail)
              rename Fr _ _ _ _ => F7; rename News _ _ _ _ => N7
              refine ne_di (da := newRow ks idx (.plain d)) (db := rowDat idx (.plain d)) ?_ ?_ (newRow_ok ks 8 idx _) (rowDat_ok 8 idx _) ?_ rfl ?_
              · exact hdr2.mono (hKI3.le F7 N7 (by (first | (intro p hp; first | (with_reducible (repeat' (first | exact hp | exact List.mem_append_left _ hp | exact List.mem_append_right _ hp | refine List.mem_cons_of_mem _ ?_)); done) | ((simp only [List.nil_append, List.cons_append, List.append_nil, List.append_assoc, List.mem_cons, List.mem_append, List.not_mem_nil, or_false, false_or] at hp ⊢); first | done | grind)) | fail)))
              · exact hdr9.mono (hKI3.le F7 N7 (by (first | (intro p hp; first | (with_reducible (repeat' (first | exact hp | exact List.mem_append_left _ hp | exact List.mem_append_right _ hp | refine List.mem_cons_of_mem _ ?_)); done) | ((simp only [List.nil_append, List.cons_append, List.append_nil, List.append_assoc, List.mem_cons, List.mem_append, List.not_mem_nil, or_false, false_or] at hp ⊢); first | done | grind)) | fail)))
              · show callerA.units + 3 + 64 < cLine
                decide
              (first | ((try k_unmd); (try k_fold); repeat' (first | (k_unfold; (try dsimp only)) | (first | ((with_reducible show wpAny _ _ (call (Value.ref 131) _) _ _ _); k_here; k_dflt (refine goal_law (by k_asm) (by k_asm) (by k_asm) (by k_asm) (by rfl) (by (first | decide | ((try dsimp only [ktrTop, Around.deeper, Around.in1]); omega) | fail)) (by (first | decide | ((try dsimp only [ktrTop, Around.deeper, Around.in1]); omega) | fail)) (by k_asm) (by with_reducible assumption) (by (first | (intro p hp; first | (with_reducible (repeat' (first | exact hp | exact List.mem_append_left _ hp | exact List.mem_append_right _ hp | refine List.mem_cons_of_mem _ ?_)); done) | ((simp only [List.nil_append, List.cons_append, List.append_nil, List.append_assoc, List.mem_cons, List.mem_append, List.not_mem_nil, or_false, false_or] at hp ⊢); first | done | grind)) | fail)) (by with_reducible assumption) (by with_reducible assumption) (by omega) (by first | (with_reducible assumption) | rfl | fail) (by first | (with_reducible assumption) | omega | fail) ?_; k_whole); intro h' tk' t' F' N'; (try k_sweep)) | ((with_reducible show wpAny _ _ (call (Value.ref 112) _) _ _ _); k_here; k_dflt (refine draw_at (by k_asm) (by k_asm) (by k_asm) (by k_asm) (by rfl) (by (first | decide | ((try dsimp only [ktrTop, Around.deeper, Around.in1]); omega) | fail)) (by (first | decide | ((try dsimp only [ktrTop, Around.deeper, Around.in1]); omega) | fail)) (by k_asm) (by k_updF) (by with_reducible assumption) (by with_reducible assumption) (by omega) (by omega) ?_; k_whole); intro h' tk' vs' n' ns' x' t' F' N' hi' hl' x1'; (try k_sweep)) | ((with_reducible show wpAny _ _ (subscriptTail _ _ (Value.ref _) (Value.str _ _)) _ _ _); k_here; k_dflt (refine bd_item (knd := PySem.strKind _ _) (by k_asm) (by with_reducible assumption) (strKind_is _ _ _ _) (by with_reducible assumption) ?_ (by with_unfolding_all rfl); k_whole)) | ((with_reducible show wpAny _ _ (subscriptTail _ _ (Value.ref _) (Value.int _ _)) _ _ _); k_here; k_dflt (refine bd_item (knd := PySem.intKind _ _) (by k_asm) (by with_reducible assumption) (intKind_is _ _ _ _) (by with_reducible assumption) ?_ (by with_unfolding_all rfl); k_whole)) | fail) | ((first | (fail_if_success (with_reducible first | show wpAny _ _ (call (Value.ref _) _) _ _ _ | show wpAny _ _ (exec (Stmt.While _ _ _ _) _) _ _ _ | show wpAny _ _ (exec (Stmt.For _ _ _ _ _) _) _ _ _ | show wpAny _ _ (pyIter _) _ _ _ | show wpAny _ _ (setItem _ _ _) _ _ _ | show wpAny _ _ (eval (Expr.ListComp _ _ _ _) _) _ _ _ | show wpAny _ _ (exec (Stmt.Assign _ (Expr.ListComp _ _ _ _) _) _) _ _ _ | show InvPostG _ _ _ _ _ _ _ _ | show InvEndG _ _ _ _ _ _ | show OnG _ _ _ _ _ _ _ | show Fin _ _ _ _ _ _ | show KswEnd _ _ _ _ _ _ _ _ _ _ _ _ | show wpAny _ _ (call (Value.builtin "sorted") _) _ _ _ | show LCg.CompEnd _ _ _ _ _ _ _ _ _ _ _ _ _ _ | show LCg.CompSrc _ _ _ _ _ _ _ _ _ _ _ _ _ _ | show LCt.CompSrcT _ _ _ _ _ _ _ _ _ _ _ _ _ _ _)) | fail); first | walk1 | (dsimp only; (try k_fold); (first | (fail_if_success (with_reducible first | show wpAny _ _ (call (Value.ref _) _) _ _ _ | show wpAny _ _ (exec (Stmt.While _ _ _ _) _) _ _ _ | show wpAny _ _ (exec (Stmt.For _ _ _ _ _) _) _ _ _ | show wpAny _ _ (pyIter _) _ _ _ | show wpAny _ _ (setItem _ _ _) _ _ _ | show wpAny _ _ (eval (Expr.ListComp _ _ _ _) _) _ _ _ | show wpAny _ _ (exec (Stmt.Assign _ (Expr.ListComp _ _ _ _) _) _) _ _ _ | show InvPostG _ _ _ _ _ _ _ _ | show InvEndG _ _ _ _ _ _ | show OnG _ _ _ _ _ _ _ | show Fin _ _ _ _ _ _ | show KswEnd _ _ _ _ _ _ _ _ _ _ _ _ | show wpAny _ _ (call (Value.builtin "sorted") _) _ _ _ | show LCg.CompEnd _ _ _ _ _ _ _ _ _ _ _ _ _ _ | show LCg.CompSrc _ _ _ _ _ _ _ _ _ _ _ _ _ _ | show LCt.CompSrcT _ _ _ _ _ _ _ _ _ _ _ _ _ _ _)) | fail); walk1)) | (leave1; walk_say "STEP leave1"; try dsimp only) | fail "no step")) | fail)
              dsimp only [InvPostG]
              rename Fr _ _ _ _ => F9; rename News _ _ _ _ => N9
              exact endN sep F9 N9 (fun p hp => by repeat' (first | exact hp | refine List.Mem.tail _ ?_)) (by (first | (intro z h1 h2 h3; (simp only [List.contains_cons, List.contains_nil, Bool.or_eq_false_iff, beq_eq_false_iff_ne, ne_eq, List.forall_mem_cons, List.mem_cons, List.not_mem_nil, or_false, forall_eq_or_imp, forall_eq] at h1 h2 h3); (simp only [h1, h2, h3, if_false, ite_false, List.contains_cons, List.contains_nil, Bool.or_false, beq_iff_eq, Bool.or_eq_true, or_self, or_false, and_true, not_false_eq_true, Bool.false_eq_true]); done) | fail))
          · intro tl u h tk off F6 N6
            simp only [List.cons_append, List.nil_append] at N6
            have N6c := fun p hp => N6 p (.tail _ (.tail _ hp))
            obtain ⟨K4, tl4, hK4, NT, hoff4, hKI4, hKK⟩ := resnap F6 N6 hKI3 (by (first | (intro p hp; first | (with_reducible (repeat' (first | exact hp | exact List.mem_append_left _ hp | exact List.mem_append_right _ hp | refine List.mem_cons_of_mem _ ?_)); done) | ((simp only [List.nil_append, List.cons_append, List.append_nil, List.append_assoc, List.mem_cons, List.mem_append, List.not_mem_nil, or_false, false_or] at hp ⊢); first | done | grind)) | fail)) hKn3 (none_four N6c)
            replace O := O.keeps hKK
            replace O2 := O2.keeps hKK
            replace hkl := stays_list hKK hkl
            replace hsl := stays_list hKK hsl
            replace hE0 := hE0.mono hKK
            have N9 := news_both (news_take 4 N6c) NT
            simp only [List.take_succ_cons, List.take_zero, List.cons_append, List.nil_append] at N9
            have hKn4 : ∀ b o, K4.get? b = some o → b ≠ _ ∧ b ∉ [_, _, _, _] := fun b o e => ((hK4 b o).mp e).2
            clear N6 N6c NT hKI3 hKn3 hKK hr1 hr2 hr3 hr4 hr5 hr6 hl2 Ob Ob2 hoff3 hK4 hf1 hf2 hf3 hfl haw hhd offaw offhd off hcc F7 N7 hir
            obtain ⟨lf, fvs, hf1, hf2, hf3⟩ := O.fixups.list
            obtain ⟨lf2, fvs2, hf4, hf5, hf6⟩ := O2.fixups.list
            have Ob := O.obj
            have Ob2 := O2.obj
            replace hf3 : DIs (Hp K4) fvs ((fixes rows).map Fix.dat) := hf3
            replace hf6 : DIs (Hp K4) fvs2 (newFixes ks (fixes rows)) := hf6
            have hfl := hf3.length
            rw [List.length_map] at hfl
            (try dsimp only)
            have hKd := kdMark
            (first | ((try k_unmd); (try k_fold); repeat' (first | (k_unfold; (try dsimp only)) | (first | ((with_reducible show wpAny _ _ (call (Value.ref 131) _) _ _ _); k_here; k_dflt (refine goal_law (by k_asm) (by k_asm) (by k_asm) (by k_asm) (by rfl) (by (first | decide | ((try dsimp only [ktrTop, Around.deeper, Around.in1]); omega) | fail)) (by (first | decide | ((try dsimp only [ktrTop, Around.deeper, Around.in1]); omega) | fail)) (by k_asm) (by with_reducible assumption) (by (first | (intro p hp; first | (with_reducible (repeat' (first | exact hp | exact List.mem_append_left _ hp | exact List.mem_append_right _ hp | refine List.mem_cons_of_mem _ ?_)); done) | ((simp only [List.nil_append, List.cons_append, List.append_nil, List.append_assoc, List.mem_cons, List.mem_append, List.not_mem_nil, or_false, false_or] at hp ⊢); first | done | grind)) | fail)) (by with_reducible assumption) (by with_reducible assumption) (by omega) (by first | (with_reducible assumption) | rfl | fail) (by first | (with_reducible assumption) | omega | fail) ?_; k_whole); intro h' tk' t' F' N'; (try k_sweep)) | ((with_reducible show wpAny _ _ (call (Value.ref 112) _) _ _ _); k_here; k_dflt (refine draw_at (by k_asm) (by k_asm) (by k_asm) (by k_asm) (by rfl) (by (first | decide | ((try dsimp only [ktrTop, Around.deeper, Around.in1]); omega) | fail)) (by (first | decide | ((try dsimp only [ktrTop, Around.deeper, Around.in1]); omega) | fail)) (by k_asm) (by k_updF) (by with_reducible assumption) (by with_reducible assumption) (by omega) (by omega) ?_; k_whole); intro h' tk' vs' n' ns' x' t' F' N' hi' hl' x1'; (try k_sweep)) | ((with_reducible show wpAny _ _ (subscriptTail _ _ (Value.ref _) (Value.str _ _)) _ _ _); k_here; k_dflt (refine bd_item (knd := PySem.strKind _ _) (by k_asm) (by with_reducible assumption) (strKind_is _ _ _ _) (by with_reducible assumption) ?_ (by with_unfolding_all rfl); k_whole)) | ((with_reducible show wpAny _ _ (subscriptTail _ _ (Value.ref _) (Value.int _ _)) _ _ _); k_here; k_dflt (refine bd_item (knd := PySem.intKind _ _) (by k_asm) (by with_reducible assumption) (intKind_is _ _ _ _) (by with_reducible assumption) ?_ (by with_unfolding_all rfl); k_whole)) | fail) | ((first | (fail_if_success (with_reducible first | show wpAny _ _ (call (Value.ref _) _) _ _ _ | show wpAny _ _ (exec (Stmt.While _ _ _ _) _) _ _ _ | show wpAny _ _ (exec (Stmt.For _ _ _ _ _) _) _ _ _ | show wpAny _ _ (pyIter _) _ _ _ | show wpAny _ _ (setItem _ _ _) _ _ _ | show wpAny _ _ (eval (Expr.ListComp _ _ _ _) _) _ _ _ | show wpAny _ _ (exec (Stmt.Assign _ (Expr.ListComp _ _ _ _) _) _) _ _ _ | show InvPostG _ _ _ _ _ _ _ _ | show InvEndG _ _ _ _ _ _ | show OnG _ _ _ _ _ _ _ | show Fin _ _ _ _ _ _ | show KswEnd _ _ _ _ _ _ _ _ _ _ _ _ | show wpAny _ _ (call (Value.builtin "sorted") _) _ _ _ | show LCg.CompEnd _ _ _ _ _ _ _ _ _ _ _ _ _ _ | show LCg.CompSrc _ _ _ _ _ _ _ _ _ _ _ _ _ _ | show LCt.CompSrcT _ _ _ _ _ _ _ _ _ _ _ _ _ _ _)) | fail); first | walk1 | (dsimp only; (try k_fold); (first | (fail_if_success (with_reducible first | show wpAny _ _ (call (Value.ref _) _) _ _ _ | show wpAny _ _ (exec (Stmt.While _ _ _ _) _) _ _ _ | show wpAny _ _ (exec (Stmt.For _ _ _ _ _) _) _ _ _ | show wpAny _ _ (pyIter _) _ _ _ | show wpAny _ _ (setItem _ _ _) _ _ _ | show wpAny _ _ (eval (Expr.ListComp _ _ _ _) _) _ _ _ | show wpAny _ _ (exec (Stmt.Assign _ (Expr.ListComp _ _ _ _) _) _) _ _ _ | show InvPostG _ _ _ _ _ _ _ _ | show InvEndG _ _ _ _ _ _ | show OnG _ _ _ _ _ _ _ | show Fin _ _ _ _ _ _ | show KswEnd _ _ _ _ _ _ _ _ _ _ _ _ | show wpAny _ _ (call (Value.builtin "sorted") _) _ _ _ | show LCg.CompEnd _ _ _ _ _ _ _ _ _ _ _ _ _ _ | show LCg.CompSrc _ _ _ _ _ _ _ _ _ _ _ _ _ _ | show LCt.CompSrcT _ _ _ _ _ _ _ _ _ _ _ _ _ _ _)) | fail); walk1)) | (leave1; walk_say "STEP leave1"; try dsimp only) | fail "no step")) | fail)
            rename Fr _ _ _ _ => F7; rename News _ _ _ _ => N7
            k_dflt (refine LCt.ListComp_T (cl := [(Str.ofString "stay", _), (Str.ofString "kept", _)]) (F₀ := F7) (by with_unfolding_all rfl) (by decide) (by rfl) (by decide) (by rfl) ?_)
            (first | ((try k_unmd); (try k_fold); repeat' (first | (k_unfold; (try dsimp only)) | (first | ((with_reducible show wpAny _ _ (call (Value.ref 131) _) _ _ _); k_here; k_dflt (refine goal_law (by k_asm) (by k_asm) (by k_asm) (by k_asm) (by rfl) (by (first | decide | ((try dsimp only [ktrTop, Around.deeper, Around.in1]); omega) | fail)) (by (first | decide | ((try dsimp only [ktrTop, Around.deeper, Around.in1]); omega) | fail)) (by k_asm) (by with_reducible assumption) (by (first | (intro p hp; first | (with_reducible (repeat' (first | exact hp | exact List.mem_append_left _ hp | exact List.mem_append_right _ hp | refine List.mem_cons_of_mem _ ?_)); done) | ((simp only [List.nil_append, List.cons_append, List.append_nil, List.append_assoc, List.mem_cons, List.mem_append, List.not_mem_nil, or_false, false_or] at hp ⊢); first | done | grind)) | fail)) (by with_reducible assumption) (by with_reducible assumption) (by omega) (by first | (with_reducible assumption) | rfl | fail) (by first | (with_reducible assumption) | omega | fail) ?_; k_whole); intro h' tk' t' F' N'; (try k_sweep)) | ((with_reducible show wpAny _ _ (call (Value.ref 112) _) _ _ _); k_here; k_dflt (refine draw_at (by k_asm) (by k_asm) (by k_asm) (by k_asm) (by rfl) (by (first | decide | ((try dsimp only [ktrTop, Around.deeper, Around.in1]); omega) | fail)) (by (first | decide | ((try dsimp only [ktrTop, Around.deeper, Around.in1]); omega) | fail)) (by k_asm) (by k_updF) (by with_reducible assumption) (by with_reducible assumption) (by omega) (by omega) ?_; k_whole); intro h' tk' vs' n' ns' x' t' F' N' hi' hl' x1'; (try k_sweep)) | ((with_reducible show wpAny _ _ (subscriptTail _ _ (Value.ref _) (Value.str _ _)) _ _ _); k_here; k_dflt (refine bd_item (knd := PySem.strKind _ _) (by k_asm) (by with_reducible assumption) (strKind_is _ _ _ _) (by with_reducible assumption) ?_ (by with_unfolding_all rfl); k_whole)) | ((with_reducible show wpAny _ _ (subscriptTail _ _ (Value.ref _) (Value.int _ _)) _ _ _); k_here; k_dflt (refine bd_item (knd := PySem.intKind _ _) (by k_asm) (by with_reducible assumption) (intKind_is _ _ _ _) (by with_reducible assumption) ?_ (by with_unfolding_all rfl); k_whole)) | fail) | ((first | (fail_if_success (with_reducible first | show wpAny _ _ (call (Value.ref _) _) _ _ _ | show wpAny _ _ (exec (Stmt.While _ _ _ _) _) _ _ _ | show wpAny _ _ (exec (Stmt.For _ _ _ _ _) _) _ _ _ | show wpAny _ _ (pyIter _) _ _ _ | show wpAny _ _ (setItem _ _ _) _ _ _ | show wpAny _ _ (eval (Expr.ListComp _ _ _ _) _) _ _ _ | show wpAny _ _ (exec (Stmt.Assign _ (Expr.ListComp _ _ _ _) _) _) _ _ _ | show InvPostG _ _ _ _ _ _ _ _ | show InvEndG _ _ _ _ _ _ | show OnG _ _ _ _ _ _ _ | show Fin _ _ _ _ _ _ | show KswEnd _ _ _ _ _ _ _ _ _ _ _ _ | show wpAny _ _ (call (Value.builtin "sorted") _) _ _ _ | show LCg.CompEnd _ _ _ _ _ _ _ _ _ _ _ _ _ _ | show LCg.CompSrc _ _ _ _ _ _ _ _ _ _ _ _ _ _ | show LCt.CompSrcT _ _ _ _ _ _ _ _ _ _ _ _ _ _ _)) | fail); first | walk1 | (dsimp only; (try k_fold); (first | (fail_if_success (with_reducible first | show wpAny _ _ (call (Value.ref _) _) _ _ _ | show wpAny _ _ (exec (Stmt.While _ _ _ _) _) _ _ _ | show wpAny _ _ (exec (Stmt.For _ _ _ _ _) _) _ _ _ | show wpAny _ _ (pyIter _) _ _ _ | show wpAny _ _ (setItem _ _ _) _ _ _ | show wpAny _ _ (eval (Expr.ListComp _ _ _ _) _) _ _ _ | show wpAny _ _ (exec (Stmt.Assign _ (Expr.ListComp _ _ _ _) _) _) _ _ _ | show InvPostG _ _ _ _ _ _ _ _ | show InvEndG _ _ _ _ _ _ | show OnG _ _ _ _ _ _ _ | show Fin _ _ _ _ _ _ | show KswEnd _ _ _ _ _ _ _ _ _ _ _ _ | show wpAny _ _ (call (Value.builtin "sorted") _) _ _ _ | show LCg.CompEnd _ _ _ _ _ _ _ _ _ _ _ _ _ _ | show LCg.CompSrc _ _ _ _ _ _ _ _ _ _ _ _ _ _ | show LCt.CompSrcT _ _ _ _ _ _ _ _ _ _ _ _ _ _ _)) | fail); walk1)) | (leave1; walk_say "STEP leave1"; try dsimp only) | fail "no step")) | fail)
            rename Fr _ _ _ _ => F7; rename News _ _ _ _ => N7
            rw [← List.append_nil tl4] at N7
            refine compsrcT_k (by rfl) F7 N7 hKI4 (by (first | (intro p hp; first | (with_reducible (repeat' (first | exact hp | exact List.mem_append_left _ hp | exact List.mem_append_right _ hp | refine List.mem_cons_of_mem _ ?_)); done) | ((simp only [List.nil_append, List.cons_append, List.append_nil, List.append_assoc, List.mem_cons, List.mem_append, List.not_mem_nil, or_false, false_or] at hp ⊢); first | done | grind)) | fail)) hf2 (by omega) ?_
            intro g3 S hS
            refine compIT (fun c : List (Addr × Obj) => _ :: _ :: _ :: _ :: (tl4 ++ c)) (fun i zs c => DIs (Kn K4 c) zs (newFixes ks ((fixes rows).take i))) [] .nil ?_ ?_
            · intro i zs c v I oI C oC D m₂ h tk E' hi hv hJ hC hx F6 N6 off ne
              obtain ⟨d1, hd1, hv1⟩ := hf3.at (show fvs[i]? = some v by simpa using hv)
              rw [List.getElem?_map] at hd1
              obtain ⟨f, hf0, rfl⟩ := Option.map_eq_some_iff.mp hd1
              obtain ⟨q, rq, hrq, _, hrow⟩ := fixes_mem (List.mem_of_getElem? hf0)
              have hq2 : q ≤ ks.length := by have := (List.getElem?_eq_some_iff.mp hrq).1; omega
              have hst := stays_at (ks := ks) (k := q) (by have := (List.getElem?_eq_some_iff.mp hrq).1; omega)
              have hkx : (ks.map Value.bool)[(q : Int).toNat]? = some (Value.bool (stays ks q)) := by rw [Int.toNat_natCast, List.getElem?_map, hst]; rfl
              have hq0 : (0 : Int) ≤ q := Int.natCast_nonneg q
              have hsn := newFixes_snoc ks hf0
              obtain ⟨frow, fkind, fm, fe⟩ := f
              dsimp only at hrow hsn
              subst hrow
              rw [Int.toNat_natCast] at hsn
              clear hd1 hf0 F7 N7 hv hst hrq
              generalize hbb : stays ks q = b at hkx hsn
              refine di_fix hv1 ?_
              intro a9 t1 t2 t3 t4 ev ht
              clear hv1
              subst ev
              have hKd := kdMark
              dsimp only at hsn hx ht
              (first | ((try k_unmd); (try k_fold); repeat' (first | (k_unfold; (try dsimp only)) | (first | ((with_reducible show wpAny _ _ (call (Value.ref 131) _) _ _ _); k_here; k_dflt (refine goal_law (by k_asm) (by k_asm) (by k_asm) (by k_asm) (by rfl) (by (first | decide | ((try dsimp only [ktrTop, Around.deeper, Around.in1]); omega) | fail)) (by (first | decide | ((try dsimp only [ktrTop, Around.deeper, Around.in1]); omega) | fail)) (by k_asm) (by with_reducible assumption) (by (first | (intro p hp; first | (with_reducible (repeat' (first | exact hp | exact List.mem_append_left _ hp | exact List.mem_append_right _ hp | refine List.mem_cons_of_mem _ ?_)); done) | ((simp only [List.nil_append, List.cons_append, List.append_nil, List.append_assoc, List.mem_cons, List.mem_append, List.not_mem_nil, or_false, false_or] at hp ⊢); first | done | grind)) | fail)) (by with_reducible assumption) (by with_reducible assumption) (by omega) (by first | (with_reducible assumption) | rfl | fail) (by first | (with_reducible assumption) | omega | fail) ?_; k_whole); intro h' tk' t' F' N'; (try k_sweep)) | ((with_reducible show wpAny _ _ (call (Value.ref 112) _) _ _ _); k_here; k_dflt (refine draw_at (by k_asm) (by k_asm) (by k_asm) (by k_asm) (by rfl) (by (first | decide | ((try dsimp only [ktrTop, Around.deeper, Around.in1]); omega) | fail)) (by (first | decide | ((try dsimp only [ktrTop, Around.deeper, Around.in1]); omega) | fail)) (by k_asm) (by k_updF) (by with_reducible assumption) (by with_reducible assumption) (by omega) (by omega) ?_; k_whole); intro h' tk' vs' n' ns' x' t' F' N' hi' hl' x1'; (try k_sweep)) | ((with_reducible show wpAny _ _ (subscriptTail _ _ (Value.ref _) (Value.str _ _)) _ _ _); k_here; k_dflt (refine bd_item (knd := PySem.strKind _ _) (by k_asm) (by with_reducible assumption) (strKind_is _ _ _ _) (by with_reducible assumption) ?_ (by with_unfolding_all rfl); k_whole)) | ((with_reducible show wpAny _ _ (subscriptTail _ _ (Value.ref _) (Value.int _ _)) _ _ _); k_here; k_dflt (refine bd_item (knd := PySem.intKind _ _) (by k_asm) (by with_reducible assumption) (intKind_is _ _ _ _) (by with_reducible assumption) ?_ (by with_unfolding_all rfl); k_whole)) | fail) | ((first | (fail_if_success (with_reducible first | show wpAny _ _ (call (Value.ref _) _) _ _ _ | show wpAny _ _ (exec (Stmt.While _ _ _ _) _) _ _ _ | show wpAny _ _ (exec (Stmt.For _ _ _ _ _) _) _ _ _ | show wpAny _ _ (pyIter _) _ _ _ | show wpAny _ _ (setItem _ _ _) _ _ _ | show wpAny _ _ (eval (Expr.ListComp _ _ _ _) _) _ _ _ | show wpAny _ _ (exec (Stmt.Assign _ (Expr.ListComp _ _ _ _) _) _) _ _ _ | show InvPostG _ _ _ _ _ _ _ _ | show InvEndG _ _ _ _ _ _ | show OnG _ _ _ _ _ _ _ | show Fin _ _ _ _ _ _ | show KswEnd _ _ _ _ _ _ _ _ _ _ _ _ | show wpAny _ _ (call (Value.builtin "sorted") _) _ _ _ | show LCg.CompEnd _ _ _ _ _ _ _ _ _ _ _ _ _ _ | show LCg.CompSrc _ _ _ _ _ _ _ _ _ _ _ _ _ _ | show LCt.CompSrcT _ _ _ _ _ _ _ _ _ _ _ _ _ _ _)) | fail); (fail_if_success (with_reducible show wpAny _ _ (subscriptTail _ (PySem.Expr.Slice _ _ none _) _ _) _ _ _)); (fail_if_success (with_reducible show wpAny _ _ (binaryOp Operator.Add (Value.ref _) (Value.ref _)) _ _ _)); (fail_if_success (with_reducible show wpAny _ _ (compareOp .NotEq (Value.ref _) (Value.ref _)) _ _ _)); (fail_if_success (with_reducible show wpAny _ _ (compareOp .Eq (Value.ref _) (Value.ref _)) _ _ _)); first | walk1 | (dsimp only; (try k_fold); (first | (fail_if_success (with_reducible first | show wpAny _ _ (call (Value.ref _) _) _ _ _ | show wpAny _ _ (exec (Stmt.While _ _ _ _) _) _ _ _ | show wpAny _ _ (exec (Stmt.For _ _ _ _ _) _) _ _ _ | show wpAny _ _ (pyIter _) _ _ _ | show wpAny _ _ (setItem _ _ _) _ _ _ | show wpAny _ _ (eval (Expr.ListComp _ _ _ _) _) _ _ _ | show wpAny _ _ (exec (Stmt.Assign _ (Expr.ListComp _ _ _ _) _) _) _ _ _ | show InvPostG _ _ _ _ _ _ _ _ | show InvEndG _ _ _ _ _ _ | show OnG _ _ _ _ _ _ _ | show Fin _ _ _ _ _ _ | show KswEnd _ _ _ _ _ _ _ _ _ _ _ _ | show wpAny _ _ (call (Value.builtin "sorted") _) _ _ _ | show LCg.CompEnd _ _ _ _ _ _ _ _ _ _ _ _ _ _ | show LCg.CompSrc _ _ _ _ _ _ _ _ _ _ _ _ _ _ | show LCt.CompSrcT _ _ _ _ _ _ _ _ _ _ _ _ _ _ _)) | fail); walk1)) | (leave1; walk_say "STEP leave1"; try dsimp only) | fail "no step")) | fail)
              · rename Fr _ _ _ _ => F7; rename News _ _ _ _ => N7
                dsimp only
                k_dflt (refine' slice4 ?zF ?zN ?zt ?zhs ?zhg ?_)
                case zF => exact F7
                case zN => exact N7
                case zt => exact IsTup.keeps ht (hKI4.le F7 N7 (by (first | (intro p hp; first | (with_reducible (repeat' (first | exact hp | exact List.mem_append_left _ hp | exact List.mem_append_right _ hp | refine List.mem_cons_of_mem _ ?_)); done) | ((simp only [List.nil_append, List.cons_append, List.append_nil, List.append_assoc, List.mem_cons, List.mem_append, List.not_mem_nil, or_false, false_or] at hp ⊢); first | done | grind)) | fail)))
                case zhs => with_unfolding_all rfl
                case zhg => intro _; with_unfolding_all rfl
                clear F7 N7
                intro D' h' F' N' l1
                k_lt l1
                (first | ((try k_unmd); (try k_fold); repeat' (first | (k_unfold; (try dsimp only)) | (first | ((with_reducible show wpAny _ _ (call (Value.ref 131) _) _ _ _); k_here; k_dflt (refine goal_law (by k_asm) (by k_asm) (by k_asm) (by k_asm) (by rfl) (by (first | decide | ((try dsimp only [ktrTop, Around.deeper, Around.in1]); omega) | fail)) (by (first | decide | ((try dsimp only [ktrTop, Around.deeper, Around.in1]); omega) | fail)) (by k_asm) (by with_reducible assumption) (by (first | (intro p hp; first | (with_reducible (repeat' (first | exact hp | exact List.mem_append_left _ hp | exact List.mem_append_right _ hp | refine List.mem_cons_of_mem _ ?_)); done) | ((simp only [List.nil_append, List.cons_append, List.append_nil, List.append_assoc, List.mem_cons, List.mem_append, List.not_mem_nil, or_false, false_or] at hp ⊢); first | done | grind)) | fail)) (by with_reducible assumption) (by with_reducible assumption) (by omega) (by first | (with_reducible assumption) | rfl | fail) (by first | (with_reducible assumption) | omega | fail) ?_; k_whole); intro h' tk' t' F' N'; (try k_sweep)) | ((with_reducible show wpAny _ _ (call (Value.ref 112) _) _ _ _); k_here; k_dflt (refine draw_at (by k_asm) (by k_asm) (by k_asm) (by k_asm) (by rfl) (by (first | decide | ((try dsimp only [ktrTop, Around.deeper, Around.in1]); omega) | fail)) (by (first | decide | ((try dsimp only [ktrTop, Around.deeper, Around.in1]); omega) | fail)) (by k_asm) (by k_updF) (by with_reducible assumption) (by with_reducible assumption) (by omega) (by omega) ?_; k_whole); intro h' tk' vs' n' ns' x' t' F' N' hi' hl' x1'; (try k_sweep)) | ((with_reducible show wpAny _ _ (subscriptTail _ _ (Value.ref _) (Value.str _ _)) _ _ _); k_here; k_dflt (refine bd_item (knd := PySem.strKind _ _) (by k_asm) (by with_reducible assumption) (strKind_is _ _ _ _) (by with_reducible assumption) ?_ (by with_unfolding_all rfl); k_whole)) | ((with_reducible show wpAny _ _ (subscriptTail _ _ (Value.ref _) (Value.int _ _)) _ _ _); k_here; k_dflt (refine bd_item (knd := PySem.intKind _ _) (by k_asm) (by with_reducible assumption) (intKind_is _ _ _ _) (by with_reducible assumption) ?_ (by with_unfolding_all rfl); k_whole)) | fail) | ((first | (fail_if_success (with_reducible first | show wpAny _ _ (call (Value.ref _) _) _ _ _ | show wpAny _ _ (exec (Stmt.While _ _ _ _) _) _ _ _ | show wpAny _ _ (exec (Stmt.For _ _ _ _ _) _) _ _ _ | show wpAny _ _ (pyIter _) _ _ _ | show wpAny _ _ (setItem _ _ _) _ _ _ | show wpAny _ _ (eval (Expr.ListComp _ _ _ _) _) _ _ _ | show wpAny _ _ (exec (Stmt.Assign _ (Expr.ListComp _ _ _ _) _) _) _ _ _ | show InvPostG _ _ _ _ _ _ _ _ | show InvEndG _ _ _ _ _ _ | show OnG _ _ _ _ _ _ _ | show Fin _ _ _ _ _ _ | show KswEnd _ _ _ _ _ _ _ _ _ _ _ _ | show wpAny _ _ (call (Value.builtin "sorted") _) _ _ _ | show LCg.CompEnd _ _ _ _ _ _ _ _ _ _ _ _ _ _ | show LCg.CompSrc _ _ _ _ _ _ _ _ _ _ _ _ _ _ | show LCt.CompSrcT _ _ _ _ _ _ _ _ _ _ _ _ _ _ _)) | fail); (fail_if_success (with_reducible show wpAny _ _ (subscriptTail _ (PySem.Expr.Slice _ _ none _) _ _) _ _ _)); (fail_if_success (with_reducible show wpAny _ _ (binaryOp Operator.Add (Value.ref _) (Value.ref _)) _ _ _)); (fail_if_success (with_reducible show wpAny _ _ (compareOp .NotEq (Value.ref _) (Value.ref _)) _ _ _)); (fail_if_success (with_reducible show wpAny _ _ (compareOp .Eq (Value.ref _) (Value.ref _)) _ _ _)); first | walk1 | (dsimp only; (try k_fold); (first | (fail_if_success (with_reducible first | show wpAny _ _ (call (Value.ref _) _) _ _ _ | show wpAny _ _ (exec (Stmt.While _ _ _ _) _) _ _ _ | show wpAny _ _ (exec (Stmt.For _ _ _ _ _) _) _ _ _ | show wpAny _ _ (pyIter _) _ _ _ | show wpAny _ _ (setItem _ _ _) _ _ _ | show wpAny _ _ (eval (Expr.ListComp _ _ _ _) _) _ _ _ | show wpAny _ _ (exec (Stmt.Assign _ (Expr.ListComp _ _ _ _) _) _) _ _ _ | show InvPostG _ _ _ _ _ _ _ _ | show InvEndG _ _ _ _ _ _ | show OnG _ _ _ _ _ _ _ | show Fin _ _ _ _ _ _ | show KswEnd _ _ _ _ _ _ _ _ _ _ _ _ | show wpAny _ _ (call (Value.builtin "sorted") _) _ _ _ | show LCg.CompEnd _ _ _ _ _ _ _ _ _ _ _ _ _ _ | show LCg.CompSrc _ _ _ _ _ _ _ _ _ _ _ _ _ _ | show LCt.CompSrcT _ _ _ _ _ _ _ _ _ _ _ _ _ _ _)) | fail); walk1)) | (leave1; walk_say "STEP leave1"; try dsimp only) | fail "no step")) | fail)
                rename Fr _ _ _ _ => F7; rename News _ _ _ _ => N7
                (try dsimp only)
                k_dflt (refine' kde_addT ?zF ?zN ?zt ?zb ?zv ?zw ?zz ?ze ?_)
                case zF => exact F7
                case zN => exact N7
                case zt => exact News.isTup N7 (by k_mem)
                case zb => exact News.isTup N7 (by k_mem)
                case zv => exact List.cons_ne_nil _ _
                case zw => exact List.cons_ne_nil _ _
                case ze => rfl
                case zz => exact Nat.le_of_ble_eq_true rfl
                intro D9 h9 F9 N9 l9
                k_lt l9
                (try k_unfold)
                rename b = true => hb9
                exact cend [_, _, _, _] tl4 c [_, _, _] F9 N9 (by lcg_off) off (hS _ fun p hp => List.mem_append.mpr (.inr (List.mem_append.mpr (.inl hp)))) ⟨_, rfl, by
                  rw [hsn, hb9]
                  exact (hJ.mono (Kn.sub fun q hq => .tail _ (.tail _ (.tail _ hq)))).snoc (.tuple (.inr (.head _)) rfl rfl (.cons (.int' (by rw [Int.toNat_natCast])) (.cons (.str _ _) (.cons (.int _ _) (.cons (.int _ _) .nil)))))⟩
              · rename b = false => hb9
                refine LCg.CompEnd.intro F6 N6 _ (fun p hp => hp) off ?_ ⟨c, rfl, ?_⟩
                · exact hS _ fun p hp => by repeat' (first | exact hp | exact List.mem_append.mpr (.inl hp) | refine List.Mem.tail _ ?_)
                · rw [hsn, hb9]
                  simpa using hJ
            · intro zs c hJ
              unfold LCg.FinE
              intro D9 h9 tk9 F8 N8 off8
              rw [List.take_of_length_le (by omega)] at hJ
              clear F7 N7 hS
              (try dsimp only)
              have hKd := kdMark
              (first | ((try k_unmd); (try k_fold); repeat' (first | (k_unfold; (try dsimp only)) | (first | ((with_reducible show wpAny _ _ (call (Value.ref 131) _) _ _ _); k_here; k_dflt (refine goal_law (by k_asm) (by k_asm) (by k_asm) (by k_asm) (by rfl) (by (first | decide | ((try dsimp only [ktrTop, Around.deeper, Around.in1]); omega) | fail)) (by (first | decide | ((try dsimp only [ktrTop, Around.deeper, Around.in1]); omega) | fail)) (by k_asm) (by with_reducible assumption) (by (first | (intro p hp; first | (with_reducible (repeat' (first | exact hp | exact List.mem_append_left _ hp | exact List.mem_append_right _ hp | refine List.mem_cons_of_mem _ ?_)); done) | ((simp only [List.nil_append, List.cons_append, List.append_nil, List.append_assoc, List.mem_cons, List.mem_append, List.not_mem_nil, or_false, false_or] at hp ⊢); first | done | grind)) | fail)) (by with_reducible assumption) (by with_reducible assumption) (by omega) (by first | (with_reducible assumption) | rfl | fail) (by first | (with_reducible assumption) | omega | fail) ?_; k_whole); intro h' tk' t' F' N'; (try k_sweep)) | ((with_reducible show wpAny _ _ (call (Value.ref 112) _) _ _ _); k_here; k_dflt (refine draw_at (by k_asm) (by k_asm) (by k_asm) (by k_asm) (by rfl) (by (first | decide | ((try dsimp only [ktrTop, Around.deeper, Around.in1]); omega) | fail)) (by (first | decide | ((try dsimp only [ktrTop, Around.deeper, Around.in1]); omega) | fail)) (by k_asm) (by k_updF) (by with_reducible assumption) (by with_reducible assumption) (by omega) (by omega) ?_; k_whole); intro h' tk' vs' n' ns' x' t' F' N' hi' hl' x1'; (try k_sweep)) | ((with_reducible show wpAny _ _ (subscriptTail _ _ (Value.ref _) (Value.str _ _)) _ _ _); k_here; k_dflt (refine bd_item (knd := PySem.strKind _ _) (by k_asm) (by with_reducible assumption) (strKind_is _ _ _ _) (by with_reducible assumption) ?_ (by with_unfolding_all rfl); k_whole)) | ((with_reducible show wpAny _ _ (subscriptTail _ _ (Value.ref _) (Value.int _ _)) _ _ _); k_here; k_dflt (refine bd_item (knd := PySem.intKind _ _) (by k_asm) (by with_reducible assumption) (intKind_is _ _ _ _) (by with_reducible assumption) ?_ (by with_unfolding_all rfl); k_whole)) | fail) | ((first | (fail_if_success (with_reducible first | show wpAny _ _ (call (Value.ref _) _) _ _ _ | show wpAny _ _ (exec (Stmt.While _ _ _ _) _) _ _ _ | show wpAny _ _ (exec (Stmt.For _ _ _ _ _) _) _ _ _ | show wpAny _ _ (pyIter _) _ _ _ | show wpAny _ _ (setItem _ _ _) _ _ _ | show wpAny _ _ (eval (Expr.ListComp _ _ _ _) _) _ _ _ | show wpAny _ _ (exec (Stmt.Assign _ (Expr.ListComp _ _ _ _) _) _) _ _ _ | show InvPostG _ _ _ _ _ _ _ _ | show InvEndG _ _ _ _ _ _ | show OnG _ _ _ _ _ _ _ | show Fin _ _ _ _ _ _ | show KswEnd _ _ _ _ _ _ _ _ _ _ _ _ | show wpAny _ _ (call (Value.builtin "sorted") _) _ _ _ | show LCg.CompEnd _ _ _ _ _ _ _ _ _ _ _ _ _ _ | show LCg.CompSrc _ _ _ _ _ _ _ _ _ _ _ _ _ _ | show LCt.CompSrcT _ _ _ _ _ _ _ _ _ _ _ _ _ _ _)) | fail); first | walk1 | (dsimp only; (try k_fold); (first | (fail_if_success (with_reducible first | show wpAny _ _ (call (Value.ref _) _) _ _ _ | show wpAny _ _ (exec (Stmt.While _ _ _ _) _) _ _ _ | show wpAny _ _ (exec (Stmt.For _ _ _ _ _) _) _ _ _ | show wpAny _ _ (pyIter _) _ _ _ | show wpAny _ _ (setItem _ _ _) _ _ _ | show wpAny _ _ (eval (Expr.ListComp _ _ _ _) _) _ _ _ | show wpAny _ _ (exec (Stmt.Assign _ (Expr.ListComp _ _ _ _) _) _) _ _ _ | show InvPostG _ _ _ _ _ _ _ _ | show InvEndG _ _ _ _ _ _ | show OnG _ _ _ _ _ _ _ | show Fin _ _ _ _ _ _ | show KswEnd _ _ _ _ _ _ _ _ _ _ _ _ | show wpAny _ _ (call (Value.builtin "sorted") _) _ _ _ | show LCg.CompEnd _ _ _ _ _ _ _ _ _ _ _ _ _ _ | show LCg.CompSrc _ _ _ _ _ _ _ _ _ _ _ _ _ _ | show LCt.CompSrcT _ _ _ _ _ _ _ _ _ _ _ _ _ _ _)) | fail); walk1)) | (leave1; walk_say "STEP leave1"; try dsimp only) | fail "no step")) | fail)
              rename Fr _ _ _ _ => F8; rename News _ _ _ _ => N8
              refine ne_di (da := .list (newFixes ks (fixes rows))) (db := .list (newFixes ks (fixes rows))) ?_ ?_ (newFixes_ok 7 ks rows) (newFixes_ok 7 ks rows) ?_ rfl ?_
              · exact (di_list hf5 hf6).mono (hKI4.le F8 N8 (by (first | (intro p hp; first | (with_reducible (repeat' (first | exact hp | exact List.mem_append_left _ hp | exact List.mem_append_right _ hp | refine List.mem_cons_of_mem _ ?_)); done) | ((simp only [List.nil_append, List.cons_append, List.append_nil, List.append_assoc, List.mem_cons, List.mem_append, List.not_mem_nil, or_false, false_or] at hp ⊢); first | done | grind)) | fail)))
              · exact .list (N8 _ (.head _)).1 rfl rfl (hJ.mono (knk hKI4 F8 N8 (by (first | (intro p hp; first | (with_reducible (repeat' (first | exact hp | exact List.mem_append_left _ hp | exact List.mem_append_right _ hp | refine List.mem_cons_of_mem _ ?_)); done) | ((simp only [List.nil_append, List.cons_append, List.append_nil, List.append_assoc, List.mem_cons, List.mem_append, List.not_mem_nil, or_false, false_or] at hp ⊢); first | done | grind)) | fail)) (by (first | (intro p hp; first | (with_reducible (repeat' (first | exact hp | exact List.mem_append_left _ hp | exact List.mem_append_right _ hp | refine List.mem_cons_of_mem _ ?_)); done) | ((simp only [List.nil_append, List.cons_append, List.append_nil, List.append_assoc, List.mem_cons, List.mem_append, List.not_mem_nil, or_false, false_or] at hp ⊢); first | done | grind)) | fail))))
              · show callerA.units + 3 + 64 < cLine
                decide
              obtain ⟨le, ve, he1, he2, he3⟩ := O.entries.list
              obtain ⟨le2, ve2, he4, he5, he6⟩ := O2.entries.list
              obtain ⟨tb, hby⟩ := O.body.int
              obtain ⟨tb2, hby2⟩ := O2.body.int
              replace he3 : DIs (Hp K4) ve [.tuple [.str (Str.ofString "data"), .int 8], .tuple [.str (Str.ofString "code"), .int c₀]] := he3
              replace he6 : DIs (Hp K4) ve2 [.tuple [.str (Str.ofString "data"), .int 8], .tuple [.str (Str.ofString "code"), .int (cnt ks c₀)]] := he6
              obtain ⟨v2, hxe0, hde⟩ := he3.get (k := 1) rfl
              refine di_pair hde ?_
              intro a2 ta tc ev ht
              clear hde he3
              subst ev
              have hxe : ve[(1 : Int).toNat]? = some (Value.ref a2) := hxe0
              have hcb : ((cnt ks b₀ : Nat) : Int) = ((cnt ks b₀ : Nat) : Int) := rfl
              have hq0 : c₀ ≤ ks.length := by omega
              have hqb : b₀ ≤ ks.length := by omega
              clear hf1 hf2 hf3 hf4 hf5 hf6 hfl
              (first | ((try k_unmd); (try k_fold); repeat' (first | (k_unfold; (try dsimp only)) | (first | ((with_reducible show wpAny _ _ (call (Value.ref 131) _) _ _ _); k_here; k_dflt (refine goal_law (by k_asm) (by k_asm) (by k_asm) (by k_asm) (by rfl) (by (first | decide | ((try dsimp only [ktrTop, Around.deeper, Around.in1]); omega) | fail)) (by (first | decide | ((try dsimp only [ktrTop, Around.deeper, Around.in1]); omega) | fail)) (by k_asm) (by with_reducible assumption) (by (first | (intro p hp; first | (with_reducible (repeat' (first | exact hp | exact List.mem_append_left _ hp | exact List.mem_append_right _ hp | refine List.mem_cons_of_mem _ ?_)); done) | ((simp only [List.nil_append, List.cons_append, List.append_nil, List.append_assoc, List.mem_cons, List.mem_append, List.not_mem_nil, or_false, false_or] at hp ⊢); first | done | grind)) | fail)) (by with_reducible assumption) (by with_reducible assumption) (by omega) (by first | (with_reducible assumption) | rfl | fail) (by first | (with_reducible assumption) | omega | fail) ?_; k_whole); intro h' tk' t' F' N'; (try k_sweep)) | ((with_reducible show wpAny _ _ (call (Value.ref 112) _) _ _ _); k_here; k_dflt (refine draw_at (by k_asm) (by k_asm) (by k_asm) (by k_asm) (by rfl) (by (first | decide | ((try dsimp only [ktrTop, Around.deeper, Around.in1]); omega) | fail)) (by (first | decide | ((try dsimp only [ktrTop, Around.deeper, Around.in1]); omega) | fail)) (by k_asm) (by k_updF) (by with_reducible assumption) (by with_reducible assumption) (by omega) (by omega) ?_; k_whole); intro h' tk' vs' n' ns' x' t' F' N' hi' hl' x1'; (try k_sweep)) | ((with_reducible show wpAny _ _ (subscriptTail _ _ (Value.ref _) (Value.str _ _)) _ _ _); k_here; k_dflt (refine bd_item (knd := PySem.strKind _ _) (by k_asm) (by with_reducible assumption) (strKind_is _ _ _ _) (by with_reducible assumption) ?_ (by with_unfolding_all rfl); k_whole)) | ((with_reducible show wpAny _ _ (subscriptTail _ _ (Value.ref _) (Value.int _ _)) _ _ _); k_here; k_dflt (refine bd_item (knd := PySem.intKind _ _) (by k_asm) (by with_reducible assumption) (intKind_is _ _ _ _) (by with_reducible assumption) ?_ (by with_unfolding_all rfl); k_whole)) | fail) | ((first | (fail_if_success (with_reducible first | show wpAny _ _ (call (Value.ref _) _) _ _ _ | show wpAny _ _ (exec (Stmt.While _ _ _ _) _) _ _ _ | show wpAny _ _ (exec (Stmt.For _ _ _ _ _) _) _ _ _ | show wpAny _ _ (pyIter _) _ _ _ | show wpAny _ _ (setItem _ _ _) _ _ _ | show wpAny _ _ (eval (Expr.ListComp _ _ _ _) _) _ _ _ | show wpAny _ _ (exec (Stmt.Assign _ (Expr.ListComp _ _ _ _) _) _) _ _ _ | show InvPostG _ _ _ _ _ _ _ _ | show InvEndG _ _ _ _ _ _ | show OnG _ _ _ _ _ _ _ | show Fin _ _ _ _ _ _ | show KswEnd _ _ _ _ _ _ _ _ _ _ _ _ | show wpAny _ _ (call (Value.builtin "sorted") _) _ _ _ | show LCg.CompEnd _ _ _ _ _ _ _ _ _ _ _ _ _ _ | show LCg.CompSrc _ _ _ _ _ _ _ _ _ _ _ _ _ _ | show LCt.CompSrcT _ _ _ _ _ _ _ _ _ _ _ _ _ _ _)) | fail); (fail_if_success (with_reducible show wpAny _ _ (subscriptTail _ (PySem.Expr.Slice _ _ none _) _ _) _ _ _)); (fail_if_success (with_reducible show wpAny _ _ (binaryOp Operator.Add (Value.ref _) (Value.ref _)) _ _ _)); (fail_if_success (with_reducible show wpAny _ _ (compareOp .NotEq (Value.ref _) (Value.ref _)) _ _ _)); (fail_if_success (with_reducible show wpAny _ _ (compareOp .Eq (Value.ref _) (Value.ref _)) _ _ _)); first | walk1 | (dsimp only; (try k_fold); (first | (fail_if_success (with_reducible first | show wpAny _ _ (call (Value.ref _) _) _ _ _ | show wpAny _ _ (exec (Stmt.While _ _ _ _) _) _ _ _ | show wpAny _ _ (exec (Stmt.For _ _ _ _ _) _) _ _ _ | show wpAny _ _ (pyIter _) _ _ _ | show wpAny _ _ (setItem _ _ _) _ _ _ | show wpAny _ _ (eval (Expr.ListComp _ _ _ _) _) _ _ _ | show wpAny _ _ (exec (Stmt.Assign _ (Expr.ListComp _ _ _ _) _) _) _ _ _ | show InvPostG _ _ _ _ _ _ _ _ | show InvEndG _ _ _ _ _ _ | show OnG _ _ _ _ _ _ _ | show Fin _ _ _ _ _ _ | show KswEnd _ _ _ _ _ _ _ _ _ _ _ _ | show wpAny _ _ (call (Value.builtin "sorted") _) _ _ _ | show LCg.CompEnd _ _ _ _ _ _ _ _ _ _ _ _ _ _ | show LCg.CompSrc _ _ _ _ _ _ _ _ _ _ _ _ _ _ | show LCt.CompSrcT _ _ _ _ _ _ _ _ _ _ _ _ _ _ _)) | fail); walk1)) | (leave1; walk_say "STEP leave1"; try dsimp only) | fail "no step")) | fail)
              rename Fr _ _ _ _ => F8; rename News _ _ _ _ => N8
              refine ne_di (da := .list [.tuple [.str (Str.ofString "data"), .int 8], .tuple [.str (Str.ofString "code"), .int (cnt ks c₀)]]) (db := .list [.tuple [.str (Str.ofString "data"), .int 8], .tuple [.str (Str.ofString "code"), .int (cnt ks c₀)]]) ?_ ?_ (ent_ok _) (ent_ok _) ?_ rfl ?_
              · exact (di_list he5 he6).mono (hKI4.le F8 N8 (by (first | (intro p hp; first | (with_reducible (repeat' (first | exact hp | exact List.mem_append_left _ hp | exact List.mem_append_right _ hp | refine List.mem_cons_of_mem _ ?_)); done) | ((simp only [List.nil_append, List.cons_append, List.append_nil, List.append_assoc, List.mem_cons, List.mem_append, List.not_mem_nil, or_false, false_or] at hp ⊢); first | done | grind)) | fail)))
              · exact .list (N8 _ (.head _)).1 rfl rfl (.cons (.tuple (N8 _ (.tail _ (.tail _ (.head _)))).1 rfl rfl (.cons (.str _ _) (.cons (.int _ _) .nil))) (.cons (.tuple (N8 _ (.tail _ (.head _))).1 rfl rfl (.cons (.str _ _) (.cons (.int _ _) .nil))) .nil))
              · show callerA.units + 3 + 64 < cLine
                decide
              (first | ((try k_unmd); (try k_fold); repeat' (first | (k_unfold; (try dsimp only)) | (first | ((with_reducible show wpAny _ _ (call (Value.ref 131) _) _ _ _); k_here; k_dflt (refine goal_law (by k_asm) (by k_asm) (by k_asm) (by k_asm) (by rfl) (by (first | decide | ((try dsimp only [ktrTop, Around.deeper, Around.in1]); omega) | fail)) (by (first | decide | ((try dsimp only [ktrTop, Around.deeper, Around.in1]); omega) | fail)) (by k_asm) (by with_reducible assumption) (by (first | (intro p hp; first | (with_reducible (repeat' (first | exact hp | exact List.mem_append_left _ hp | exact List.mem_append_right _ hp | refine List.mem_cons_of_mem _ ?_)); done) | ((simp only [List.nil_append, List.cons_append, List.append_nil, List.append_assoc, List.mem_cons, List.mem_append, List.not_mem_nil, or_false, false_or] at hp ⊢); first | done | grind)) | fail)) (by with_reducible assumption) (by with_reducible assumption) (by omega) (by first | (with_reducible assumption) | rfl | fail) (by first | (with_reducible assumption) | omega | fail) ?_; k_whole); intro h' tk' t' F' N'; (try k_sweep)) | ((with_reducible show wpAny _ _ (call (Value.ref 112) _) _ _ _); k_here; k_dflt (refine draw_at (by k_asm) (by k_asm) (by k_asm) (by k_asm) (by rfl) (by (first | decide | ((try dsimp only [ktrTop, Around.deeper, Around.in1]); omega) | fail)) (by (first | decide | ((try dsimp only [ktrTop, Around.deeper, Around.in1]); omega) | fail)) (by k_asm) (by k_updF) (by with_reducible assumption) (by with_reducible assumption) (by omega) (by omega) ?_; k_whole); intro h' tk' vs' n' ns' x' t' F' N' hi' hl' x1'; (try k_sweep)) | ((with_reducible show wpAny _ _ (subscriptTail _ _ (Value.ref _) (Value.str _ _)) _ _ _); k_here; k_dflt (refine bd_item (knd := PySem.strKind _ _) (by k_asm) (by with_reducible assumption) (strKind_is _ _ _ _) (by with_reducible assumption) ?_ (by with_unfolding_all rfl); k_whole)) | ((with_reducible show wpAny _ _ (subscriptTail _ _ (Value.ref _) (Value.int _ _)) _ _ _); k_here; k_dflt (refine bd_item (knd := PySem.intKind _ _) (by k_asm) (by with_reducible assumption) (intKind_is _ _ _ _) (by with_reducible assumption) ?_ (by with_unfolding_all rfl); k_whole)) | fail) | ((first | (fail_if_success (with_reducible first | show wpAny _ _ (call (Value.ref _) _) _ _ _ | show wpAny _ _ (exec (Stmt.While _ _ _ _) _) _ _ _ | show wpAny _ _ (exec (Stmt.For _ _ _ _ _) _) _ _ _ | show wpAny _ _ (pyIter _) _ _ _ | show wpAny _ _ (setItem _ _ _) _ _ _ | show wpAny _ _ (eval (Expr.ListComp _ _ _ _) _) _ _ _ | show wpAny _ _ (exec (Stmt.Assign _ (Expr.ListComp _ _ _ _) _) _) _ _ _ | show InvPostG _ _ _ _ _ _ _ _ | show InvEndG _ _ _ _ _ _ | show OnG _ _ _ _ _ _ _ | show Fin _ _ _ _ _ _ | show KswEnd _ _ _ _ _ _ _ _ _ _ _ _ | show wpAny _ _ (call (Value.builtin "sorted") _) _ _ _ | show LCg.CompEnd _ _ _ _ _ _ _ _ _ _ _ _ _ _ | show LCg.CompSrc _ _ _ _ _ _ _ _ _ _ _ _ _ _ | show LCt.CompSrcT _ _ _ _ _ _ _ _ _ _ _ _ _ _ _)) | fail); (fail_if_success (with_reducible show wpAny _ _ (subscriptTail _ (PySem.Expr.Slice _ _ none _) _ _) _ _ _)); (fail_if_success (with_reducible show wpAny _ _ (binaryOp Operator.Add (Value.ref _) (Value.ref _)) _ _ _)); (fail_if_success (with_reducible show wpAny _ _ (compareOp .NotEq (Value.ref _) (Value.ref _)) _ _ _)); (fail_if_success (with_reducible show wpAny _ _ (compareOp .Eq (Value.ref _) (Value.ref _)) _ _ _)); first | walk1 | (dsimp only; (try k_fold); (first | (fail_if_success (with_reducible first | show wpAny _ _ (call (Value.ref _) _) _ _ _ | show wpAny _ _ (exec (Stmt.While _ _ _ _) _) _ _ _ | show wpAny _ _ (exec (Stmt.For _ _ _ _ _) _) _ _ _ | show wpAny _ _ (pyIter _) _ _ _ | show wpAny _ _ (setItem _ _ _) _ _ _ | show wpAny _ _ (eval (Expr.ListComp _ _ _ _) _) _ _ _ | show wpAny _ _ (exec (Stmt.Assign _ (Expr.ListComp _ _ _ _) _) _) _ _ _ | show InvPostG _ _ _ _ _ _ _ _ | show InvEndG _ _ _ _ _ _ | show OnG _ _ _ _ _ _ _ | show Fin _ _ _ _ _ _ | show KswEnd _ _ _ _ _ _ _ _ _ _ _ _ | show wpAny _ _ (call (Value.builtin "sorted") _) _ _ _ | show LCg.CompEnd _ _ _ _ _ _ _ _ _ _ _ _ _ _ | show LCg.CompSrc _ _ _ _ _ _ _ _ _ _ _ _ _ _ | show LCt.CompSrcT _ _ _ _ _ _ _ _ _ _ _ _ _ _ _)) | fail); walk1)) | (leave1; walk_say "STEP leave1"; try dsimp only) | fail "no step")) | fail)
              rename Fr _ _ _ _ => F8
              obtain ⟨dc, tg1, tr1, hco1, hco2⟩ := AttK.two O.cmds
              obtain ⟨dc2, tg2, tr2, hcm1, hcm2⟩ := AttK.two O2.cmds
              have va1 := two_go gg rr tg1 tr1
              have va2 := two_run gg rr tg1 tr1
              have va3 := two_go (cnt ks gg) (cnt ks rr) tg2 tr2
              have va4 := two_run (cnt ks gg) (cnt ks rr) tg2 tr2
              have hqg : gg ≤ ks.length := by omega
              have hqr : rr ≤ ks.length := by omega
              have hcg : ((cnt ks gg : Nat) : Int) = ((cnt ks gg : Nat) : Int) := rfl
              have hcr : ((cnt ks rr : Nat) : Int) = ((cnt ks rr : Nat) : Int) := rfl
              refine For_invVF F8 (by rfl) (by rfl) ?_ (by intro _; with_unfolding_all rfl)
              (first | ((try k_unmd); (try k_fold); repeat' (first | (k_unfold; (try dsimp only)) | (first | ((with_reducible show wpAny _ _ (call (Value.ref 131) _) _ _ _); k_here; k_dflt (refine goal_law (by k_asm) (by k_asm) (by k_asm) (by k_asm) (by rfl) (by (first | decide | ((try dsimp only [ktrTop, Around.deeper, Around.in1]); omega) | fail)) (by (first | decide | ((try dsimp only [ktrTop, Around.deeper, Around.in1]); omega) | fail)) (by k_asm) (by with_reducible assumption) (by (first | (intro p hp; first | (with_reducible (repeat' (first | exact hp | exact List.mem_append_left _ hp | exact List.mem_append_right _ hp | refine List.mem_cons_of_mem _ ?_)); done) | ((simp only [List.nil_append, List.cons_append, List.append_nil, List.append_assoc, List.mem_cons, List.mem_append, List.not_mem_nil, or_false, false_or] at hp ⊢); first | done | grind)) | fail)) (by with_reducible assumption) (by with_reducible assumption) (by omega) (by first | (with_reducible assumption) | rfl | fail) (by first | (with_reducible assumption) | omega | fail) ?_; k_whole); intro h' tk' t' F' N'; (try k_sweep)) | ((with_reducible show wpAny _ _ (call (Value.ref 112) _) _ _ _); k_here; k_dflt (refine draw_at (by k_asm) (by k_asm) (by k_asm) (by k_asm) (by rfl) (by (first | decide | ((try dsimp only [ktrTop, Around.deeper, Around.in1]); omega) | fail)) (by (first | decide | ((try dsimp only [ktrTop, Around.deeper, Around.in1]); omega) | fail)) (by k_asm) (by k_updF) (by with_reducible assumption) (by with_reducible assumption) (by omega) (by omega) ?_; k_whole); intro h' tk' vs' n' ns' x' t' F' N' hi' hl' x1'; (try k_sweep)) | ((with_reducible show wpAny _ _ (subscriptTail _ _ (Value.ref _) (Value.str _ _)) _ _ _); k_here; k_dflt (refine bd_item (knd := PySem.strKind _ _) (by k_asm) (by with_reducible assumption) (strKind_is _ _ _ _) (by with_reducible assumption) ?_ (by with_unfolding_all rfl); k_whole)) | ((with_reducible show wpAny _ _ (subscriptTail _ _ (Value.ref _) (Value.int _ _)) _ _ _); k_here; k_dflt (refine bd_item (knd := PySem.intKind _ _) (by k_asm) (by with_reducible assumption) (intKind_is _ _ _ _) (by with_reducible assumption) ?_ (by with_unfolding_all rfl); k_whole)) | fail) | ((first | (fail_if_success (with_reducible first | show wpAny _ _ (call (Value.ref _) _) _ _ _ | show wpAny _ _ (exec (Stmt.While _ _ _ _) _) _ _ _ | show wpAny _ _ (exec (Stmt.For _ _ _ _ _) _) _ _ _ | show wpAny _ _ (pyIter _) _ _ _ | show wpAny _ _ (setItem _ _ _) _ _ _ | show wpAny _ _ (eval (Expr.ListComp _ _ _ _) _) _ _ _ | show wpAny _ _ (exec (Stmt.Assign _ (Expr.ListComp _ _ _ _) _) _) _ _ _ | show InvPostG _ _ _ _ _ _ _ _ | show InvEndG _ _ _ _ _ _ | show OnG _ _ _ _ _ _ _ | show Fin _ _ _ _ _ _ | show KswEnd _ _ _ _ _ _ _ _ _ _ _ _ | show wpAny _ _ (call (Value.builtin "sorted") _) _ _ _ | show LCg.CompEnd _ _ _ _ _ _ _ _ _ _ _ _ _ _ | show LCg.CompSrc _ _ _ _ _ _ _ _ _ _ _ _ _ _ | show LCt.CompSrcT _ _ _ _ _ _ _ _ _ _ _ _ _ _ _)) | fail); (fail_if_success (with_reducible show wpAny _ _ (subscriptTail _ (PySem.Expr.Slice _ _ none _) _ _) _ _ _)); (fail_if_success (with_reducible show wpAny _ _ (binaryOp Operator.Add (Value.ref _) (Value.ref _)) _ _ _)); (fail_if_success (with_reducible show wpAny _ _ (compareOp .NotEq (Value.ref _) (Value.ref _)) _ _ _)); (fail_if_success (with_reducible show wpAny _ _ (compareOp .Eq (Value.ref _) (Value.ref _)) _ _ _)); first | walk1 | (dsimp only; (try k_fold); (first | (fail_if_success (with_reducible first | show wpAny _ _ (call (Value.ref _) _) _ _ _ | show wpAny _ _ (exec (Stmt.While _ _ _ _) _) _ _ _ | show wpAny _ _ (exec (Stmt.For _ _ _ _ _) _) _ _ _ | show wpAny _ _ (pyIter _) _ _ _ | show wpAny _ _ (setItem _ _ _) _ _ _ | show wpAny _ _ (eval (Expr.ListComp _ _ _ _) _) _ _ _ | show wpAny _ _ (exec (Stmt.Assign _ (Expr.ListComp _ _ _ _) _) _) _ _ _ | show InvPostG _ _ _ _ _ _ _ _ | show InvEndG _ _ _ _ _ _ | show OnG _ _ _ _ _ _ _ | show Fin _ _ _ _ _ _ | show KswEnd _ _ _ _ _ _ _ _ _ _ _ _ | show wpAny _ _ (call (Value.builtin "sorted") _) _ _ _ | show LCg.CompEnd _ _ _ _ _ _ _ _ _ _ _ _ _ _ | show LCg.CompSrc _ _ _ _ _ _ _ _ _ _ _ _ _ _ | show LCt.CompSrcT _ _ _ _ _ _ _ _ _ _ _ _ _ _ _)) | fail); walk1)) | (leave1; walk_say "STEP leave1"; try dsimp only) | fail "no step")) | fail)
              rename Fr _ _ _ _ => F8; rename News _ _ _ _ => N8
              refine loopLN (vs := [Value.str (Str.ofString "Go") _, Value.str (Str.ofString "Run") _]) [] (by rfl) (.head _) F8 N8 ?_ ?_
              · intro tl i v u h tk own hv sep off F6 N6
                have hil := (List.getElem?_eq_some_iff.mp hv).1
                have hi2 : i = 0 ∨ i = 1 := by simp only [List.length_cons, List.length_nil] at hil; omega
                simp only [List.cons_append, List.nil_append] at N6
                clear F8 N8
                rcases hi2 with rfl | rfl
                · have hv2 := Option.some.inj hv
                  subst hv2
                  clear hv
                  (first | ((try k_unmd); (try k_fold); repeat' (first | (k_unfold; (try dsimp only)) | (first | ((with_reducible show wpAny _ _ (call (Value.ref 131) _) _ _ _); k_here; k_dflt (refine goal_law (by k_asm) (by k_asm) (by k_asm) (by k_asm) (by rfl) (by (first | decide | ((try dsimp only [ktrTop, Around.deeper, Around.in1]); omega) | fail)) (by (first | decide | ((try dsimp only [ktrTop, Around.deeper, Around.in1]); omega) | fail)) (by k_asm) (by with_reducible assumption) (by (first | (intro p hp; first | (with_reducible (repeat' (first | exact hp | exact List.mem_append_left _ hp | exact List.mem_append_right _ hp | refine List.mem_cons_of_mem _ ?_)); done) | ((simp only [List.nil_append, List.cons_append, List.append_nil, List.append_assoc, List.mem_cons, List.mem_append, List.not_mem_nil, or_false, false_or] at hp ⊢); first | done | grind)) | fail)) (by with_reducible assumption) (by with_reducible assumption) (by omega) (by first | (with_reducible assumption) | rfl | fail) (by first | (with_reducible assumption) | omega | fail) ?_; k_whole); intro h' tk' t' F' N'; (try k_sweep)) | ((with_reducible show wpAny _ _ (call (Value.ref 112) _) _ _ _); k_here; k_dflt (refine draw_at (by k_asm) (by k_asm) (by k_asm) (by k_asm) (by rfl) (by (first | decide | ((try dsimp only [ktrTop, Around.deeper, Around.in1]); omega) | fail)) (by (first | decide | ((try dsimp only [ktrTop, Around.deeper, Around.in1]); omega) | fail)) (by k_asm) (by k_updF) (by with_reducible assumption) (by with_reducible assumption) (by omega) (by omega) ?_; k_whole); intro h' tk' vs' n' ns' x' t' F' N' hi' hl' x1'; (try k_sweep)) | ((with_reducible show wpAny _ _ (subscriptTail _ _ (Value.ref _) (Value.str _ _)) _ _ _); k_here; k_dflt (refine bd_item (knd := PySem.strKind _ _) (by k_asm) (by with_reducible assumption) (strKind_is _ _ _ _) (by with_reducible assumption) ?_ (by with_unfolding_all rfl); k_whole)) | ((with_reducible show wpAny _ _ (subscriptTail _ _ (Value.ref _) (Value.int _ _)) _ _ _); k_here; k_dflt (refine bd_item (knd := PySem.intKind _ _) (by k_asm) (by with_reducible assumption) (intKind_is _ _ _ _) (by with_reducible assumption) ?_ (by with_unfolding_all rfl); k_whole)) | fail) | ((first | (fail_if_success (with_reducible first | show wpAny _ _ (call (Value.ref _) _) _ _ _ | show wpAny _ _ (exec (Stmt.While _ _ _ _) _) _ _ _ | show wpAny _ _ (exec (Stmt.For _ _ _ _ _) _) _ _ _ | show wpAny _ _ (pyIter _) _ _ _ | show wpAny _ _ (setItem _ _ _) _ _ _ | show wpAny _ _ (eval (Expr.ListComp _ _ _ _) _) _ _ _ | show wpAny _ _ (exec (Stmt.Assign _ (Expr.ListComp _ _ _ _) _) _) _ _ _ | show InvPostG _ _ _ _ _ _ _ _ | show InvEndG _ _ _ _ _ _ | show OnG _ _ _ _ _ _ _ | show Fin _ _ _ _ _ _ | show KswEnd _ _ _ _ _ _ _ _ _ _ _ _ | show wpAny _ _ (call (Value.builtin "sorted") _) _ _ _ | show LCg.CompEnd _ _ _ _ _ _ _ _ _ _ _ _ _ _ | show LCg.CompSrc _ _ _ _ _ _ _ _ _ _ _ _ _ _ | show LCt.CompSrcT _ _ _ _ _ _ _ _ _ _ _ _ _ _ _)) | fail); (fail_if_success (with_reducible show wpAny _ _ (subscriptTail _ (PySem.Expr.Slice _ _ none _) _ _) _ _ _)); (fail_if_success (with_reducible show wpAny _ _ (binaryOp Operator.Add (Value.ref _) (Value.ref _)) _ _ _)); (fail_if_success (with_reducible show wpAny _ _ (compareOp .NotEq (Value.ref _) (Value.ref _)) _ _ _)); (fail_if_success (with_reducible show wpAny _ _ (compareOp .Eq (Value.ref _) (Value.ref _)) _ _ _)); first | walk1 | (dsimp only; (try k_fold); (first | (fail_if_success (with_reducible first | show wpAny _ _ (call (Value.ref _) _) _ _ _ | show wpAny _ _ (exec (Stmt.While _ _ _ _) _) _ _ _ | show wpAny _ _ (exec (Stmt.For _ _ _ _ _) _) _ _ _ | show wpAny _ _ (pyIter _) _ _ _ | show wpAny _ _ (setItem _ _ _) _ _ _ | show wpAny _ _ (eval (Expr.ListComp _ _ _ _) _) _ _ _ | show wpAny _ _ (exec (Stmt.Assign _ (Expr.ListComp _ _ _ _) _) _) _ _ _ | show InvPostG _ _ _ _ _ _ _ _ | show InvEndG _ _ _ _ _ _ | show OnG _ _ _ _ _ _ _ | show Fin _ _ _ _ _ _ | show KswEnd _ _ _ _ _ _ _ _ _ _ _ _ | show wpAny _ _ (call (Value.builtin "sorted") _) _ _ _ | show LCg.CompEnd _ _ _ _ _ _ _ _ _ _ _ _ _ _ | show LCg.CompSrc _ _ _ _ _ _ _ _ _ _ _ _ _ _ | show LCt.CompSrcT _ _ _ _ _ _ _ _ _ _ _ _ _ _ _)) | fail); walk1)) | (leave1; walk_say "STEP leave1"; try dsimp only) | fail "no step")) | fail)
                  dsimp only [InvPostG]
                  rename Fr _ _ _ _ => F9; rename News _ _ _ _ => N9
                  exact endN sep F9 N9 (fun p hp => by repeat' (first | exact hp | refine List.Mem.tail _ ?_)) (by (first | (intro z h1 h2 h3; (simp only [List.contains_cons, List.contains_nil, Bool.or_eq_false_iff, beq_eq_false_iff_ne, ne_eq, List.forall_mem_cons, List.mem_cons, List.not_mem_nil, or_false, forall_eq_or_imp, forall_eq] at h1 h2 h3); (simp only [h1, h2, h3, if_false, ite_false, List.contains_cons, List.contains_nil, Bool.or_false, beq_iff_eq, Bool.or_eq_true, or_self, or_false, and_true, not_false_eq_true, Bool.false_eq_true]); done) | fail))
                · have hv2 := Option.some.inj hv
                  subst hv2
                  clear hv
                  (first | ((try k_unmd); (try k_fold); repeat' (first | (k_unfold; (try dsimp only)) | (first | ((with_reducible show wpAny _ _ (call (Value.ref 131) _) _ _ _); k_here; k_dflt (refine goal_law (by k_asm) (by k_asm) (by k_asm) (by k_asm) (by rfl) (by (first | decide | ((try dsimp only [ktrTop, Around.deeper, Around.in1]); omega) | fail)) (by (first | decide | ((try dsimp only [ktrTop, Around.deeper, Around.in1]); omega) | fail)) (by k_asm) (by with_reducible assumption) (by (first | (intro p hp; first | (with_reducible (repeat' (first | exact hp | exact List.mem_append_left _ hp | exact List.mem_append_right _ hp | refine List.mem_cons_of_mem _ ?_)); done) | ((simp only [List.nil_append, List.cons_append, List.append_nil, List.append_assoc, List.mem_cons, List.mem_append, List.not_mem_nil, or_false, false_or] at hp ⊢); first | done | grind)) | fail)) (by with_reducible assumption) (by with_reducible assumption) (by omega) (by first | (with_reducible assumption) | rfl | fail) (by first | (with_reducible assumption) | omega | fail) ?_; k_whole); intro h' tk' t' F' N'; (try k_sweep)) | ((with_reducible show wpAny _ _ (call (Value.ref 112) _) _ _ _); k_here; k_dflt (refine draw_at (by k_asm) (by k_asm) (by k_asm) (by k_asm) (by rfl) (by (first | decide | ((try dsimp only [ktrTop, Around.deeper, Around.in1]); omega) | fail)) (by (first | decide | ((try dsimp only [ktrTop, Around.deeper, Around.in1]); omega) | fail)) (by k_asm) (by k_updF) (by with_reducible assumption) (by with_reducible assumption) (by omega) (by omega) ?_; k_whole); intro h' tk' vs' n' ns' x' t' F' N' hi' hl' x1'; (try k_sweep)) | ((with_reducible show wpAny _ _ (subscriptTail _ _ (Value.ref _) (Value.str _ _)) _ _ _); k_here; k_dflt (refine bd_item (knd := PySem.strKind _ _) (by k_asm) (by with_reducible assumption) (strKind_is _ _ _ _) (by with_reducible assumption) ?_ (by with_unfolding_all rfl); k_whole)) | ((with_reducible show wpAny _ _ (subscriptTail _ _ (Value.ref _) (Value.int _ _)) _ _ _); k_here; k_dflt (refine bd_item (knd := PySem.intKind _ _) (by k_asm) (by with_reducible assumption) (intKind_is _ _ _ _) (by with_reducible assumption) ?_ (by with_unfolding_all rfl); k_whole)) | fail) | ((first | (fail_if_success (with_reducible first | show wpAny _ _ (call (Value.ref _) _) _ _ _ | show wpAny _ _ (exec (Stmt.While _ _ _ _) _) _ _ _ | show wpAny _ _ (exec (Stmt.For _ _ _ _ _) _) _ _ _ | show wpAny _ _ (pyIter _) _ _ _ | show wpAny _ _ (setItem _ _ _) _ _ _ | show wpAny _ _ (eval (Expr.ListComp _ _ _ _) _) _ _ _ | show wpAny _ _ (exec (Stmt.Assign _ (Expr.ListComp _ _ _ _) _) _) _ _ _ | show InvPostG _ _ _ _ _ _ _ _ | show InvEndG _ _ _ _ _ _ | show OnG _ _ _ _ _ _ _ | show Fin _ _ _ _ _ _ | show KswEnd _ _ _ _ _ _ _ _ _ _ _ _ | show wpAny _ _ (call (Value.builtin "sorted") _) _ _ _ | show LCg.CompEnd _ _ _ _ _ _ _ _ _ _ _ _ _ _ | show LCg.CompSrc _ _ _ _ _ _ _ _ _ _ _ _ _ _ | show LCt.CompSrcT _ _ _ _ _ _ _ _ _ _ _ _ _ _ _)) | fail); (fail_if_success (with_reducible show wpAny _ _ (subscriptTail _ (PySem.Expr.Slice _ _ none _) _ _) _ _ _)); (fail_if_success (with_reducible show wpAny _ _ (binaryOp Operator.Add (Value.ref _) (Value.ref _)) _ _ _)); (fail_if_success (with_reducible show wpAny _ _ (compareOp .NotEq (Value.ref _) (Value.ref _)) _ _ _)); (fail_if_success (with_reducible show wpAny _ _ (compareOp .Eq (Value.ref _) (Value.ref _)) _ _ _)); first | walk1 | (dsimp only; (try k_fold); (first | (fail_if_success (with_reducible first | show wpAny _ _ (call (Value.ref _) _) _ _ _ | show wpAny _ _ (exec (Stmt.While _ _ _ _) _) _ _ _ | show wpAny _ _ (exec (Stmt.For _ _ _ _ _) _) _ _ _ | show wpAny _ _ (pyIter _) _ _ _ | show wpAny _ _ (setItem _ _ _) _ _ _ | show wpAny _ _ (eval (Expr.ListComp _ _ _ _) _) _ _ _ | show wpAny _ _ (exec (Stmt.Assign _ (Expr.ListComp _ _ _ _) _) _) _ _ _ | show InvPostG _ _ _ _ _ _ _ _ | show InvEndG _ _ _ _ _ _ | show OnG _ _ _ _ _ _ _ | show Fin _ _ _ _ _ _ | show KswEnd _ _ _ _ _ _ _ _ _ _ _ _ | show wpAny _ _ (call (Value.builtin "sorted") _) _ _ _ | show LCg.CompEnd _ _ _ _ _ _ _ _ _ _ _ _ _ _ | show LCg.CompSrc _ _ _ _ _ _ _ _ _ _ _ _ _ _ | show LCt.CompSrcT _ _ _ _ _ _ _ _ _ _ _ _ _ _ _)) | fail); walk1)) | (leave1; walk_say "STEP leave1"; try dsimp only) | fail "no step")) | fail)
                  dsimp only [InvPostG]
                  rename Fr _ _ _ _ => F9; rename News _ _ _ _ => N9
                  exact endN sep F9 N9 (fun p hp => by repeat' (first | exact hp | refine List.Mem.tail _ ?_)) (by (first | (intro z h1 h2 h3; (simp only [List.contains_cons, List.contains_nil, Bool.or_eq_false_iff, beq_eq_false_iff_ne, ne_eq, List.forall_mem_cons, List.mem_cons, List.not_mem_nil, or_false, forall_eq_or_imp, forall_eq] at h1 h2 h3); (simp only [h1, h2, h3, if_false, ite_false, List.contains_cons, List.contains_nil, Bool.or_false, beq_iff_eq, Bool.or_eq_true, or_self, or_false, and_true, not_false_eq_true, Bool.false_eq_true]); done) | fail))
              · intro tl u h tk off F6 N6
                simp only [List.cons_append, List.nil_append] at N6
                have N6c := news_cells5 N6
                obtain ⟨K5, tl5, hK5, NT, hoff5, hKI5, hKK⟩ := resnap F6 N6 hKI4 (by (first | (intro p hp; first | (with_reducible (repeat' (first | exact hp | exact List.mem_append_left _ hp | exact List.mem_append_right _ hp | refine List.mem_cons_of_mem _ ?_)); done) | ((simp only [List.nil_append, List.cons_append, List.append_nil, List.append_assoc, List.mem_cons, List.mem_append, List.not_mem_nil, or_false, false_or] at hp ⊢); first | done | grind)) | fail)) hKn4 (none_four N6c)
                replace O := O.keeps hKK
                replace O2 := O2.keeps hKK
                replace hkl := stays_list hKK hkl
                replace hsl := stays_list hKK hsl
                replace hE0 := hE0.mono hKK
                have N9 := news_both (news_take 4 N6c) NT
                simp only [List.take_succ_cons, List.take_zero, List.cons_append, List.nil_append] at N9
                have hKn5 : ∀ b o, K5.get? b = some o → b ≠ _ ∧ b ∉ [_, _, _, _] := fun b o e => ((hK5 b o).mp e).2
                (try dsimp only)
                have hKd := kdMark
                (first | ((try k_unmd); (try k_fold); repeat' (first | (k_unfold; (try dsimp only)) | (first | ((with_reducible show wpAny _ _ (call (Value.ref 131) _) _ _ _); k_here; k_dflt (refine goal_law (by k_asm) (by k_asm) (by k_asm) (by k_asm) (by rfl) (by (first | decide | ((try dsimp only [ktrTop, Around.deeper, Around.in1]); omega) | fail)) (by (first | decide | ((try dsimp only [ktrTop, Around.deeper, Around.in1]); omega) | fail)) (by k_asm) (by with_reducible assumption) (by (first | (intro p hp; first | (with_reducible (repeat' (first | exact hp | exact List.mem_append_left _ hp | exact List.mem_append_right _ hp | refine List.mem_cons_of_mem _ ?_)); done) | ((simp only [List.nil_append, List.cons_append, List.append_nil, List.append_assoc, List.mem_cons, List.mem_append, List.not_mem_nil, or_false, false_or] at hp ⊢); first | done | grind)) | fail)) (by with_reducible assumption) (by with_reducible assumption) (by omega) (by first | (with_reducible assumption) | rfl | fail) (by first | (with_reducible assumption) | omega | fail) ?_; k_whole); intro h' tk' t' F' N'; (try k_sweep)) | ((with_reducible show wpAny _ _ (call (Value.ref 112) _) _ _ _); k_here; k_dflt (refine draw_at (by k_asm) (by k_asm) (by k_asm) (by k_asm) (by rfl) (by (first | decide | ((try dsimp only [ktrTop, Around.deeper, Around.in1]); omega) | fail)) (by (first | decide | ((try dsimp only [ktrTop, Around.deeper, Around.in1]); omega) | fail)) (by k_asm) (by k_updF) (by with_reducible assumption) (by with_reducible assumption) (by omega) (by omega) ?_; k_whole); intro h' tk' vs' n' ns' x' t' F' N' hi' hl' x1'; (try k_sweep)) | ((with_reducible show wpAny _ _ (subscriptTail _ _ (Value.ref _) (Value.str _ _)) _ _ _); k_here; k_dflt (refine bd_item (knd := PySem.strKind _ _) (by k_asm) (by with_reducible assumption) (strKind_is _ _ _ _) (by with_reducible assumption) ?_ (by with_unfolding_all rfl); k_whole)) | ((with_reducible show wpAny _ _ (subscriptTail _ _ (Value.ref _) (Value.int _ _)) _ _ _); k_here; k_dflt (refine bd_item (knd := PySem.intKind _ _) (by k_asm) (by with_reducible assumption) (intKind_is _ _ _ _) (by with_reducible assumption) ?_ (by with_unfolding_all rfl); k_whole)) | fail) | ((first | (fail_if_success (with_reducible first | show wpAny _ _ (call (Value.ref _) _) _ _ _ | show wpAny _ _ (exec (Stmt.While _ _ _ _) _) _ _ _ | show wpAny _ _ (exec (Stmt.For _ _ _ _ _) _) _ _ _ | show wpAny _ _ (pyIter _) _ _ _ | show wpAny _ _ (setItem _ _ _) _ _ _ | show wpAny _ _ (eval (Expr.ListComp _ _ _ _) _) _ _ _ | show wpAny _ _ (exec (Stmt.Assign _ (Expr.ListComp _ _ _ _) _) _) _ _ _ | show InvPostG _ _ _ _ _ _ _ _ | show InvEndG _ _ _ _ _ _ | show OnG _ _ _ _ _ _ _ | show Fin _ _ _ _ _ _ | show KswEnd _ _ _ _ _ _ _ _ _ _ _ _ | show wpAny _ _ (call (Value.builtin "sorted") _) _ _ _ | show LCg.CompEnd _ _ _ _ _ _ _ _ _ _ _ _ _ _ | show LCg.CompSrc _ _ _ _ _ _ _ _ _ _ _ _ _ _ | show LCt.CompSrcT _ _ _ _ _ _ _ _ _ _ _ _ _ _ _)) | fail); (fail_if_success (with_reducible show wpAny _ _ (subscriptTail _ (PySem.Expr.Slice _ _ none _) _ _) _ _ _)); (fail_if_success (with_reducible show wpAny _ _ (binaryOp Operator.Add (Value.ref _) (Value.ref _)) _ _ _)); (fail_if_success (with_reducible show wpAny _ _ (compareOp .NotEq (Value.ref _) (Value.ref _)) _ _ _)); (fail_if_success (with_reducible show wpAny _ _ (compareOp .Eq (Value.ref _) (Value.ref _)) _ _ _)); first | walk1 | (dsimp only; (try k_fold); (first | (fail_if_success (with_reducible first | show wpAny _ _ (call (Value.ref _) _) _ _ _ | show wpAny _ _ (exec (Stmt.While _ _ _ _) _) _ _ _ | show wpAny _ _ (exec (Stmt.For _ _ _ _ _) _) _ _ _ | show wpAny _ _ (pyIter _) _ _ _ | show wpAny _ _ (setItem _ _ _) _ _ _ | show wpAny _ _ (eval (Expr.ListComp _ _ _ _) _) _ _ _ | show wpAny _ _ (exec (Stmt.Assign _ (Expr.ListComp _ _ _ _) _) _) _ _ _ | show InvPostG _ _ _ _ _ _ _ _ | show InvEndG _ _ _ _ _ _ | show OnG _ _ _ _ _ _ _ | show Fin _ _ _ _ _ _ | show KswEnd _ _ _ _ _ _ _ _ _ _ _ _ | show wpAny _ _ (call (Value.builtin "sorted") _) _ _ _ | show LCg.CompEnd _ _ _ _ _ _ _ _ _ _ _ _ _ _ | show LCg.CompSrc _ _ _ _ _ _ _ _ _ _ _ _ _ _ | show LCt.CompSrcT _ _ _ _ _ _ _ _ _ _ _ _ _ _ _)) | fail); walk1)) | (leave1; walk_say "STEP leave1"; try dsimp only) | fail "no step")) | fail)
                rename Fr _ _ _ _ => F7
                clear N6 N6c NT hKI4 hKn4 hKK hK5 hoff4 Ob Ob2 hco2 hcm2 va1 va2 va3 va4 hcg hcr hcb ht hxe he1 he2 he4 he5 he6
                obtain ⟨ldm, mkv, hm1, hm2, hm3, hm4⟩ := O.maps
                replace hm4 : KVs (Hp K5) mkv (mapsL (mk rows)) := hm4
                have hmn := mk_len rows
                have Ob := O.obj
                have Ob2 := O2.obj
                k_dflt (refine LCt.Assign_ListComp_T (F₀ := F7) (cl := [(Str.ofString "stay", _), (Str.ofString "kept", _)]) (by rfl) (by with_unfolding_all rfl) (by with_unfolding_all rfl) (by decide) (by rfl) (by decide) (by rfl) (by rfl) (by rfl) ?_)
                (first | ((try k_unmd); (try k_fold); repeat' (first | (k_unfold; (try dsimp only)) | (first | ((with_reducible show wpAny _ _ (call (Value.ref 131) _) _ _ _); k_here; k_dflt (refine goal_law (by k_asm) (by k_asm) (by k_asm) (by k_asm) (by rfl) (by (first | decide | ((try dsimp only [ktrTop, Around.deeper, Around.in1]); omega) | fail)) (by (first | decide | ((try dsimp only [ktrTop, Around.deeper, Around.in1]); omega) | fail)) (by k_asm) (by with_reducible assumption) (by (first | (intro p hp; first | (with_reducible (repeat' (first | exact hp | exact List.mem_append_left _ hp | exact List.mem_append_right _ hp | refine List.mem_cons_of_mem _ ?_)); done) | ((simp only [List.nil_append, List.cons_append, List.append_nil, List.append_assoc, List.mem_cons, List.mem_append, List.not_mem_nil, or_false, false_or] at hp ⊢); first | done | grind)) | fail)) (by with_reducible assumption) (by with_reducible assumption) (by omega) (by first | (with_reducible assumption) | rfl | fail) (by first | (with_reducible assumption) | omega | fail) ?_; k_whole); intro h' tk' t' F' N'; (try k_sweep)) | ((with_reducible show wpAny _ _ (call (Value.ref 112) _) _ _ _); k_here; k_dflt (refine draw_at (by k_asm) (by k_asm) (by k_asm) (by k_asm) (by rfl) (by (first | decide | ((try dsimp only [ktrTop, Around.deeper, Around.in1]); omega) | fail)) (by (first | decide | ((try dsimp only [ktrTop, Around.deeper, Around.in1]); omega) | fail)) (by k_asm) (by k_updF) (by with_reducible assumption) (by with_reducible assumption) (by omega) (by omega) ?_; k_whole); intro h' tk' vs' n' ns' x' t' F' N' hi' hl' x1'; (try k_sweep)) | ((with_reducible show wpAny _ _ (subscriptTail _ _ (Value.ref _) (Value.str _ _)) _ _ _); k_here; k_dflt (refine bd_item (knd := PySem.strKind _ _) (by k_asm) (by with_reducible assumption) (strKind_is _ _ _ _) (by with_reducible assumption) ?_ (by with_unfolding_all rfl); k_whole)) | ((with_reducible show wpAny _ _ (subscriptTail _ _ (Value.ref _) (Value.int _ _)) _ _ _); k_here; k_dflt (refine bd_item (knd := PySem.intKind _ _) (by k_asm) (by with_reducible assumption) (intKind_is _ _ _ _) (by with_reducible assumption) ?_ (by with_unfolding_all rfl); k_whole)) | fail) | ((first | (fail_if_success (with_reducible first | show wpAny _ _ (call (Value.ref _) _) _ _ _ | show wpAny _ _ (exec (Stmt.While _ _ _ _) _) _ _ _ | show wpAny _ _ (exec (Stmt.For _ _ _ _ _) _) _ _ _ | show wpAny _ _ (pyIter _) _ _ _ | show wpAny _ _ (setItem _ _ _) _ _ _ | show wpAny _ _ (eval (Expr.ListComp _ _ _ _) _) _ _ _ | show wpAny _ _ (exec (Stmt.Assign _ (Expr.ListComp _ _ _ _) _) _) _ _ _ | show InvPostG _ _ _ _ _ _ _ _ | show InvEndG _ _ _ _ _ _ | show OnG _ _ _ _ _ _ _ | show Fin _ _ _ _ _ _ | show KswEnd _ _ _ _ _ _ _ _ _ _ _ _ | show wpAny _ _ (call (Value.builtin "sorted") _) _ _ _ | show LCg.CompEnd _ _ _ _ _ _ _ _ _ _ _ _ _ _ | show LCg.CompSrc _ _ _ _ _ _ _ _ _ _ _ _ _ _ | show LCt.CompSrcT _ _ _ _ _ _ _ _ _ _ _ _ _ _ _)) | fail); (fail_if_success (with_reducible show wpAny _ _ (subscriptTail _ (PySem.Expr.Slice _ _ none _) _ _) _ _ _)); (fail_if_success (with_reducible show wpAny _ _ (binaryOp Operator.Add (Value.ref _) (Value.ref _)) _ _ _)); (fail_if_success (with_reducible show wpAny _ _ (compareOp .NotEq (Value.ref _) (Value.ref _)) _ _ _)); (fail_if_success (with_reducible show wpAny _ _ (compareOp .Eq (Value.ref _) (Value.ref _)) _ _ _)); first | walk1 | (dsimp only; (try k_fold); (first | (fail_if_success (with_reducible first | show wpAny _ _ (call (Value.ref _) _) _ _ _ | show wpAny _ _ (exec (Stmt.While _ _ _ _) _) _ _ _ | show wpAny _ _ (exec (Stmt.For _ _ _ _ _) _) _ _ _ | show wpAny _ _ (pyIter _) _ _ _ | show wpAny _ _ (setItem _ _ _) _ _ _ | show wpAny _ _ (eval (Expr.ListComp _ _ _ _) _) _ _ _ | show wpAny _ _ (exec (Stmt.Assign _ (Expr.ListComp _ _ _ _) _) _) _ _ _ | show InvPostG _ _ _ _ _ _ _ _ | show InvEndG _ _ _ _ _ _ | show OnG _ _ _ _ _ _ _ | show Fin _ _ _ _ _ _ | show KswEnd _ _ _ _ _ _ _ _ _ _ _ _ | show wpAny _ _ (call (Value.builtin "sorted") _) _ _ _ | show LCg.CompEnd _ _ _ _ _ _ _ _ _ _ _ _ _ _ | show LCg.CompSrc _ _ _ _ _ _ _ _ _ _ _ _ _ _ | show LCt.CompSrcT _ _ _ _ _ _ _ _ _ _ _ _ _ _ _)) | fail); walk1)) | (leave1; walk_say "STEP leave1"; try dsimp only) | fail "no step")) | fail)
                rename Fr _ _ _ _ => F8; rename News _ _ _ _ => N8
                refine sorted_keys (by exact rfl) F8 N8 (hm3.keep (hKI5.le F8 N8 (by (first | (intro p hp; first | (with_reducible (repeat' (first | exact hp | exact List.mem_append_left _ hp | exact List.mem_append_right _ hp | refine List.mem_cons_of_mem _ ?_)); done) | ((simp only [List.nil_append, List.cons_append, List.append_nil, List.append_assoc, List.mem_cons, List.mem_append, List.not_mem_nil, or_false, false_or] at hp ⊢); first | done | grind)) | fail)))) hm2 (hm4.keys.trans (maps_keys _)) (maps_asc (mk_pairwise rows)) (by rw [List.length_map]; omega) ?_
                intro D1 h2 tk2 vs1 c1 F2 N2 l2 hI2
                have hl2 := hI2.length
                rw [List.length_map] at hl2
                rw [← List.append_nil tl5] at N2
                refine LCt.CompSrcT.ledger (by rfl) F2 N2 (.head _) (by rw [sizeLine_eq, List.size_toArray]; omega) ?_
                intro g5
                rw [show (List.toArray vs1).size = (mk rows).length by rw [List.size_toArray]; omega]
                refine compIT (fun c : List (Addr × Obj) => _ :: _ :: _ :: _ :: _ :: (tl5 ++ c)) (fun i zs c => DIs (Kn K5 c) zs ((newMaps ks ((mk rows).take i)).map fun p => Dat.tuple [.int p.1, p.2])) [] .nil ?_ ?_
                · intro i zs c v I oI C oC D m₂ h tk E' hi hv hJ hC hx F6 N6 off ne
                  obtain ⟨k, t, rfl, hk⟩ := IntsAre.at hI2 i v (by simpa using hv)
                  rw [List.getElem?_map] at hk
                  obtain ⟨j, hj, rfl⟩ := Option.map_eq_some_iff.mp hk
                  have hjn := mk_lt rows j (List.mem_of_getElem? hj)
                  have hst := stays_at (ks := ks) (k := j) (by omega)
                  have hkx : (ks.map Value.bool)[((j : Int) + 1 - 1).toNat]? = some (Value.bool (stays ks j)) := by rw [show ((j : Int) + 1 - 1).toNat = j by omega, List.getElem?_map, hst]; rfl
                  have hq1 : (j : Int) + 1 - 1 = ((j : Nat) : Int) := by omega
                  have hq2 : j ≤ ks.length := by omega
                  have hsn := newMaps_snoc ks hj
                  clear hv hk hst F2 N2
                  generalize hbb : stays ks j = b at hkx hsn
                  have hKd := kdMark
                  (first | ((try k_unmd); (try k_fold); repeat' (first | (k_unfold; (try dsimp only)) | (first | ((with_reducible show wpAny _ _ (call (Value.ref 131) _) _ _ _); k_here; k_dflt (refine goal_law (by k_asm) (by k_asm) (by k_asm) (by k_asm) (by rfl) (by (first | decide | ((try dsimp only [ktrTop, Around.deeper, Around.in1]); omega) | fail)) (by (first | decide | ((try dsimp only [ktrTop, Around.deeper, Around.in1]); omega) | fail)) (by k_asm) (by with_reducible assumption) (by (first | (intro p hp; first | (with_reducible (repeat' (first | exact hp | exact List.mem_append_left _ hp | exact List.mem_append_right _ hp | refine List.mem_cons_of_mem _ ?_)); done) | ((simp only [List.nil_append, List.cons_append, List.append_nil, List.append_assoc, List.mem_cons, List.mem_append, List.not_mem_nil, or_false, false_or] at hp ⊢); first | done | grind)) | fail)) (by with_reducible assumption) (by with_reducible assumption) (by omega) (by first | (with_reducible assumption) | rfl | fail) (by first | (with_reducible assumption) | omega | fail) ?_; k_whole); intro h' tk' t' F' N'; (try k_sweep)) | ((with_reducible show wpAny _ _ (call (Value.ref 112) _) _ _ _); k_here; k_dflt (refine draw_at (by k_asm) (by k_asm) (by k_asm) (by k_asm) (by rfl) (by (first | decide | ((try dsimp only [ktrTop, Around.deeper, Around.in1]); omega) | fail)) (by (first | decide | ((try dsimp only [ktrTop, Around.deeper, Around.in1]); omega) | fail)) (by k_asm) (by k_updF) (by with_reducible assumption) (by with_reducible assumption) (by omega) (by omega) ?_; k_whole); intro h' tk' vs' n' ns' x' t' F' N' hi' hl' x1'; (try k_sweep)) | ((with_reducible show wpAny _ _ (subscriptTail _ _ (Value.ref _) (Value.str _ _)) _ _ _); k_here; k_dflt (refine bd_item (knd := PySem.strKind _ _) (by k_asm) (by with_reducible assumption) (strKind_is _ _ _ _) (by with_reducible assumption) ?_ (by with_unfolding_all rfl); k_whole)) | ((with_reducible show wpAny _ _ (subscriptTail _ _ (Value.ref _) (Value.int _ _)) _ _ _); k_here; k_dflt (refine bd_item (knd := PySem.intKind _ _) (by k_asm) (by with_reducible assumption) (intKind_is _ _ _ _) (by with_reducible assumption) ?_ (by with_unfolding_all rfl); k_whole)) | fail) | ((first | (fail_if_success (with_reducible first | show wpAny _ _ (call (Value.ref _) _) _ _ _ | show wpAny _ _ (exec (Stmt.While _ _ _ _) _) _ _ _ | show wpAny _ _ (exec (Stmt.For _ _ _ _ _) _) _ _ _ | show wpAny _ _ (pyIter _) _ _ _ | show wpAny _ _ (setItem _ _ _) _ _ _ | show wpAny _ _ (eval (Expr.ListComp _ _ _ _) _) _ _ _ | show wpAny _ _ (exec (Stmt.Assign _ (Expr.ListComp _ _ _ _) _) _) _ _ _ | show InvPostG _ _ _ _ _ _ _ _ | show InvEndG _ _ _ _ _ _ | show OnG _ _ _ _ _ _ _ | show Fin _ _ _ _ _ _ | show KswEnd _ _ _ _ _ _ _ _ _ _ _ _ | show wpAny _ _ (call (Value.builtin "sorted") _) _ _ _ | show LCg.CompEnd _ _ _ _ _ _ _ _ _ _ _ _ _ _ | show LCg.CompSrc _ _ _ _ _ _ _ _ _ _ _ _ _ _ | show LCt.CompSrcT _ _ _ _ _ _ _ _ _ _ _ _ _ _ _)) | fail); (fail_if_success (with_reducible show wpAny _ _ (subscriptTail _ (PySem.Expr.Slice _ _ none _) _ _) _ _ _)); (fail_if_success (with_reducible show wpAny _ _ (binaryOp Operator.Add (Value.ref _) (Value.ref _)) _ _ _)); (fail_if_success (with_reducible show wpAny _ _ (compareOp .NotEq (Value.ref _) (Value.ref _)) _ _ _)); (fail_if_success (with_reducible show wpAny _ _ (compareOp .Eq (Value.ref _) (Value.ref _)) _ _ _)); first | walk1 | (dsimp only; (try k_fold); (first | (fail_if_success (with_reducible first | show wpAny _ _ (call (Value.ref _) _) _ _ _ | show wpAny _ _ (exec (Stmt.While _ _ _ _) _) _ _ _ | show wpAny _ _ (exec (Stmt.For _ _ _ _ _) _) _ _ _ | show wpAny _ _ (pyIter _) _ _ _ | show wpAny _ _ (setItem _ _ _) _ _ _ | show wpAny _ _ (eval (Expr.ListComp _ _ _ _) _) _ _ _ | show wpAny _ _ (exec (Stmt.Assign _ (Expr.ListComp _ _ _ _) _) _) _ _ _ | show InvPostG _ _ _ _ _ _ _ _ | show InvEndG _ _ _ _ _ _ | show OnG _ _ _ _ _ _ _ | show Fin _ _ _ _ _ _ | show KswEnd _ _ _ _ _ _ _ _ _ _ _ _ | show wpAny _ _ (call (Value.builtin "sorted") _) _ _ _ | show LCg.CompEnd _ _ _ _ _ _ _ _ _ _ _ _ _ _ | show LCg.CompSrc _ _ _ _ _ _ _ _ _ _ _ _ _ _ | show LCt.CompSrcT _ _ _ _ _ _ _ _ _ _ _ _ _ _ _)) | fail); walk1)) | (leave1; walk_say "STEP leave1"; try dsimp only) | fail "no step")) | fail)
                  · rename b = true => hb9
                    rename Fr _ _ _ _ => F9; rename News _ _ _ _ => N9
                    exact cend [_, _, _, _, _] tl5 c [_, _] F9 N9 (by lcg_off) off (.inr ⟨_, .head _, rfl, _, rfl⟩) ⟨_, rfl, by
                      rw [hsn, hb9]
                      exact (List.map_append (f := fun p : Int × Dat => Dat.tuple [.int p.1, p.2]) ▸ (hJ.mono (Kn.sub fun q hq => .tail _ (.tail _ hq))).snoc (.tuple (.inr (.head _)) rfl rfl (.cons (.int _ _) (.cons (.list (.inr (.tail _ (.head _))) rfl rfl (.cons (.int _ _) (.cons (.int _ _) .nil))) .nil))))⟩
                  · rename b = false => hb9
                    refine LCg.CompEnd.intro F6 N6 _ (fun p hp => hp) off (.inr ⟨_, .head _, rfl, _, rfl⟩) ⟨c, rfl, ?_⟩
                    rw [hsn, hb9]
                    simpa using hJ
                · intro zs c hJ
                  unfold LCg.FinA
                  intro Dd h9 tk9 F8 N8 offd
                  rw [List.take_of_length_le (by omega)] at hJ
                  have N6c := fun p hp => N8 p (.tail _ (.tail _ hp))
                  have hdu : DI (Hp h9) (.ref Dd) (.list ((newMaps ks (mk rows)).map fun p => Dat.tuple [.int p.1, p.2])) := .list (N8 _ (.head _)).1 rfl rfl (hJ.mono (knk hKI5 F8 N8 (by (first | (intro p hp; first | (with_reducible (repeat' (first | exact hp | exact List.mem_append_left _ hp | exact List.mem_append_right _ hp | refine List.mem_cons_of_mem _ ?_)); done) | ((simp only [List.nil_append, List.cons_append, List.append_nil, List.append_assoc, List.mem_cons, List.mem_append, List.not_mem_nil, or_false, false_or] at hp ⊢); first | done | grind)) | fail)) (by (first | (intro p hp; first | (with_reducible (repeat' (first | exact hp | exact List.mem_append_left _ hp | exact List.mem_append_right _ hp | refine List.mem_cons_of_mem _ ?_)); done) | ((simp only [List.nil_append, List.cons_append, List.append_nil, List.append_assoc, List.mem_cons, List.mem_append, List.not_mem_nil, or_false, false_or] at hp ⊢); first | done | grind)) | fail))))
                  have hc4 := four_cells (N := N6c) (by assumption) (by assumption) (by assumption) (by assumption)
                  obtain ⟨K6, tl6, hK6, NT, hoff6, hKI6, hKK⟩ := resnap F8 N8 hKI5 (by (first | (intro p hp; first | (with_reducible (repeat' (first | exact hp | exact List.mem_append_left _ hp | exact List.mem_append_right _ hp | refine List.mem_cons_of_mem _ ?_)); done) | ((simp only [List.nil_append, List.cons_append, List.append_nil, List.append_assoc, List.mem_cons, List.mem_append, List.not_mem_nil, or_false, false_or] at hp ⊢); first | done | grind)) | fail)) hKn5 (none_four N6c)
                  replace hdu := hdu.seq.mono (di_snap F8 hK6 hc4)
                  replace O2 := O2.keeps hKK
                  replace hE0 := hE0.mono hKK
                  have N9 := news_both (news_take 4 N6c) NT
                  simp only [List.take_succ_cons, List.take_zero, List.cons_append, List.nil_append] at N9
                  have hKn6 : ∀ b o, K6.get? b = some o → b ≠ _ ∧ b ∉ [_, _, _, _] := fun b o e => ((hK6 b o).mp e).2
                  clear N8 N6c NT hKI5 hKn5 hKK hK6 hoff5 F2 N2 hJ offd hc4 hm1 hm2 hm3 hm4 hkl hsl O
                  obtain ⟨ldm2, mkv2, hm5, hm6, hm7, hm8⟩ := O2.maps
                  replace hm8 : KVs (Hp K6) mkv2 (newMaps ks (mk rows)) := hm8
                  have hmn2 := newMaps_len ks (mk rows)
                  replace Ob2 := O2.obj
                  (try dsimp only)
                  have hKd := kdMark
                  (first | ((try k_unmd); (try k_fold); repeat' (first | (k_unfold; (try dsimp only)) | (first | ((with_reducible show wpAny _ _ (call (Value.ref 131) _) _ _ _); k_here; k_dflt (refine goal_law (by k_asm) (by k_asm) (by k_asm) (by k_asm) (by rfl) (by (first | decide | ((try dsimp only [ktrTop, Around.deeper, Around.in1]); omega) | fail)) (by (first | decide | ((try dsimp only [ktrTop, Around.deeper, Around.in1]); omega) | fail)) (by k_asm) (by with_reducible assumption) (by (first | (intro p hp; first | (with_reducible (repeat' (first | exact hp | exact List.mem_append_left _ hp | exact List.mem_append_right _ hp | refine List.mem_cons_of_mem _ ?_)); done) | ((simp only [List.nil_append, List.cons_append, List.append_nil, List.append_assoc, List.mem_cons, List.mem_append, List.not_mem_nil, or_false, false_or] at hp ⊢); first | done | grind)) | fail)) (by with_reducible assumption) (by with_reducible assumption) (by omega) (by first | (with_reducible assumption) | rfl | fail) (by first | (with_reducible assumption) | omega | fail) ?_; k_whole); intro h' tk' t' F' N'; (try k_sweep)) | ((with_reducible show wpAny _ _ (call (Value.ref 112) _) _ _ _); k_here; k_dflt (refine draw_at (by k_asm) (by k_asm) (by k_asm) (by k_asm) (by rfl) (by (first | decide | ((try dsimp only [ktrTop, Around.deeper, Around.in1]); omega) | fail)) (by (first | decide | ((try dsimp only [ktrTop, Around.deeper, Around.in1]); omega) | fail)) (by k_asm) (by k_updF) (by with_reducible assumption) (by with_reducible assumption) (by omega) (by omega) ?_; k_whole); intro h' tk' vs' n' ns' x' t' F' N' hi' hl' x1'; (try k_sweep)) | ((with_reducible show wpAny _ _ (subscriptTail _ _ (Value.ref _) (Value.str _ _)) _ _ _); k_here; k_dflt (refine bd_item (knd := PySem.strKind _ _) (by k_asm) (by with_reducible assumption) (strKind_is _ _ _ _) (by with_reducible assumption) ?_ (by with_unfolding_all rfl); k_whole)) | ((with_reducible show wpAny _ _ (subscriptTail _ _ (Value.ref _) (Value.int _ _)) _ _ _); k_here; k_dflt (refine bd_item (knd := PySem.intKind _ _) (by k_asm) (by with_reducible assumption) (intKind_is _ _ _ _) (by with_reducible assumption) ?_ (by with_unfolding_all rfl); k_whole)) | fail) | ((first | (fail_if_success (with_reducible first | show wpAny _ _ (call (Value.ref _) _) _ _ _ | show wpAny _ _ (exec (Stmt.While _ _ _ _) _) _ _ _ | show wpAny _ _ (exec (Stmt.For _ _ _ _ _) _) _ _ _ | show wpAny _ _ (pyIter _) _ _ _ | show wpAny _ _ (setItem _ _ _) _ _ _ | show wpAny _ _ (eval (Expr.ListComp _ _ _ _) _) _ _ _ | show wpAny _ _ (exec (Stmt.Assign _ (Expr.ListComp _ _ _ _) _) _) _ _ _ | show InvPostG _ _ _ _ _ _ _ _ | show InvEndG _ _ _ _ _ _ | show OnG _ _ _ _ _ _ _ | show Fin _ _ _ _ _ _ | show KswEnd _ _ _ _ _ _ _ _ _ _ _ _ | show wpAny _ _ (call (Value.builtin "sorted") _) _ _ _ | show LCg.CompEnd _ _ _ _ _ _ _ _ _ _ _ _ _ _ | show LCg.CompSrc _ _ _ _ _ _ _ _ _ _ _ _ _ _ | show LCt.CompSrcT _ _ _ _ _ _ _ _ _ _ _ _ _ _ _)) | fail); (fail_if_success (with_reducible show wpAny _ _ (subscriptTail _ (PySem.Expr.Slice _ _ none _) _ _) _ _ _)); (fail_if_success (with_reducible show wpAny _ _ (binaryOp Operator.Add (Value.ref _) (Value.ref _)) _ _ _)); (fail_if_success (with_reducible show wpAny _ _ (compareOp .NotEq (Value.ref _) (Value.ref _)) _ _ _)); (fail_if_success (with_reducible show wpAny _ _ (compareOp .Eq (Value.ref _) (Value.ref _)) _ _ _)); first | walk1 | (dsimp only; (try k_fold); (first | (fail_if_success (with_reducible first | show wpAny _ _ (call (Value.ref _) _) _ _ _ | show wpAny _ _ (exec (Stmt.While _ _ _ _) _) _ _ _ | show wpAny _ _ (exec (Stmt.For _ _ _ _ _) _) _ _ _ | show wpAny _ _ (pyIter _) _ _ _ | show wpAny _ _ (setItem _ _ _) _ _ _ | show wpAny _ _ (eval (Expr.ListComp _ _ _ _) _) _ _ _ | show wpAny _ _ (exec (Stmt.Assign _ (Expr.ListComp _ _ _ _) _) _) _ _ _ | show InvPostG _ _ _ _ _ _ _ _ | show InvEndG _ _ _ _ _ _ | show OnG _ _ _ _ _ _ _ | show Fin _ _ _ _ _ _ | show KswEnd _ _ _ _ _ _ _ _ _ _ _ _ | show wpAny _ _ (call (Value.builtin "sorted") _) _ _ _ | show LCg.CompEnd _ _ _ _ _ _ _ _ _ _ _ _ _ _ | show LCg.CompSrc _ _ _ _ _ _ _ _ _ _ _ _ _ _ | show LCt.CompSrcT _ _ _ _ _ _ _ _ _ _ _ _ _ _ _)) | fail); walk1)) | (leave1; walk_say "STEP leave1"; try dsimp only) | fail "no step")) | fail)
                  rename Fr _ _ _ _ => F7; rename News _ _ _ _ => N7
                  k_dflt (refine LCg.ListComp_U (cl := [(Str.ofString "made", _)]) (F₀ := F7) (by with_unfolding_all rfl) (by decide) (by rfl) (by decide) (by rfl) ?_)
                  (first | ((try k_unmd); (try k_fold); repeat' (first | (k_unfold; (try dsimp only)) | (first | ((with_reducible show wpAny _ _ (call (Value.ref 131) _) _ _ _); k_here; k_dflt (refine goal_law (by k_asm) (by k_asm) (by k_asm) (by k_asm) (by rfl) (by (first | decide | ((try dsimp only [ktrTop, Around.deeper, Around.in1]); omega) | fail)) (by (first | decide | ((try dsimp only [ktrTop, Around.deeper, Around.in1]); omega) | fail)) (by k_asm) (by with_reducible assumption) (by (first | (intro p hp; first | (with_reducible (repeat' (first | exact hp | exact List.mem_append_left _ hp | exact List.mem_append_right _ hp | refine List.mem_cons_of_mem _ ?_)); done) | ((simp only [List.nil_append, List.cons_append, List.append_nil, List.append_assoc, List.mem_cons, List.mem_append, List.not_mem_nil, or_false, false_or] at hp ⊢); first | done | grind)) | fail)) (by with_reducible assumption) (by with_reducible assumption) (by omega) (by first | (with_reducible assumption) | rfl | fail) (by first | (with_reducible assumption) | omega | fail) ?_; k_whole); intro h' tk' t' F' N'; (try k_sweep)) | ((with_reducible show wpAny _ _ (call (Value.ref 112) _) _ _ _); k_here; k_dflt (refine draw_at (by k_asm) (by k_asm) (by k_asm) (by k_asm) (by rfl) (by (first | decide | ((try dsimp only [ktrTop, Around.deeper, Around.in1]); omega) | fail)) (by (first | decide | ((try dsimp only [ktrTop, Around.deeper, Around.in1]); omega) | fail)) (by k_asm) (by k_updF) (by with_reducible assumption) (by with_reducible assumption) (by omega) (by omega) ?_; k_whole); intro h' tk' vs' n' ns' x' t' F' N' hi' hl' x1'; (try k_sweep)) | ((with_reducible show wpAny _ _ (subscriptTail _ _ (Value.ref _) (Value.str _ _)) _ _ _); k_here; k_dflt (refine bd_item (knd := PySem.strKind _ _) (by k_asm) (by with_reducible assumption) (strKind_is _ _ _ _) (by with_reducible assumption) ?_ (by with_unfolding_all rfl); k_whole)) | ((with_reducible show wpAny _ _ (subscriptTail _ _ (Value.ref _) (Value.int _ _)) _ _ _); k_here; k_dflt (refine bd_item (knd := PySem.intKind _ _) (by k_asm) (by with_reducible assumption) (intKind_is _ _ _ _) (by with_reducible assumption) ?_ (by with_unfolding_all rfl); k_whole)) | fail) | ((first | (fail_if_success (with_reducible first | show wpAny _ _ (call (Value.ref _) _) _ _ _ | show wpAny _ _ (exec (Stmt.While _ _ _ _) _) _ _ _ | show wpAny _ _ (exec (Stmt.For _ _ _ _ _) _) _ _ _ | show wpAny _ _ (pyIter _) _ _ _ | show wpAny _ _ (setItem _ _ _) _ _ _ | show wpAny _ _ (eval (Expr.ListComp _ _ _ _) _) _ _ _ | show wpAny _ _ (exec (Stmt.Assign _ (Expr.ListComp _ _ _ _) _) _) _ _ _ | show InvPostG _ _ _ _ _ _ _ _ | show InvEndG _ _ _ _ _ _ | show OnG _ _ _ _ _ _ _ | show Fin _ _ _ _ _ _ | show KswEnd _ _ _ _ _ _ _ _ _ _ _ _ | show wpAny _ _ (call (Value.builtin "sorted") _) _ _ _ | show LCg.CompEnd _ _ _ _ _ _ _ _ _ _ _ _ _ _ | show LCg.CompSrc _ _ _ _ _ _ _ _ _ _ _ _ _ _ | show LCt.CompSrcT _ _ _ _ _ _ _ _ _ _ _ _ _ _ _)) | fail); (fail_if_success (with_reducible show wpAny _ _ (subscriptTail _ (PySem.Expr.Slice _ _ none _) _ _) _ _ _)); (fail_if_success (with_reducible show wpAny _ _ (binaryOp Operator.Add (Value.ref _) (Value.ref _)) _ _ _)); (fail_if_success (with_reducible show wpAny _ _ (compareOp .NotEq (Value.ref _) (Value.ref _)) _ _ _)); (fail_if_success (with_reducible show wpAny _ _ (compareOp .Eq (Value.ref _) (Value.ref _)) _ _ _)); first | walk1 | (dsimp only; (try k_fold); (first | (fail_if_success (with_reducible first | show wpAny _ _ (call (Value.ref _) _) _ _ _ | show wpAny _ _ (exec (Stmt.While _ _ _ _) _) _ _ _ | show wpAny _ _ (exec (Stmt.For _ _ _ _ _) _) _ _ _ | show wpAny _ _ (pyIter _) _ _ _ | show wpAny _ _ (setItem _ _ _) _ _ _ | show wpAny _ _ (eval (Expr.ListComp _ _ _ _) _) _ _ _ | show wpAny _ _ (exec (Stmt.Assign _ (Expr.ListComp _ _ _ _) _) _) _ _ _ | show InvPostG _ _ _ _ _ _ _ _ | show InvEndG _ _ _ _ _ _ | show OnG _ _ _ _ _ _ _ | show Fin _ _ _ _ _ _ | show KswEnd _ _ _ _ _ _ _ _ _ _ _ _ | show wpAny _ _ (call (Value.builtin "sorted") _) _ _ _ | show LCg.CompEnd _ _ _ _ _ _ _ _ _ _ _ _ _ _ | show LCg.CompSrc _ _ _ _ _ _ _ _ _ _ _ _ _ _ | show LCt.CompSrcT _ _ _ _ _ _ _ _ _ _ _ _ _ _ _)) | fail); walk1)) | (leave1; walk_say "STEP leave1"; try dsimp only) | fail "no step")) | fail)
                  rename Fr _ _ _ _ => F8; rename News _ _ _ _ => N8
                  refine sorted_keys (by exact rfl) F8 N8 (hm7.keep (hKI6.le F8 N8 (by (first | (intro p hp; first | (with_reducible (repeat' (first | exact hp | exact List.mem_append_left _ hp | exact List.mem_append_right _ hp | refine List.mem_cons_of_mem _ ?_)); done) | ((simp only [List.nil_append, List.cons_append, List.append_nil, List.append_assoc, List.mem_cons, List.mem_append, List.not_mem_nil, or_false, false_or] at hp ⊢); first | done | grind)) | fail)))) hm6 hm8.keys ((newMaps_asc ks (mk_pairwise rows)).imp fun q => Int.le_of_lt q) (by rw [List.length_map]; omega) ?_
                  intro D1 h2 tk2 vs1 c1 F2 N2 l2 hI2
                  have hl2 := hI2.length
                  rw [List.length_map] at hl2
                  clear F8 N8 l2
                  rw [← List.append_nil tl6] at N2
                  refine LCg.CompSrc.ledger (by rfl) F2 N2 (.head _) (by rw [sizeLine_eq, List.size_toArray]; omega) ?_
                  intro g'
                  rw [show (List.toArray vs1).size = (newMaps ks (mk rows)).length by rw [List.size_toArray]; omega]
                  refine compI (fun c : List (Addr × Obj) => _ :: _ :: _ :: _ :: _ :: (tl6 ++ c)) (fun i zs c => DIs (Kn K6 c) zs (((newMaps ks (mk rows)).map fun p => Dat.tuple [.int p.1, p.2]).take i)) [] .nil ?_ ?_
                  · intro i zs c v I oI C oC D m₂ h tk E' hi hv hJ hC hx F6 N6 off ne
                    obtain ⟨k, t, rfl, hk⟩ := IntsAre.at hI2 i v (by simpa using hv)
                    rw [List.getElem?_map] at hk
                    obtain ⟨⟨k', d'⟩, hk1, rfl⟩ := Option.map_eq_some_iff.mp hk
                    have hmm := List.mem_of_getElem? hk1
                    obtain rfl : d' = stackD := newMaps_val _ _ _ hmm
                    obtain ⟨v', hv1, hv2⟩ := hm8.at (find_asc (newMaps_asc ks (mk_pairwise rows)) hmm)
                    have hv3 : DI (Hp K6) v' (.list [.int (-12), .int (-16)]) := hv2
                    cases hv3 with
                    | list ha hc he hds =>
                      have hl9 : Heap.IsList K6 _ _ := ⟨_, ha, hc, _, he⟩
                      have hn9 := show _ = 2 from hds.length
                      dsimp only at hx hv1
                      clear hv hk F2 N2 hv2
                      have hKd := kdMark
                      (first | ((try k_unmd); (try k_fold); repeat' (first | (k_unfold; (try dsimp only)) | (first | ((with_reducible show wpAny _ _ (call (Value.ref 131) _) _ _ _); k_here; k_dflt (refine goal_law (by k_asm) (by k_asm) (by k_asm) (by k_asm) (by rfl) (by (first | decide | ((try dsimp only [ktrTop, Around.deeper, Around.in1]); omega) | fail)) (by (first | decide | ((try dsimp only [ktrTop, Around.deeper, Around.in1]); omega) | fail)) (by k_asm) (by with_reducible assumption) (by (first | (intro p hp; first | (with_reducible (repeat' (first | exact hp | exact List.mem_append_left _ hp | exact List.mem_append_right _ hp | refine List.mem_cons_of_mem _ ?_)); done) | ((simp only [List.nil_append, List.cons_append, List.append_nil, List.append_assoc, List.mem_cons, List.mem_append, List.not_mem_nil, or_false, false_or] at hp ⊢); first | done | grind)) | fail)) (by with_reducible assumption) (by with_reducible assumption) (by omega) (by first | (with_reducible assumption) | rfl | fail) (by first | (with_reducible assumption) | omega | fail) ?_; k_whole); intro h' tk' t' F' N'; (try k_sweep)) | ((with_reducible show wpAny _ _ (call (Value.ref 112) _) _ _ _); k_here; k_dflt (refine draw_at (by k_asm) (by k_asm) (by k_asm) (by k_asm) (by rfl) (by (first | decide | ((try dsimp only [ktrTop, Around.deeper, Around.in1]); omega) | fail)) (by (first | decide | ((try dsimp only [ktrTop, Around.deeper, Around.in1]); omega) | fail)) (by k_asm) (by k_updF) (by with_reducible assumption) (by with_reducible assumption) (by omega) (by omega) ?_; k_whole); intro h' tk' vs' n' ns' x' t' F' N' hi' hl' x1'; (try k_sweep)) | ((with_reducible show wpAny _ _ (subscriptTail _ _ (Value.ref _) (Value.str _ _)) _ _ _); k_here; k_dflt (refine bd_item (knd := PySem.strKind _ _) (by k_asm) (by with_reducible assumption) (strKind_is _ _ _ _) (by with_reducible assumption) ?_ (by with_unfolding_all rfl); k_whole)) | ((with_reducible show wpAny _ _ (subscriptTail _ _ (Value.ref _) (Value.int _ _)) _ _ _); k_here; k_dflt (refine bd_item (knd := PySem.intKind _ _) (by k_asm) (by with_reducible assumption) (intKind_is _ _ _ _) (by with_reducible assumption) ?_ (by with_unfolding_all rfl); k_whole)) | fail) | ((first | (fail_if_success (with_reducible first | show wpAny _ _ (call (Value.ref _) _) _ _ _ | show wpAny _ _ (exec (Stmt.While _ _ _ _) _) _ _ _ | show wpAny _ _ (exec (Stmt.For _ _ _ _ _) _) _ _ _ | show wpAny _ _ (pyIter _) _ _ _ | show wpAny _ _ (setItem _ _ _) _ _ _ | show wpAny _ _ (eval (Expr.ListComp _ _ _ _) _) _ _ _ | show wpAny _ _ (exec (Stmt.Assign _ (Expr.ListComp _ _ _ _) _) _) _ _ _ | show InvPostG _ _ _ _ _ _ _ _ | show InvEndG _ _ _ _ _ _ | show OnG _ _ _ _ _ _ _ | show Fin _ _ _ _ _ _ | show KswEnd _ _ _ _ _ _ _ _ _ _ _ _ | show wpAny _ _ (call (Value.builtin "sorted") _) _ _ _ | show LCg.CompEnd _ _ _ _ _ _ _ _ _ _ _ _ _ _ | show LCg.CompSrc _ _ _ _ _ _ _ _ _ _ _ _ _ _ | show LCt.CompSrcT _ _ _ _ _ _ _ _ _ _ _ _ _ _ _)) | fail); (fail_if_success (with_reducible show wpAny _ _ (subscriptTail _ (PySem.Expr.Slice _ _ none _) _ _) _ _ _)); (fail_if_success (with_reducible show wpAny _ _ (binaryOp Operator.Add (Value.ref _) (Value.ref _)) _ _ _)); (fail_if_success (with_reducible show wpAny _ _ (compareOp .NotEq (Value.ref _) (Value.ref _)) _ _ _)); (fail_if_success (with_reducible show wpAny _ _ (compareOp .Eq (Value.ref _) (Value.ref _)) _ _ _)); first | walk1 | (dsimp only; (try k_fold); (first | (fail_if_success (with_reducible first | show wpAny _ _ (call (Value.ref _) _) _ _ _ | show wpAny _ _ (exec (Stmt.While _ _ _ _) _) _ _ _ | show wpAny _ _ (exec (Stmt.For _ _ _ _ _) _) _ _ _ | show wpAny _ _ (pyIter _) _ _ _ | show wpAny _ _ (setItem _ _ _) _ _ _ | show wpAny _ _ (eval (Expr.ListComp _ _ _ _) _) _ _ _ | show wpAny _ _ (exec (Stmt.Assign _ (Expr.ListComp _ _ _ _) _) _) _ _ _ | show InvPostG _ _ _ _ _ _ _ _ | show InvEndG _ _ _ _ _ _ | show OnG _ _ _ _ _ _ _ | show Fin _ _ _ _ _ _ | show KswEnd _ _ _ _ _ _ _ _ _ _ _ _ | show wpAny _ _ (call (Value.builtin "sorted") _) _ _ _ | show LCg.CompEnd _ _ _ _ _ _ _ _ _ _ _ _ _ _ | show LCg.CompSrc _ _ _ _ _ _ _ _ _ _ _ _ _ _ | show LCt.CompSrcT _ _ _ _ _ _ _ _ _ _ _ _ _ _ _)) | fail); walk1)) | (leave1; walk_say "STEP leave1"; try dsimp only) | fail "no step")) | fail)
                      have hsn : ((newMaps ks (mk rows)).map fun p => Dat.tuple [.int p.1, p.2]).take (i + 1) = ((newMaps ks (mk rows)).map fun p => Dat.tuple [.int p.1, p.2]).take i ++ [.tuple [.int k', stackD]] := by rw [List.take_add_one, List.getElem?_map, hk1]; rfl
                      (try k_unfold)
                      rename Fr _ _ _ _ => F7; rename News _ _ _ _ => N7
                      exact cend [_, _, _, _, _] tl6 c [_, _] F7 N7 (by lcg_off) off (.inr ⟨_, .head _, rfl, _, rfl⟩) ⟨_, rfl, by
                        rw [hsn]
                        exact (hJ.mono (Kn.sub fun q hq => .tail _ (.tail _ hq))).snoc (.tuple (.inr (.head _)) rfl rfl (.cons (.int _ _) (.cons (.list (.inr (.tail _ (.head _))) rfl rfl (hds.mono Kn.base)) .nil)))⟩
                  · intro zs c hJ
                    unfold LCg.FinE
                    intro D9 h9 tk9 F8 N8 off8
                    rw [List.take_of_length_le (by simp)] at hJ
                    clear F2 N2
                    (try dsimp only)
                    have hKd := kdMark
                    (first | ((try k_unmd); (try k_fold); repeat' (first | (k_unfold; (try dsimp only)) | (first | ((with_reducible show wpAny _ _ (call (Value.ref 131) _) _ _ _); k_here; k_dflt (refine goal_law (by k_asm) (by k_asm) (by k_asm) (by k_asm) (by rfl) (by (first | decide | ((try dsimp only [ktrTop, Around.deeper, Around.in1]); omega) | fail)) (by (first | decide | ((try dsimp only [ktrTop, Around.deeper, Around.in1]); omega) | fail)) (by k_asm) (by with_reducible assumption) (by (first | (intro p hp; first | (with_reducible (repeat' (first | exact hp | exact List.mem_append_left _ hp | exact List.mem_append_right _ hp | refine List.mem_cons_of_mem _ ?_)); done) | ((simp only [List.nil_append, List.cons_append, List.append_nil, List.append_assoc, List.mem_cons, List.mem_append, List.not_mem_nil, or_false, false_or] at hp ⊢); first | done | grind)) | fail)) (by with_reducible assumption) (by with_reducible assumption) (by omega) (by first | (with_reducible assumption) | rfl | fail) (by first | (with_reducible assumption) | omega | fail) ?_; k_whole); intro h' tk' t' F' N'; (try k_sweep)) | ((with_reducible show wpAny _ _ (call (Value.ref 112) _) _ _ _); k_here; k_dflt (refine draw_at (by k_asm) (by k_asm) (by k_asm) (by k_asm) (by rfl) (by (first | decide | ((try dsimp only [ktrTop, Around.deeper, Around.in1]); omega) | fail)) (by (first | decide | ((try dsimp only [ktrTop, Around.deeper, Around.in1]); omega) | fail)) (by k_asm) (by k_updF) (by with_reducible assumption) (by with_reducible assumption) (by omega) (by omega) ?_; k_whole); intro h' tk' vs' n' ns' x' t' F' N' hi' hl' x1'; (try k_sweep)) | ((with_reducible show wpAny _ _ (subscriptTail _ _ (Value.ref _) (Value.str _ _)) _ _ _); k_here; k_dflt (refine bd_item (knd := PySem.strKind _ _) (by k_asm) (by with_reducible assumption) (strKind_is _ _ _ _) (by with_reducible assumption) ?_ (by with_unfolding_all rfl); k_whole)) | ((with_reducible show wpAny _ _ (subscriptTail _ _ (Value.ref _) (Value.int _ _)) _ _ _); k_here; k_dflt (refine bd_item (knd := PySem.intKind _ _) (by k_asm) (by with_reducible assumption) (intKind_is _ _ _ _) (by with_reducible assumption) ?_ (by with_unfolding_all rfl); k_whole)) | fail) | ((first | (fail_if_success (with_reducible first | show wpAny _ _ (call (Value.ref _) _) _ _ _ | show wpAny _ _ (exec (Stmt.While _ _ _ _) _) _ _ _ | show wpAny _ _ (exec (Stmt.For _ _ _ _ _) _) _ _ _ | show wpAny _ _ (pyIter _) _ _ _ | show wpAny _ _ (setItem _ _ _) _ _ _ | show wpAny _ _ (eval (Expr.ListComp _ _ _ _) _) _ _ _ | show wpAny _ _ (exec (Stmt.Assign _ (Expr.ListComp _ _ _ _) _) _) _ _ _ | show InvPostG _ _ _ _ _ _ _ _ | show InvEndG _ _ _ _ _ _ | show OnG _ _ _ _ _ _ _ | show Fin _ _ _ _ _ _ | show KswEnd _ _ _ _ _ _ _ _ _ _ _ _ | show wpAny _ _ (call (Value.builtin "sorted") _) _ _ _ | show LCg.CompEnd _ _ _ _ _ _ _ _ _ _ _ _ _ _ | show LCg.CompSrc _ _ _ _ _ _ _ _ _ _ _ _ _ _ | show LCt.CompSrcT _ _ _ _ _ _ _ _ _ _ _ _ _ _ _)) | fail); (fail_if_success (with_reducible show wpAny _ _ (subscriptTail _ (PySem.Expr.Slice _ _ none _) _ _) _ _ _)); (fail_if_success (with_reducible show wpAny _ _ (binaryOp Operator.Add (Value.ref _) (Value.ref _)) _ _ _)); (fail_if_success (with_reducible show wpAny _ _ (compareOp .NotEq (Value.ref _) (Value.ref _)) _ _ _)); (fail_if_success (with_reducible show wpAny _ _ (compareOp .Eq (Value.ref _) (Value.ref _)) _ _ _)); first | walk1 | (dsimp only; (try k_fold); (first | (fail_if_success (with_reducible first | show wpAny _ _ (call (Value.ref _) _) _ _ _ | show wpAny _ _ (exec (Stmt.While _ _ _ _) _) _ _ _ | show wpAny _ _ (exec (Stmt.For _ _ _ _ _) _) _ _ _ | show wpAny _ _ (pyIter _) _ _ _ | show wpAny _ _ (setItem _ _ _) _ _ _ | show wpAny _ _ (eval (Expr.ListComp _ _ _ _) _) _ _ _ | show wpAny _ _ (exec (Stmt.Assign _ (Expr.ListComp _ _ _ _) _) _) _ _ _ | show InvPostG _ _ _ _ _ _ _ _ | show InvEndG _ _ _ _ _ _ | show OnG _ _ _ _ _ _ _ | show Fin _ _ _ _ _ _ | show KswEnd _ _ _ _ _ _ _ _ _ _ _ _ | show wpAny _ _ (call (Value.builtin "sorted") _) _ _ _ | show LCg.CompEnd _ _ _ _ _ _ _ _ _ _ _ _ _ _ | show LCg.CompSrc _ _ _ _ _ _ _ _ _ _ _ _ _ _ | show LCt.CompSrcT _ _ _ _ _ _ _ _ _ _ _ _ _ _ _)) | fail); walk1)) | (leave1; walk_say "STEP leave1"; try dsimp only) | fail "no step")) | fail)
                    rename Fr _ _ _ _ => F8; rename News _ _ _ _ => N8
                    refine ne_di (da := .list ((newMaps ks (mk rows)).map fun p => Dat.tuple [.int p.1, p.2])) (db := .list ((newMaps ks (mk rows)).map fun p => Dat.tuple [.int p.1, p.2])) ?_ ?_ (due_ok ks rows) (due_ok ks rows) ?_ rfl ?_
                    · exact .list (N8 _ (.head _)).1 rfl rfl (hJ.mono (knk hKI6 F8 N8 (by (first | (intro p hp; first | (with_reducible (repeat' (first | exact hp | exact List.mem_append_left _ hp | exact List.mem_append_right _ hp | refine List.mem_cons_of_mem _ ?_)); done) | ((simp only [List.nil_append, List.cons_append, List.append_nil, List.append_assoc, List.mem_cons, List.mem_append, List.not_mem_nil, or_false, false_or] at hp ⊢); first | done | grind)) | fail)) (by (first | (intro p hp; first | (with_reducible (repeat' (first | exact hp | exact List.mem_append_left _ hp | exact List.mem_append_right _ hp | refine List.mem_cons_of_mem _ ?_)); done) | ((simp only [List.nil_append, List.cons_append, List.append_nil, List.append_assoc, List.mem_cons, List.mem_append, List.not_mem_nil, or_false, false_or] at hp ⊢); first | done | grind)) | fail))))
                    · exact hdu.mono (hKI6.le F8 N8 (by (first | (intro p hp; first | (with_reducible (repeat' (first | exact hp | exact List.mem_append_left _ hp | exact List.mem_append_right _ hp | refine List.mem_cons_of_mem _ ?_)); done) | ((simp only [List.nil_append, List.cons_append, List.append_nil, List.append_assoc, List.mem_cons, List.mem_append, List.not_mem_nil, or_false, false_or] at hp ⊢); first | done | grind)) | fail)))
                    · show callerA.units + 3 + 64 < cLine
                      decide
                    (try dsimp only)
                    (first | ((try k_unmd); (try k_fold); repeat' (first | (k_unfold; (try dsimp only)) | (first | ((with_reducible show wpAny _ _ (call (Value.ref 131) _) _ _ _); k_here; k_dflt (refine goal_law (by k_asm) (by k_asm) (by k_asm) (by k_asm) (by rfl) (by (first | decide | ((try dsimp only [ktrTop, Around.deeper, Around.in1]); omega) | fail)) (by (first | decide | ((try dsimp only [ktrTop, Around.deeper, Around.in1]); omega) | fail)) (by k_asm) (by with_reducible assumption) (by (first | (intro p hp; first | (with_reducible (repeat' (first | exact hp | exact List.mem_append_left _ hp | exact List.mem_append_right _ hp | refine List.mem_cons_of_mem _ ?_)); done) | ((simp only [List.nil_append, List.cons_append, List.append_nil, List.append_assoc, List.mem_cons, List.mem_append, List.not_mem_nil, or_false, false_or] at hp ⊢); first | done | grind)) | fail)) (by with_reducible assumption) (by with_reducible assumption) (by omega) (by first | (with_reducible assumption) | rfl | fail) (by first | (with_reducible assumption) | omega | fail) ?_; k_whole); intro h' tk' t' F' N'; (try k_sweep)) | ((with_reducible show wpAny _ _ (call (Value.ref 112) _) _ _ _); k_here; k_dflt (refine draw_at (by k_asm) (by k_asm) (by k_asm) (by k_asm) (by rfl) (by (first | decide | ((try dsimp only [ktrTop, Around.deeper, Around.in1]); omega) | fail)) (by (first | decide | ((try dsimp only [ktrTop, Around.deeper, Around.in1]); omega) | fail)) (by k_asm) (by k_updF) (by with_reducible assumption) (by with_reducible assumption) (by omega) (by omega) ?_; k_whole); intro h' tk' vs' n' ns' x' t' F' N' hi' hl' x1'; (try k_sweep)) | ((with_reducible show wpAny _ _ (subscriptTail _ _ (Value.ref _) (Value.str _ _)) _ _ _); k_here; k_dflt (refine bd_item (knd := PySem.strKind _ _) (by k_asm) (by with_reducible assumption) (strKind_is _ _ _ _) (by with_reducible assumption) ?_ (by with_unfolding_all rfl); k_whole)) | ((with_reducible show wpAny _ _ (subscriptTail _ _ (Value.ref _) (Value.int _ _)) _ _ _); k_here; k_dflt (refine bd_item (knd := PySem.intKind _ _) (by k_asm) (by with_reducible assumption) (intKind_is _ _ _ _) (by with_reducible assumption) ?_ (by with_unfolding_all rfl); k_whole)) | fail) | ((first | (fail_if_success (with_reducible first | show wpAny _ _ (call (Value.ref _) _) _ _ _ | show wpAny _ _ (exec (Stmt.While _ _ _ _) _) _ _ _ | show wpAny _ _ (exec (Stmt.For _ _ _ _ _) _) _ _ _ | show wpAny _ _ (pyIter _) _ _ _ | show wpAny _ _ (setItem _ _ _) _ _ _ | show wpAny _ _ (eval (Expr.ListComp _ _ _ _) _) _ _ _ | show wpAny _ _ (exec (Stmt.Assign _ (Expr.ListComp _ _ _ _) _) _) _ _ _ | show InvPostG _ _ _ _ _ _ _ _ | show InvEndG _ _ _ _ _ _ | show OnG _ _ _ _ _ _ _ | show Fin _ _ _ _ _ _ | show KswEnd _ _ _ _ _ _ _ _ _ _ _ _ | show wpAny _ _ (call (Value.builtin "sorted") _) _ _ _ | show LCg.CompEnd _ _ _ _ _ _ _ _ _ _ _ _ _ _ | show LCg.CompSrc _ _ _ _ _ _ _ _ _ _ _ _ _ _ | show LCt.CompSrcT _ _ _ _ _ _ _ _ _ _ _ _ _ _ _)) | fail); (fail_if_success (with_reducible show wpAny _ _ (subscriptTail _ (PySem.Expr.Slice _ _ none _) _ _) _ _ _)); (fail_if_success (with_reducible show wpAny _ _ (binaryOp Operator.Add (Value.ref _) (Value.ref _)) _ _ _)); (fail_if_success (with_reducible show wpAny _ _ (compareOp .NotEq (Value.ref _) (Value.ref _)) _ _ _)); (fail_if_success (with_reducible show wpAny _ _ (compareOp .Eq (Value.ref _) (Value.ref _)) _ _ _)); first | walk1 | (dsimp only; (try k_fold); (first | (fail_if_success (with_reducible first | show wpAny _ _ (call (Value.ref _) _) _ _ _ | show wpAny _ _ (exec (Stmt.While _ _ _ _) _) _ _ _ | show wpAny _ _ (exec (Stmt.For _ _ _ _ _) _) _ _ _ | show wpAny _ _ (pyIter _) _ _ _ | show wpAny _ _ (setItem _ _ _) _ _ _ | show wpAny _ _ (eval (Expr.ListComp _ _ _ _) _) _ _ _ | show wpAny _ _ (exec (Stmt.Assign _ (Expr.ListComp _ _ _ _) _) _) _ _ _ | show InvPostG _ _ _ _ _ _ _ _ | show InvEndG _ _ _ _ _ _ | show OnG _ _ _ _ _ _ _ | show Fin _ _ _ _ _ _ | show KswEnd _ _ _ _ _ _ _ _ _ _ _ _ | show wpAny _ _ (call (Value.builtin "sorted") _) _ _ _ | show LCg.CompEnd _ _ _ _ _ _ _ _ _ _ _ _ _ _ | show LCg.CompSrc _ _ _ _ _ _ _ _ _ _ _ _ _ _ | show LCt.CompSrcT _ _ _ _ _ _ _ _ _ _ _ _ _ _ _)) | fail); walk1)) | (leave1; walk_say "STEP leave1"; try dsimp only) | fail "no step")) | fail)
                    rename Fr _ _ _ _ => F7; rename News _ _ _ _ => N7
                    replace N7 : News _ _ _ _ := fun p hp => N7 p (.tail _ (.tail _ hp))
                    k_dflt refine seen_ok (by k_asm) F7 (by k_asm) (by k_asm) rfl (by decide) (by decide) (O2.keeps (hKI6.le F7 N7 (by (first | (intro p hp; first | (with_reducible (repeat' (first | exact hp | exact List.mem_append_left _ hp | exact List.mem_append_right _ hp | refine List.mem_cons_of_mem _ ?_)); done) | ((simp only [List.nil_append, List.cons_append, List.append_nil, List.append_assoc, List.mem_cons, List.mem_append, List.not_mem_nil, or_false, false_or] at hp ⊢); first | done | grind)) | fail)))) rfl (newMaps_asc ks (mk_pairwise rows)) (newMaps_val _ _) (by have := mk_len rows; show (newMaps ks (mk rows)).length ≤ 50; omega) (by
                      have := fixes_len rows
                      have := newFixes_len ks (fixes rows)
                      have := newRows_total ks rows hks
                      simp only [odNew, List.forall_mem_cons, List.not_mem_nil, false_imp_iff, implies_true, and_true, List.length_cons, List.length_nil]
                      omega) (after F7 N7 ?_)
                    intro r10 h10 tk10 F8 N8 K8 hT
                    clear K8 F7 N7
                    have hc4 := four_cells (N := N8) (by assumption) (by assumption) (by assumption) (by assumption)
                    obtain ⟨K7, tl7, hK7, NT, hoff7, hKI7, hKK⟩ := resnap F8 N8 hKI6 (by (first | (intro p hp; first | (with_reducible (repeat' (first | exact hp | exact List.mem_append_left _ hp | exact List.mem_append_right _ hp | refine List.mem_cons_of_mem _ ?_)); done) | ((simp only [List.nil_append, List.cons_append, List.append_nil, List.append_assoc, List.mem_cons, List.mem_append, List.not_mem_nil, or_false, false_or] at hp ⊢); first | done | grind)) | fail)) hKn6 (none_four N8)
                    replace hT := hT.seq.mono (di_snap F8 hK7 hc4)
                    replace hE0 := hE0.mono hKK
                    have N9 := news_both (news_take 4 N8) NT
                    simp only [List.take_succ_cons, List.take_zero, List.cons_append, List.nil_append] at N9
                    clear N8 NT hKI6 hKn6 hKK hK7 hoff6 hJ hc4 hm5 hm6 hm7 hm8 hdu O2 Ob2 off8 hI2
                    (try dsimp only)
                    have hKd := kdMark
                    refine seen_parts (K := K7) hT ?_
                    intro at1 ts t9 ev hu1 hul hu9 hu2 hu3 hu4
                    clear hT
                    subst ev
                    refine seen_parts (K := K7) hE0 ?_
                    intro ae1 es9 e9 ev hw1 hwl hw9 hw2 hw3 hw4
                    clear hE0
                    subst ev
                    (first | ((try k_unmd); (try k_fold); repeat' (first | (k_unfold; (try dsimp only)) | (first | ((with_reducible show wpAny _ _ (call (Value.ref 131) _) _ _ _); k_here; k_dflt (refine goal_law (by k_asm) (by k_asm) (by k_asm) (by k_asm) (by rfl) (by (first | decide | ((try dsimp only [ktrTop, Around.deeper, Around.in1]); omega) | fail)) (by (first | decide | ((try dsimp only [ktrTop, Around.deeper, Around.in1]); omega) | fail)) (by k_asm) (by with_reducible assumption) (by (first | (intro p hp; first | (with_reducible (repeat' (first | exact hp | exact List.mem_append_left _ hp | exact List.mem_append_right _ hp | refine List.mem_cons_of_mem _ ?_)); done) | ((simp only [List.nil_append, List.cons_append, List.append_nil, List.append_assoc, List.mem_cons, List.mem_append, List.not_mem_nil, or_false, false_or] at hp ⊢); first | done | grind)) | fail)) (by with_reducible assumption) (by with_reducible assumption) (by omega) (by first | (with_reducible assumption) | rfl | fail) (by first | (with_reducible assumption) | omega | fail) ?_; k_whole); intro h' tk' t' F' N'; (try k_sweep)) | ((with_reducible show wpAny _ _ (call (Value.ref 112) _) _ _ _); k_here; k_dflt (refine draw_at (by k_asm) (by k_asm) (by k_asm) (by k_asm) (by rfl) (by (first | decide | ((try dsimp only [ktrTop, Around.deeper, Around.in1]); omega) | fail)) (by (first | decide | ((try dsimp only [ktrTop, Around.deeper, Around.in1]); omega) | fail)) (by k_asm) (by k_updF) (by with_reducible assumption) (by with_reducible assumption) (by omega) (by omega) ?_; k_whole); intro h' tk' vs' n' ns' x' t' F' N' hi' hl' x1'; (try k_sweep)) | ((with_reducible show wpAny _ _ (subscriptTail _ _ (Value.ref _) (Value.str _ _)) _ _ _); k_here; k_dflt (refine bd_item (knd := PySem.strKind _ _) (by k_asm) (by with_reducible assumption) (strKind_is _ _ _ _) (by with_reducible assumption) ?_ (by with_unfolding_all rfl); k_whole)) | ((with_reducible show wpAny _ _ (subscriptTail _ _ (Value.ref _) (Value.int _ _)) _ _ _); k_here; k_dflt (refine bd_item (knd := PySem.intKind _ _) (by k_asm) (by with_reducible assumption) (intKind_is _ _ _ _) (by with_reducible assumption) ?_ (by with_unfolding_all rfl); k_whole)) | fail) | ((first | (fail_if_success (with_reducible first | show wpAny _ _ (call (Value.ref _) _) _ _ _ | show wpAny _ _ (exec (Stmt.While _ _ _ _) _) _ _ _ | show wpAny _ _ (exec (Stmt.For _ _ _ _ _) _) _ _ _ | show wpAny _ _ (pyIter _) _ _ _ | show wpAny _ _ (setItem _ _ _) _ _ _ | show wpAny _ _ (eval (Expr.ListComp _ _ _ _) _) _ _ _ | show wpAny _ _ (exec (Stmt.Assign _ (Expr.ListComp _ _ _ _) _) _) _ _ _ | show InvPostG _ _ _ _ _ _ _ _ | show InvEndG _ _ _ _ _ _ | show OnG _ _ _ _ _ _ _ | show Fin _ _ _ _ _ _ | show KswEnd _ _ _ _ _ _ _ _ _ _ _ _ | show wpAny _ _ (call (Value.builtin "sorted") _) _ _ _ | show LCg.CompEnd _ _ _ _ _ _ _ _ _ _ _ _ _ _ | show LCg.CompSrc _ _ _ _ _ _ _ _ _ _ _ _ _ _ | show LCt.CompSrcT _ _ _ _ _ _ _ _ _ _ _ _ _ _ _)) | fail); (fail_if_success (with_reducible show wpAny _ _ (subscriptTail _ (PySem.Expr.Slice _ _ none _) _ _) _ _ _)); (fail_if_success (with_reducible show wpAny _ _ (binaryOp Operator.Add (Value.ref _) (Value.ref _)) _ _ _)); (fail_if_success (with_reducible show wpAny _ _ (compareOp .NotEq (Value.ref _) (Value.ref _)) _ _ _)); (fail_if_success (with_reducible show wpAny _ _ (compareOp .Eq (Value.ref _) (Value.ref _)) _ _ _)); first | walk1 | (dsimp only; (try k_fold); (first | (fail_if_success (with_reducible first | show wpAny _ _ (call (Value.ref _) _) _ _ _ | show wpAny _ _ (exec (Stmt.While _ _ _ _) _) _ _ _ | show wpAny _ _ (exec (Stmt.For _ _ _ _ _) _) _ _ _ | show wpAny _ _ (pyIter _) _ _ _ | show wpAny _ _ (setItem _ _ _) _ _ _ | show wpAny _ _ (eval (Expr.ListComp _ _ _ _) _) _ _ _ | show wpAny _ _ (exec (Stmt.Assign _ (Expr.ListComp _ _ _ _) _) _) _ _ _ | show InvPostG _ _ _ _ _ _ _ _ | show InvEndG _ _ _ _ _ _ | show OnG _ _ _ _ _ _ _ | show Fin _ _ _ _ _ _ | show KswEnd _ _ _ _ _ _ _ _ _ _ _ _ | show wpAny _ _ (call (Value.builtin "sorted") _) _ _ _ | show LCg.CompEnd _ _ _ _ _ _ _ _ _ _ _ _ _ _ | show LCg.CompSrc _ _ _ _ _ _ _ _ _ _ _ _ _ _ | show LCt.CompSrcT _ _ _ _ _ _ _ _ _ _ _ _ _ _ _)) | fail); walk1)) | (leave1; walk_say "STEP leave1"; try dsimp only) | fail "no step")) | fail)
                    rename Fr _ _ _ _ => F7; rename News _ _ _ _ => N7
                    dsimp only
                    k_dflt (refine' slice13a ?zF ?zN ?zt ?zl ?zhs ?zhg ?_)
                    case zF => exact F7
                    case zN => exact N7
                    case zt => exact IsTup.keeps hu1 (hKI7.le F7 N7 (by (first | (intro p hp; first | (with_reducible (repeat' (first | exact hp | exact List.mem_append_left _ hp | exact List.mem_append_right _ hp | refine List.mem_cons_of_mem _ ?_)); done) | ((simp only [List.nil_append, List.cons_append, List.append_nil, List.append_assoc, List.mem_cons, List.mem_append, List.not_mem_nil, or_false, false_or] at hp ⊢); first | done | grind)) | fail)))
                    case zl => exact hul
                    case zhs => with_unfolding_all rfl
                    case zhg => intro _; with_unfolding_all rfl
                    clear F7 N7
                    intro D' h' F' N' l1
                    k_lt l1
                    (first | ((try k_unmd); (try k_fold); repeat' (first | (k_unfold; (try dsimp only)) | (first | ((with_reducible show wpAny _ _ (call (Value.ref 131) _) _ _ _); k_here; k_dflt (refine goal_law (by k_asm) (by k_asm) (by k_asm) (by k_asm) (by rfl) (by (first | decide | ((try dsimp only [ktrTop, Around.deeper, Around.in1]); omega) | fail)) (by (first | decide | ((try dsimp only [ktrTop, Around.deeper, Around.in1]); omega) | fail)) (by k_asm) (by with_reducible assumption) (by (first | (intro p hp; first | (with_reducible (repeat' (first | exact hp | exact List.mem_append_left _ hp | exact List.mem_append_right _ hp | refine List.mem_cons_of_mem _ ?_)); done) | ((simp only [List.nil_append, List.cons_append, List.append_nil, List.append_assoc, List.mem_cons, List.mem_append, List.not_mem_nil, or_false, false_or] at hp ⊢); first | done | grind)) | fail)) (by with_reducible assumption) (by with_reducible assumption) (by omega) (by first | (with_reducible assumption) | rfl | fail) (by first | (with_reducible assumption) | omega | fail) ?_; k_whole); intro h' tk' t' F' N'; (try k_sweep)) | ((with_reducible show wpAny _ _ (call (Value.ref 112) _) _ _ _); k_here; k_dflt (refine draw_at (by k_asm) (by k_asm) (by k_asm) (by k_asm) (by rfl) (by (first | decide | ((try dsimp only [ktrTop, Around.deeper, Around.in1]); omega) | fail)) (by (first | decide | ((try dsimp only [ktrTop, Around.deeper, Around.in1]); omega) | fail)) (by k_asm) (by k_updF) (by with_reducible assumption) (by with_reducible assumption) (by omega) (by omega) ?_; k_whole); intro h' tk' vs' n' ns' x' t' F' N' hi' hl' x1'; (try k_sweep)) | ((with_reducible show wpAny _ _ (subscriptTail _ _ (Value.ref _) (Value.str _ _)) _ _ _); k_here; k_dflt (refine bd_item (knd := PySem.strKind _ _) (by k_asm) (by with_reducible assumption) (strKind_is _ _ _ _) (by with_reducible assumption) ?_ (by with_unfolding_all rfl); k_whole)) | ((with_reducible show wpAny _ _ (subscriptTail _ _ (Value.ref _) (Value.int _ _)) _ _ _); k_here; k_dflt (refine bd_item (knd := PySem.intKind _ _) (by k_asm) (by with_reducible assumption) (intKind_is _ _ _ _) (by with_reducible assumption) ?_ (by with_unfolding_all rfl); k_whole)) | fail) | ((first | (fail_if_success (with_reducible first | show wpAny _ _ (call (Value.ref _) _) _ _ _ | show wpAny _ _ (exec (Stmt.While _ _ _ _) _) _ _ _ | show wpAny _ _ (exec (Stmt.For _ _ _ _ _) _) _ _ _ | show wpAny _ _ (pyIter _) _ _ _ | show wpAny _ _ (setItem _ _ _) _ _ _ | show wpAny _ _ (eval (Expr.ListComp _ _ _ _) _) _ _ _ | show wpAny _ _ (exec (Stmt.Assign _ (Expr.ListComp _ _ _ _) _) _) _ _ _ | show InvPostG _ _ _ _ _ _ _ _ | show InvEndG _ _ _ _ _ _ | show OnG _ _ _ _ _ _ _ | show Fin _ _ _ _ _ _ | show KswEnd _ _ _ _ _ _ _ _ _ _ _ _ | show wpAny _ _ (call (Value.builtin "sorted") _) _ _ _ | show LCg.CompEnd _ _ _ _ _ _ _ _ _ _ _ _ _ _ | show LCg.CompSrc _ _ _ _ _ _ _ _ _ _ _ _ _ _ | show LCt.CompSrcT _ _ _ _ _ _ _ _ _ _ _ _ _ _ _)) | fail); (fail_if_success (with_reducible show wpAny _ _ (subscriptTail _ (PySem.Expr.Slice _ _ none _) _ _) _ _ _)); (fail_if_success (with_reducible show wpAny _ _ (binaryOp Operator.Add (Value.ref _) (Value.ref _)) _ _ _)); (fail_if_success (with_reducible show wpAny _ _ (compareOp .NotEq (Value.ref _) (Value.ref _)) _ _ _)); (fail_if_success (with_reducible show wpAny _ _ (compareOp .Eq (Value.ref _) (Value.ref _)) _ _ _)); first | walk1 | (dsimp only; (try k_fold); (first | (fail_if_success (with_reducible first | show wpAny _ _ (call (Value.ref _) _) _ _ _ | show wpAny _ _ (exec (Stmt.While _ _ _ _) _) _ _ _ | show wpAny _ _ (exec (Stmt.For _ _ _ _ _) _) _ _ _ | show wpAny _ _ (pyIter _) _ _ _ | show wpAny _ _ (setItem _ _ _) _ _ _ | show wpAny _ _ (eval (Expr.ListComp _ _ _ _) _) _ _ _ | show wpAny _ _ (exec (Stmt.Assign _ (Expr.ListComp _ _ _ _) _) _) _ _ _ | show InvPostG _ _ _ _ _ _ _ _ | show InvEndG _ _ _ _ _ _ | show OnG _ _ _ _ _ _ _ | show Fin _ _ _ _ _ _ | show KswEnd _ _ _ _ _ _ _ _ _ _ _ _ | show wpAny _ _ (call (Value.builtin "sorted") _) _ _ _ | show LCg.CompEnd _ _ _ _ _ _ _ _ _ _ _ _ _ _ | show LCg.CompSrc _ _ _ _ _ _ _ _ _ _ _ _ _ _ | show LCt.CompSrcT _ _ _ _ _ _ _ _ _ _ _ _ _ _ _)) | fail); walk1)) | (leave1; walk_say "STEP leave1"; try dsimp only) | fail "no step")) | fail)
                    rename Fr _ _ _ _ => F7; rename News _ _ _ _ => N7
                    dsimp only
                    k_dflt (refine' slice13a ?zF ?zN ?zt ?zl ?zhs ?zhg ?_)
                    case zF => exact F7
                    case zN => exact N7
                    case zt => exact IsTup.keeps hw1 (hKI7.le F7 N7 (by (first | (intro p hp; first | (with_reducible (repeat' (first | exact hp | exact List.mem_append_left _ hp | exact List.mem_append_right _ hp | refine List.mem_cons_of_mem _ ?_)); done) | ((simp only [List.nil_append, List.cons_append, List.append_nil, List.append_assoc, List.mem_cons, List.mem_append, List.not_mem_nil, or_false, false_or] at hp ⊢); first | done | grind)) | fail)))
                    case zl => exact hwl
                    case zhs => with_unfolding_all rfl
                    case zhg => intro _; with_unfolding_all rfl
                    clear F7 N7
                    intro D' h' F' N' l1
                    k_lt l1
                    (first | ((try k_unmd); (try k_fold); repeat' (first | (k_unfold; (try dsimp only)) | (first | ((with_reducible show wpAny _ _ (call (Value.ref 131) _) _ _ _); k_here; k_dflt (refine goal_law (by k_asm) (by k_asm) (by k_asm) (by k_asm) (by rfl) (by (first | decide | ((try dsimp only [ktrTop, Around.deeper, Around.in1]); omega) | fail)) (by (first | decide | ((try dsimp only [ktrTop, Around.deeper, Around.in1]); omega) | fail)) (by k_asm) (by with_reducible assumption) (by (first | (intro p hp; first | (with_reducible (repeat' (first | exact hp | exact List.mem_append_left _ hp | exact List.mem_append_right _ hp | refine List.mem_cons_of_mem _ ?_)); done) | ((simp only [List.nil_append, List.cons_append, List.append_nil, List.append_assoc, List.mem_cons, List.mem_append, List.not_mem_nil, or_false, false_or] at hp ⊢); first | done | grind)) | fail)) (by with_reducible assumption) (by with_reducible assumption) (by omega) (by first | (with_reducible assumption) | rfl | fail) (by first | (with_reducible assumption) | omega | fail) ?_; k_whole); intro h' tk' t' F' N'; (try k_sweep)) | ((with_reducible show wpAny _ _ (call (Value.ref 112) _) _ _ _); k_here; k_dflt (refine draw_at (by k_asm) (by k_asm) (by k_asm) (by k_asm) (by rfl) (by (first | decide | ((try dsimp only [ktrTop, Around.deeper, Around.in1]); omega) | fail)) (by (first | decide | ((try dsimp only [ktrTop, Around.deeper, Around.in1]); omega) | fail)) (by k_asm) (by k_updF) (by with_reducible assumption) (by with_reducible assumption) (by omega) (by omega) ?_; k_whole); intro h' tk' vs' n' ns' x' t' F' N' hi' hl' x1'; (try k_sweep)) | ((with_reducible show wpAny _ _ (subscriptTail _ _ (Value.ref _) (Value.str _ _)) _ _ _); k_here; k_dflt (refine bd_item (knd := PySem.strKind _ _) (by k_asm) (by with_reducible assumption) (strKind_is _ _ _ _) (by with_reducible assumption) ?_ (by with_unfolding_all rfl); k_whole)) | ((with_reducible show wpAny _ _ (subscriptTail _ _ (Value.ref _) (Value.int _ _)) _ _ _); k_here; k_dflt (refine bd_item (knd := PySem.intKind _ _) (by k_asm) (by with_reducible assumption) (intKind_is _ _ _ _) (by with_reducible assumption) ?_ (by with_unfolding_all rfl); k_whole)) | fail) | ((first | (fail_if_success (with_reducible first | show wpAny _ _ (call (Value.ref _) _) _ _ _ | show wpAny _ _ (exec (Stmt.While _ _ _ _) _) _ _ _ | show wpAny _ _ (exec (Stmt.For _ _ _ _ _) _) _ _ _ | show wpAny _ _ (pyIter _) _ _ _ | show wpAny _ _ (setItem _ _ _) _ _ _ | show wpAny _ _ (eval (Expr.ListComp _ _ _ _) _) _ _ _ | show wpAny _ _ (exec (Stmt.Assign _ (Expr.ListComp _ _ _ _) _) _) _ _ _ | show InvPostG _ _ _ _ _ _ _ _ | show InvEndG _ _ _ _ _ _ | show OnG _ _ _ _ _ _ _ | show Fin _ _ _ _ _ _ | show KswEnd _ _ _ _ _ _ _ _ _ _ _ _ | show wpAny _ _ (call (Value.builtin "sorted") _) _ _ _ | show LCg.CompEnd _ _ _ _ _ _ _ _ _ _ _ _ _ _ | show LCg.CompSrc _ _ _ _ _ _ _ _ _ _ _ _ _ _ | show LCt.CompSrcT _ _ _ _ _ _ _ _ _ _ _ _ _ _ _)) | fail); (fail_if_success (with_reducible show wpAny _ _ (subscriptTail _ (PySem.Expr.Slice _ _ none _) _ _) _ _ _)); (fail_if_success (with_reducible show wpAny _ _ (binaryOp Operator.Add (Value.ref _) (Value.ref _)) _ _ _)); (fail_if_success (with_reducible show wpAny _ _ (compareOp .NotEq (Value.ref _) (Value.ref _)) _ _ _)); (fail_if_success (with_reducible show wpAny _ _ (compareOp .Eq (Value.ref _) (Value.ref _)) _ _ _)); first | walk1 | (dsimp only; (try k_fold); (first | (fail_if_success (with_reducible first | show wpAny _ _ (call (Value.ref _) _) _ _ _ | show wpAny _ _ (exec (Stmt.While _ _ _ _) _) _ _ _ | show wpAny _ _ (exec (Stmt.For _ _ _ _ _) _) _ _ _ | show wpAny _ _ (pyIter _) _ _ _ | show wpAny _ _ (setItem _ _ _) _ _ _ | show wpAny _ _ (eval (Expr.ListComp _ _ _ _) _) _ _ _ | show wpAny _ _ (exec (Stmt.Assign _ (Expr.ListComp _ _ _ _) _) _) _ _ _ | show InvPostG _ _ _ _ _ _ _ _ | show InvEndG _ _ _ _ _ _ | show OnG _ _ _ _ _ _ _ | show Fin _ _ _ _ _ _ | show KswEnd _ _ _ _ _ _ _ _ _ _ _ _ | show wpAny _ _ (call (Value.builtin "sorted") _) _ _ _ | show LCg.CompEnd _ _ _ _ _ _ _ _ _ _ _ _ _ _ | show LCg.CompSrc _ _ _ _ _ _ _ _ _ _ _ _ _ _ | show LCt.CompSrcT _ _ _ _ _ _ _ _ _ _ _ _ _ _ _)) | fail); walk1)) | (leave1; walk_say "STEP leave1"; try dsimp only) | fail "no step")) | fail)
                    rename Fr _ _ _ _ => F8; rename News _ _ _ _ => N8
                    refine eq_di (da := .tuple [.str (Str.ofString "M"), .int 7, .list [.tuple [.str (Str.ofString "N"), .int 9]]]) (db := .tuple [.str (Str.ofString "M"), .int 7, .list [.tuple [.str (Str.ofString "N"), .int 9]]]) ?_ ?_ head_ok head_ok ?_ rfl ?_
                    · exact .tuple (N8 _ (.tail _ (.head _))).1 rfl rfl (hu2.mono (hKI7.le F8 N8 (by (first | (intro p hp; first | (with_reducible (repeat' (first | exact hp | exact List.mem_append_left _ hp | exact List.mem_append_right _ hp | refine List.mem_cons_of_mem _ ?_)); done) | ((simp only [List.nil_append, List.cons_append, List.append_nil, List.append_assoc, List.mem_cons, List.mem_append, List.not_mem_nil, or_false, false_or] at hp ⊢); first | done | grind)) | fail))))
                    · exact .tuple (N8 _ (.head _)).1 rfl rfl (hw2.mono (hKI7.le F8 N8 (by (first | (intro p hp; first | (with_reducible (repeat' (first | exact hp | exact List.mem_append_left _ hp | exact List.mem_append_right _ hp | refine List.mem_cons_of_mem _ ?_)); done) | ((simp only [List.nil_append, List.cons_append, List.append_nil, List.append_assoc, List.mem_cons, List.mem_append, List.not_mem_nil, or_false, false_or] at hp ⊢); first | done | grind)) | fail))))
                    · show callerA.units + 3 + 64 < cLine
                      decide
                    (first | ((try k_unmd); (try k_fold); repeat' (first | (k_unfold; (try dsimp only)) | (first | ((with_reducible show wpAny _ _ (call (Value.ref 131) _) _ _ _); k_here; k_dflt (refine goal_law (by k_asm) (by k_asm) (by k_asm) (by k_asm) (by rfl) (by (first | decide | ((try dsimp only [ktrTop, Around.deeper, Around.in1]); omega) | fail)) (by (first | decide | ((try dsimp only [ktrTop, Around.deeper, Around.in1]); omega) | fail)) (by k_asm) (by with_reducible assumption) (by (first | (intro p hp; first | (with_reducible (repeat' (first | exact hp | exact List.mem_append_left _ hp | exact List.mem_append_right _ hp | refine List.mem_cons_of_mem _ ?_)); done) | ((simp only [List.nil_append, List.cons_append, List.append_nil, List.append_assoc, List.mem_cons, List.mem_append, List.not_mem_nil, or_false, false_or] at hp ⊢); first | done | grind)) | fail)) (by with_reducible assumption) (by with_reducible assumption) (by omega) (by first | (with_reducible assumption) | rfl | fail) (by first | (with_reducible assumption) | omega | fail) ?_; k_whole); intro h' tk' t' F' N'; (try k_sweep)) | ((with_reducible show wpAny _ _ (call (Value.ref 112) _) _ _ _); k_here; k_dflt (refine draw_at (by k_asm) (by k_asm) (by k_asm) (by k_asm) (by rfl) (by (first | decide | ((try dsimp only [ktrTop, Around.deeper, Around.in1]); omega) | fail)) (by (first | decide | ((try dsimp only [ktrTop, Around.deeper, Around.in1]); omega) | fail)) (by k_asm) (by k_updF) (by with_reducible assumption) (by with_reducible assumption) (by omega) (by omega) ?_; k_whole); intro h' tk' vs' n' ns' x' t' F' N' hi' hl' x1'; (try k_sweep)) | ((with_reducible show wpAny _ _ (subscriptTail _ _ (Value.ref _) (Value.str _ _)) _ _ _); k_here; k_dflt (refine bd_item (knd := PySem.strKind _ _) (by k_asm) (by with_reducible assumption) (strKind_is _ _ _ _) (by with_reducible assumption) ?_ (by with_unfolding_all rfl); k_whole)) | ((with_reducible show wpAny _ _ (subscriptTail _ _ (Value.ref _) (Value.int _ _)) _ _ _); k_here; k_dflt (refine bd_item (knd := PySem.intKind _ _) (by k_asm) (by with_reducible assumption) (intKind_is _ _ _ _) (by with_reducible assumption) ?_ (by with_unfolding_all rfl); k_whole)) | fail) | ((first | (fail_if_success (with_reducible first | show wpAny _ _ (call (Value.ref _) _) _ _ _ | show wpAny _ _ (exec (Stmt.While _ _ _ _) _) _ _ _ | show wpAny _ _ (exec (Stmt.For _ _ _ _ _) _) _ _ _ | show wpAny _ _ (pyIter _) _ _ _ | show wpAny _ _ (setItem _ _ _) _ _ _ | show wpAny _ _ (eval (Expr.ListComp _ _ _ _) _) _ _ _ | show wpAny _ _ (exec (Stmt.Assign _ (Expr.ListComp _ _ _ _) _) _) _ _ _ | show InvPostG _ _ _ _ _ _ _ _ | show InvEndG _ _ _ _ _ _ | show OnG _ _ _ _ _ _ _ | show Fin _ _ _ _ _ _ | show KswEnd _ _ _ _ _ _ _ _ _ _ _ _ | show wpAny _ _ (call (Value.builtin "sorted") _) _ _ _ | show LCg.CompEnd _ _ _ _ _ _ _ _ _ _ _ _ _ _ | show LCg.CompSrc _ _ _ _ _ _ _ _ _ _ _ _ _ _ | show LCt.CompSrcT _ _ _ _ _ _ _ _ _ _ _ _ _ _ _)) | fail); (fail_if_success (with_reducible show wpAny _ _ (subscriptTail _ (PySem.Expr.Slice _ _ none _) _ _) _ _ _)); (fail_if_success (with_reducible show wpAny _ _ (binaryOp Operator.Add (Value.ref _) (Value.ref _)) _ _ _)); (fail_if_success (with_reducible show wpAny _ _ (compareOp .NotEq (Value.ref _) (Value.ref _)) _ _ _)); (fail_if_success (with_reducible show wpAny _ _ (compareOp .Eq (Value.ref _) (Value.ref _)) _ _ _)); first | walk1 | (dsimp only; (try k_fold); (first | (fail_if_success (with_reducible first | show wpAny _ _ (call (Value.ref _) _) _ _ _ | show wpAny _ _ (exec (Stmt.While _ _ _ _) _) _ _ _ | show wpAny _ _ (exec (Stmt.For _ _ _ _ _) _) _ _ _ | show wpAny _ _ (pyIter _) _ _ _ | show wpAny _ _ (setItem _ _ _) _ _ _ | show wpAny _ _ (eval (Expr.ListComp _ _ _ _) _) _ _ _ | show wpAny _ _ (exec (Stmt.Assign _ (Expr.ListComp _ _ _ _) _) _) _ _ _ | show InvPostG _ _ _ _ _ _ _ _ | show InvEndG _ _ _ _ _ _ | show OnG _ _ _ _ _ _ _ | show Fin _ _ _ _ _ _ | show KswEnd _ _ _ _ _ _ _ _ _ _ _ _ | show wpAny _ _ (call (Value.builtin "sorted") _) _ _ _ | show LCg.CompEnd _ _ _ _ _ _ _ _ _ _ _ _ _ _ | show LCg.CompSrc _ _ _ _ _ _ _ _ _ _ _ _ _ _ | show LCt.CompSrcT _ _ _ _ _ _ _ _ _ _ _ _ _ _ _)) | fail); walk1)) | (leave1; walk_say "STEP leave1"; try dsimp only) | fail "no step")) | fail)
                    rename Fr _ _ _ _ => F7; rename News _ _ _ _ => N7
                    dsimp only
                    k_dflt (refine' slice13b ?zF ?zN ?zt ?zl ?zhs ?zhg ?_)
                    case zF => exact F7
                    case zN => exact N7
                    case zt => exact IsTup.keeps hu1 (hKI7.le F7 N7 (by (first | (intro p hp; first | (with_reducible (repeat' (first | exact hp | exact List.mem_append_left _ hp | exact List.mem_append_right _ hp | refine List.mem_cons_of_mem _ ?_)); done) | ((simp only [List.nil_append, List.cons_append, List.append_nil, List.append_assoc, List.mem_cons, List.mem_append, List.not_mem_nil, or_false, false_or] at hp ⊢); first | done | grind)) | fail)))
                    case zl => exact hul
                    case zhs => with_unfolding_all rfl
                    case zhg => intro _; with_unfolding_all rfl
                    clear F7 N7
                    intro D' h' F' N' l1
                    k_lt l1
                    (first | ((try k_unmd); (try k_fold); repeat' (first | (k_unfold; (try dsimp only)) | (first | ((with_reducible show wpAny _ _ (call (Value.ref 131) _) _ _ _); k_here; k_dflt (refine goal_law (by k_asm) (by k_asm) (by k_asm) (by k_asm) (by rfl) (by (first | decide | ((try dsimp only [ktrTop, Around.deeper, Around.in1]); omega) | fail)) (by (first | decide | ((try dsimp only [ktrTop, Around.deeper, Around.in1]); omega) | fail)) (by k_asm) (by with_reducible assumption) (by (first | (intro p hp; first | (with_reducible (repeat' (first | exact hp | exact List.mem_append_left _ hp | exact List.mem_append_right _ hp | refine List.mem_cons_of_mem _ ?_)); done) | ((simp only [List.nil_append, List.cons_append, List.append_nil, List.append_assoc, List.mem_cons, List.mem_append, List.not_mem_nil, or_false, false_or] at hp ⊢); first | done | grind)) | fail)) (by with_reducible assumption) (by with_reducible assumption) (by omega) (by first | (with_reducible assumption) | rfl | fail) (by first | (with_reducible assumption) | omega | fail) ?_; k_whole); intro h' tk' t' F' N'; (try k_sweep)) | ((with_reducible show wpAny _ _ (call (Value.ref 112) _) _ _ _); k_here; k_dflt (refine draw_at (by k_asm) (by k_asm) (by k_asm) (by k_asm) (by rfl) (by (first | decide | ((try dsimp only [ktrTop, Around.deeper, Around.in1]); omega) | fail)) (by (first | decide | ((try dsimp only [ktrTop, Around.deeper, Around.in1]); omega) | fail)) (by k_asm) (by k_updF) (by with_reducible assumption) (by with_reducible assumption) (by omega) (by omega) ?_; k_whole); intro h' tk' vs' n' ns' x' t' F' N' hi' hl' x1'; (try k_sweep)) | ((with_reducible show wpAny _ _ (subscriptTail _ _ (Value.ref _) (Value.str _ _)) _ _ _); k_here; k_dflt (refine bd_item (knd := PySem.strKind _ _) (by k_asm) (by with_reducible assumption) (strKind_is _ _ _ _) (by with_reducible assumption) ?_ (by with_unfolding_all rfl); k_whole)) | ((with_reducible show wpAny _ _ (subscriptTail _ _ (Value.ref _) (Value.int _ _)) _ _ _); k_here; k_dflt (refine bd_item (knd := PySem.intKind _ _) (by k_asm) (by with_reducible assumption) (intKind_is _ _ _ _) (by with_reducible assumption) ?_ (by with_unfolding_all rfl); k_whole)) | fail) | ((first | (fail_if_success (with_reducible first | show wpAny _ _ (call (Value.ref _) _) _ _ _ | show wpAny _ _ (exec (Stmt.While _ _ _ _) _) _ _ _ | show wpAny _ _ (exec (Stmt.For _ _ _ _ _) _) _ _ _ | show wpAny _ _ (pyIter _) _ _ _ | show wpAny _ _ (setItem _ _ _) _ _ _ | show wpAny _ _ (eval (Expr.ListComp _ _ _ _) _) _ _ _ | show wpAny _ _ (exec (Stmt.Assign _ (Expr.ListComp _ _ _ _) _) _) _ _ _ | show InvPostG _ _ _ _ _ _ _ _ | show InvEndG _ _ _ _ _ _ | show OnG _ _ _ _ _ _ _ | show Fin _ _ _ _ _ _ | show KswEnd _ _ _ _ _ _ _ _ _ _ _ _ | show wpAny _ _ (call (Value.builtin "sorted") _) _ _ _ | show LCg.CompEnd _ _ _ _ _ _ _ _ _ _ _ _ _ _ | show LCg.CompSrc _ _ _ _ _ _ _ _ _ _ _ _ _ _ | show LCt.CompSrcT _ _ _ _ _ _ _ _ _ _ _ _ _ _ _)) | fail); (fail_if_success (with_reducible show wpAny _ _ (subscriptTail _ (PySem.Expr.Slice _ _ none _) _ _) _ _ _)); (fail_if_success (with_reducible show wpAny _ _ (binaryOp Operator.Add (Value.ref _) (Value.ref _)) _ _ _)); (fail_if_success (with_reducible show wpAny _ _ (compareOp .NotEq (Value.ref _) (Value.ref _)) _ _ _)); (fail_if_success (with_reducible show wpAny _ _ (compareOp .Eq (Value.ref _) (Value.ref _)) _ _ _)); first | walk1 | (dsimp only; (try k_fold); (first | (fail_if_success (with_reducible first | show wpAny _ _ (call (Value.ref _) _) _ _ _ | show wpAny _ _ (exec (Stmt.While _ _ _ _) _) _ _ _ | show wpAny _ _ (exec (Stmt.For _ _ _ _ _) _) _ _ _ | show wpAny _ _ (pyIter _) _ _ _ | show wpAny _ _ (setItem _ _ _) _ _ _ | show wpAny _ _ (eval (Expr.ListComp _ _ _ _) _) _ _ _ | show wpAny _ _ (exec (Stmt.Assign _ (Expr.ListComp _ _ _ _) _) _) _ _ _ | show InvPostG _ _ _ _ _ _ _ _ | show InvEndG _ _ _ _ _ _ | show OnG _ _ _ _ _ _ _ | show Fin _ _ _ _ _ _ | show KswEnd _ _ _ _ _ _ _ _ _ _ _ _ | show wpAny _ _ (call (Value.builtin "sorted") _) _ _ _ | show LCg.CompEnd _ _ _ _ _ _ _ _ _ _ _ _ _ _ | show LCg.CompSrc _ _ _ _ _ _ _ _ _ _ _ _ _ _ | show LCt.CompSrcT _ _ _ _ _ _ _ _ _ _ _ _ _ _ _)) | fail); walk1)) | (leave1; walk_say "STEP leave1"; try dsimp only) | fail "no step")) | fail)
                    rename Fr _ _ _ _ => F7; rename News _ _ _ _ => N7
                    dsimp only
                    k_dflt (refine' slice13b ?zF ?zN ?zt ?zl ?zhs ?zhg ?_)
                    case zF => exact F7
                    case zN => exact N7
                    case zt => exact IsTup.keeps hw1 (hKI7.le F7 N7 (by (first | (intro p hp; first | (with_reducible (repeat' (first | exact hp | exact List.mem_append_left _ hp | exact List.mem_append_right _ hp | refine List.mem_cons_of_mem _ ?_)); done) | ((simp only [List.nil_append, List.cons_append, List.append_nil, List.append_assoc, List.mem_cons, List.mem_append, List.not_mem_nil, or_false, false_or] at hp ⊢); first | done | grind)) | fail)))
                    case zl => exact hwl
                    case zhs => with_unfolding_all rfl
                    case zhg => intro _; with_unfolding_all rfl
                    clear F7 N7
                    intro D' h' F' N' l1
                    k_lt l1
                    (first | ((try k_unmd); (try k_fold); repeat' (first | (k_unfold; (try dsimp only)) | (first | ((with_reducible show wpAny _ _ (call (Value.ref 131) _) _ _ _); k_here; k_dflt (refine goal_law (by k_asm) (by k_asm) (by k_asm) (by k_asm) (by rfl) (by (first | decide | ((try dsimp only [ktrTop, Around.deeper, Around.in1]); omega) | fail)) (by (first | decide | ((try dsimp only [ktrTop, Around.deeper, Around.in1]); omega) | fail)) (by k_asm) (by with_reducible assumption) (by (first | (intro p hp; first | (with_reducible (repeat' (first | exact hp | exact List.mem_append_left _ hp | exact List.mem_append_right _ hp | refine List.mem_cons_of_mem _ ?_)); done) | ((simp only [List.nil_append, List.cons_append, List.append_nil, List.append_assoc, List.mem_cons, List.mem_append, List.not_mem_nil, or_false, false_or] at hp ⊢); first | done | grind)) | fail)) (by with_reducible assumption) (by with_reducible assumption) (by omega) (by first | (with_reducible assumption) | rfl | fail) (by first | (with_reducible assumption) | omega | fail) ?_; k_whole); intro h' tk' t' F' N'; (try k_sweep)) | ((with_reducible show wpAny _ _ (call (Value.ref 112) _) _ _ _); k_here; k_dflt (refine draw_at (by k_asm) (by k_asm) (by k_asm) (by k_asm) (by rfl) (by (first | decide | ((try dsimp only [ktrTop, Around.deeper, Around.in1]); omega) | fail)) (by (first | decide | ((try dsimp only [ktrTop, Around.deeper, Around.in1]); omega) | fail)) (by k_asm) (by k_updF) (by with_reducible assumption) (by with_reducible assumption) (by omega) (by omega) ?_; k_whole); intro h' tk' vs' n' ns' x' t' F' N' hi' hl' x1'; (try k_sweep)) | ((with_reducible show wpAny _ _ (subscriptTail _ _ (Value.ref _) (Value.str _ _)) _ _ _); k_here; k_dflt (refine bd_item (knd := PySem.strKind _ _) (by k_asm) (by with_reducible assumption) (strKind_is _ _ _ _) (by with_reducible assumption) ?_ (by with_unfolding_all rfl); k_whole)) | ((with_reducible show wpAny _ _ (subscriptTail _ _ (Value.ref _) (Value.int _ _)) _ _ _); k_here; k_dflt (refine bd_item (knd := PySem.intKind _ _) (by k_asm) (by with_reducible assumption) (intKind_is _ _ _ _) (by with_reducible assumption) ?_ (by with_unfolding_all rfl); k_whole)) | fail) | ((first | (fail_if_success (with_reducible first | show wpAny _ _ (call (Value.ref _) _) _ _ _ | show wpAny _ _ (exec (Stmt.While _ _ _ _) _) _ _ _ | show wpAny _ _ (exec (Stmt.For _ _ _ _ _) _) _ _ _ | show wpAny _ _ (pyIter _) _ _ _ | show wpAny _ _ (setItem _ _ _) _ _ _ | show wpAny _ _ (eval (Expr.ListComp _ _ _ _) _) _ _ _ | show wpAny _ _ (exec (Stmt.Assign _ (Expr.ListComp _ _ _ _) _) _) _ _ _ | show InvPostG _ _ _ _ _ _ _ _ | show InvEndG _ _ _ _ _ _ | show OnG _ _ _ _ _ _ _ | show Fin _ _ _ _ _ _ | show KswEnd _ _ _ _ _ _ _ _ _ _ _ _ | show wpAny _ _ (call (Value.builtin "sorted") _) _ _ _ | show LCg.CompEnd _ _ _ _ _ _ _ _ _ _ _ _ _ _ | show LCg.CompSrc _ _ _ _ _ _ _ _ _ _ _ _ _ _ | show LCt.CompSrcT _ _ _ _ _ _ _ _ _ _ _ _ _ _ _)) | fail); (fail_if_success (with_reducible show wpAny _ _ (subscriptTail _ (PySem.Expr.Slice _ _ none _) _ _) _ _ _)); (fail_if_success (with_reducible show wpAny _ _ (binaryOp Operator.Add (Value.ref _) (Value.ref _)) _ _ _)); (fail_if_success (with_reducible show wpAny _ _ (compareOp .NotEq (Value.ref _) (Value.ref _)) _ _ _)); (fail_if_success (with_reducible show wpAny _ _ (compareOp .Eq (Value.ref _) (Value.ref _)) _ _ _)); first | walk1 | (dsimp only; (try k_fold); (first | (fail_if_success (with_reducible first | show wpAny _ _ (call (Value.ref _) _) _ _ _ | show wpAny _ _ (exec (Stmt.While _ _ _ _) _) _ _ _ | show wpAny _ _ (exec (Stmt.For _ _ _ _ _) _) _ _ _ | show wpAny _ _ (pyIter _) _ _ _ | show wpAny _ _ (setItem _ _ _) _ _ _ | show wpAny _ _ (eval (Expr.ListComp _ _ _ _) _) _ _ _ | show wpAny _ _ (exec (Stmt.Assign _ (Expr.ListComp _ _ _ _) _) _) _ _ _ | show InvPostG _ _ _ _ _ _ _ _ | show InvEndG _ _ _ _ _ _ | show OnG _ _ _ _ _ _ _ | show Fin _ _ _ _ _ _ | show KswEnd _ _ _ _ _ _ _ _ _ _ _ _ | show wpAny _ _ (call (Value.builtin "sorted") _) _ _ _ | show LCg.CompEnd _ _ _ _ _ _ _ _ _ _ _ _ _ _ | show LCg.CompSrc _ _ _ _ _ _ _ _ _ _ _ _ _ _ | show LCt.CompSrcT _ _ _ _ _ _ _ _ _ _ _ _ _ _ _)) | fail); walk1)) | (leave1; walk_say "STEP leave1"; try dsimp only) | fail "no step")) | fail)
                    rename Fr _ _ _ _ => F8; rename News _ _ _ _ => N8
                    refine eq_di (da := .tuple [.int 16, .list [.tuple [.int 0, .int 5]], .list [.tuple [.int 4, .int 0, .int 0]]]) (db := .tuple [.int 16, .list [.tuple [.int 0, .int 5]], .list [.tuple [.int 4, .int 0, .int 0]]]) ?_ ?_ data_ok data_ok ?_ rfl ?_
                    · exact .tuple (N8 _ (.tail _ (.head _))).1 rfl rfl (hu3.mono (hKI7.le F8 N8 (by (first | (intro p hp; first | (with_reducible (repeat' (first | exact hp | exact List.mem_append_left _ hp | exact List.mem_append_right _ hp | refine List.mem_cons_of_mem _ ?_)); done) | ((simp only [List.nil_append, List.cons_append, List.append_nil, List.append_assoc, List.mem_cons, List.mem_append, List.not_mem_nil, or_false, false_or] at hp ⊢); first | done | grind)) | fail))))
                    · exact .tuple (N8 _ (.head _)).1 rfl rfl (hw3.mono (hKI7.le F8 N8 (by (first | (intro p hp; first | (with_reducible (repeat' (first | exact hp | exact List.mem_append_left _ hp | exact List.mem_append_right _ hp | refine List.mem_cons_of_mem _ ?_)); done) | ((simp only [List.nil_append, List.cons_append, List.append_nil, List.append_assoc, List.mem_cons, List.mem_append, List.not_mem_nil, or_false, false_or] at hp ⊢); first | done | grind)) | fail))))
                    · show callerA.units + 3 + 64 < cLine
                      decide
                    have hui : seqIndex? 9 ts.length = some 9 := by rw [hul]; rfl
                    have hwi : seqIndex? 9 es9.length = some 9 := by rw [hwl]; rfl
                    (first | ((try k_unmd); (try k_fold); repeat' (first | (k_unfold; (try dsimp only)) | (first | ((with_reducible show wpAny _ _ (call (Value.ref 131) _) _ _ _); k_here; k_dflt (refine goal_law (by k_asm) (by k_asm) (by k_asm) (by k_asm) (by rfl) (by (first | decide | ((try dsimp only [ktrTop, Around.deeper, Around.in1]); omega) | fail)) (by (first | decide | ((try dsimp only [ktrTop, Around.deeper, Around.in1]); omega) | fail)) (by k_asm) (by with_reducible assumption) (by (first | (intro p hp; first | (with_reducible (repeat' (first | exact hp | exact List.mem_append_left _ hp | exact List.mem_append_right _ hp | refine List.mem_cons_of_mem _ ?_)); done) | ((simp only [List.nil_append, List.cons_append, List.append_nil, List.append_assoc, List.mem_cons, List.mem_append, List.not_mem_nil, or_false, false_or] at hp ⊢); first | done | grind)) | fail)) (by with_reducible assumption) (by with_reducible assumption) (by omega) (by first | (with_reducible assumption) | rfl | fail) (by first | (with_reducible assumption) | omega | fail) ?_; k_whole); intro h' tk' t' F' N'; (try k_sweep)) | ((with_reducible show wpAny _ _ (call (Value.ref 112) _) _ _ _); k_here; k_dflt (refine draw_at (by k_asm) (by k_asm) (by k_asm) (by k_asm) (by rfl) (by (first | decide | ((try dsimp only [ktrTop, Around.deeper, Around.in1]); omega) | fail)) (by (first | decide | ((try dsimp only [ktrTop, Around.deeper, Around.in1]); omega) | fail)) (by k_asm) (by k_updF) (by with_reducible assumption) (by with_reducible assumption) (by omega) (by omega) ?_; k_whole); intro h' tk' vs' n' ns' x' t' F' N' hi' hl' x1'; (try k_sweep)) | ((with_reducible show wpAny _ _ (subscriptTail _ _ (Value.ref _) (Value.str _ _)) _ _ _); k_here; k_dflt (refine bd_item (knd := PySem.strKind _ _) (by k_asm) (by with_reducible assumption) (strKind_is _ _ _ _) (by with_reducible assumption) ?_ (by with_unfolding_all rfl); k_whole)) | ((with_reducible show wpAny _ _ (subscriptTail _ _ (Value.ref _) (Value.int _ _)) _ _ _); k_here; k_dflt (refine bd_item (knd := PySem.intKind _ _) (by k_asm) (by with_reducible assumption) (intKind_is _ _ _ _) (by with_reducible assumption) ?_ (by with_unfolding_all rfl); k_whole)) | fail) | ((first | (fail_if_success (with_reducible first | show wpAny _ _ (call (Value.ref _) _) _ _ _ | show wpAny _ _ (exec (Stmt.While _ _ _ _) _) _ _ _ | show wpAny _ _ (exec (Stmt.For _ _ _ _ _) _) _ _ _ | show wpAny _ _ (pyIter _) _ _ _ | show wpAny _ _ (setItem _ _ _) _ _ _ | show wpAny _ _ (eval (Expr.ListComp _ _ _ _) _) _ _ _ | show wpAny _ _ (exec (Stmt.Assign _ (Expr.ListComp _ _ _ _) _) _) _ _ _ | show InvPostG _ _ _ _ _ _ _ _ | show InvEndG _ _ _ _ _ _ | show OnG _ _ _ _ _ _ _ | show Fin _ _ _ _ _ _ | show KswEnd _ _ _ _ _ _ _ _ _ _ _ _ | show wpAny _ _ (call (Value.builtin "sorted") _) _ _ _ | show LCg.CompEnd _ _ _ _ _ _ _ _ _ _ _ _ _ _ | show LCg.CompSrc _ _ _ _ _ _ _ _ _ _ _ _ _ _ | show LCt.CompSrcT _ _ _ _ _ _ _ _ _ _ _ _ _ _ _)) | fail); (fail_if_success (with_reducible show wpAny _ _ (subscriptTail _ (PySem.Expr.Slice _ _ none _) _ _) _ _ _)); (fail_if_success (with_reducible show wpAny _ _ (binaryOp Operator.Add (Value.ref _) (Value.ref _)) _ _ _)); (fail_if_success (with_reducible show wpAny _ _ (compareOp .NotEq (Value.ref _) (Value.ref _)) _ _ _)); (fail_if_success (with_reducible show wpAny _ _ (compareOp .Eq (Value.ref _) (Value.ref _)) _ _ _)); first | walk1 | (dsimp only; (try k_fold); (first | (fail_if_success (with_reducible first | show wpAny _ _ (call (Value.ref _) _) _ _ _ | show wpAny _ _ (exec (Stmt.While _ _ _ _) _) _ _ _ | show wpAny _ _ (exec (Stmt.For _ _ _ _ _) _) _ _ _ | show wpAny _ _ (pyIter _) _ _ _ | show wpAny _ _ (setItem _ _ _) _ _ _ | show wpAny _ _ (eval (Expr.ListComp _ _ _ _) _) _ _ _ | show wpAny _ _ (exec (Stmt.Assign _ (Expr.ListComp _ _ _ _) _) _) _ _ _ | show InvPostG _ _ _ _ _ _ _ _ | show InvEndG _ _ _ _ _ _ | show OnG _ _ _ _ _ _ _ | show Fin _ _ _ _ _ _ | show KswEnd _ _ _ _ _ _ _ _ _ _ _ _ | show wpAny _ _ (call (Value.builtin "sorted") _) _ _ _ | show LCg.CompEnd _ _ _ _ _ _ _ _ _ _ _ _ _ _ | show LCg.CompSrc _ _ _ _ _ _ _ _ _ _ _ _ _ _ | show LCt.CompSrcT _ _ _ _ _ _ _ _ _ _ _ _ _ _ _)) | fail); walk1)) | (leave1; walk_say "STEP leave1"; try dsimp only) | fail "no step")) | fail)
                    rename Fr _ _ _ _ => F8; rename News _ _ _ _ => N8
                    refine eq_di (da := .list [.int 12]) (db := .list [.int 12]) ?_ ?_ point_ok point_ok ?_ rfl ?_
                    · exact hu4.mono (hKI7.le F8 N8 (by (first | (intro p hp; first | (with_reducible (repeat' (first | exact hp | exact List.mem_append_left _ hp | exact List.mem_append_right _ hp | refine List.mem_cons_of_mem _ ?_)); done) | ((simp only [List.nil_append, List.cons_append, List.append_nil, List.append_assoc, List.mem_cons, List.mem_append, List.not_mem_nil, or_false, false_or] at hp ⊢); first | done | grind)) | fail)))
                    · exact hw4.mono (hKI7.le F8 N8 (by (first | (intro p hp; first | (with_reducible (repeat' (first | exact hp | exact List.mem_append_left _ hp | exact List.mem_append_right _ hp | refine List.mem_cons_of_mem _ ?_)); done) | ((simp only [List.nil_append, List.cons_append, List.append_nil, List.append_assoc, List.mem_cons, List.mem_append, List.not_mem_nil, or_false, false_or] at hp ⊢); first | done | grind)) | fail)))
                    · show callerA.units + 3 + 64 < cLine
                      decide
                    (first | ((try k_unmd); (try k_fold); repeat' (first | (k_unfold; (try dsimp only)) | (first | ((with_reducible show wpAny _ _ (call (Value.ref 131) _) _ _ _); k_here; k_dflt (refine goal_law (by k_asm) (by k_asm) (by k_asm) (by k_asm) (by rfl) (by (first | decide | ((try dsimp only [ktrTop, Around.deeper, Around.in1]); omega) | fail)) (by (first | decide | ((try dsimp only [ktrTop, Around.deeper, Around.in1]); omega) | fail)) (by k_asm) (by with_reducible assumption) (by (first | (intro p hp; first | (with_reducible (repeat' (first | exact hp | exact List.mem_append_left _ hp | exact List.mem_append_right _ hp | refine List.mem_cons_of_mem _ ?_)); done) | ((simp only [List.nil_append, List.cons_append, List.append_nil, List.append_assoc, List.mem_cons, List.mem_append, List.not_mem_nil, or_false, false_or] at hp ⊢); first | done | grind)) | fail)) (by with_reducible assumption) (by with_reducible assumption) (by omega) (by first | (with_reducible assumption) | rfl | fail) (by first | (with_reducible assumption) | omega | fail) ?_; k_whole); intro h' tk' t' F' N'; (try k_sweep)) | ((with_reducible show wpAny _ _ (call (Value.ref 112) _) _ _ _); k_here; k_dflt (refine draw_at (by k_asm) (by k_asm) (by k_asm) (by k_asm) (by rfl) (by (first | decide | ((try dsimp only [ktrTop, Around.deeper, Around.in1]); omega) | fail)) (by (first | decide | ((try dsimp only [ktrTop, Around.deeper, Around.in1]); omega) | fail)) (by k_asm) (by k_updF) (by with_reducible assumption) (by with_reducible assumption) (by omega) (by omega) ?_; k_whole); intro h' tk' vs' n' ns' x' t' F' N' hi' hl' x1'; (try k_sweep)) | ((with_reducible show wpAny _ _ (subscriptTail _ _ (Value.ref _) (Value.str _ _)) _ _ _); k_here; k_dflt (refine bd_item (knd := PySem.strKind _ _) (by k_asm) (by with_reducible assumption) (strKind_is _ _ _ _) (by with_reducible assumption) ?_ (by with_unfolding_all rfl); k_whole)) | ((with_reducible show wpAny _ _ (subscriptTail _ _ (Value.ref _) (Value.int _ _)) _ _ _); k_here; k_dflt (refine bd_item (knd := PySem.intKind _ _) (by k_asm) (by with_reducible assumption) (intKind_is _ _ _ _) (by with_reducible assumption) ?_ (by with_unfolding_all rfl); k_whole)) | fail) | ((first | (fail_if_success (with_reducible first | show wpAny _ _ (call (Value.ref _) _) _ _ _ | show wpAny _ _ (exec (Stmt.While _ _ _ _) _) _ _ _ | show wpAny _ _ (exec (Stmt.For _ _ _ _ _) _) _ _ _ | show wpAny _ _ (pyIter _) _ _ _ | show wpAny _ _ (setItem _ _ _) _ _ _ | show wpAny _ _ (eval (Expr.ListComp _ _ _ _) _) _ _ _ | show wpAny _ _ (exec (Stmt.Assign _ (Expr.ListComp _ _ _ _) _) _) _ _ _ | show InvPostG _ _ _ _ _ _ _ _ | show InvEndG _ _ _ _ _ _ | show OnG _ _ _ _ _ _ _ | show Fin _ _ _ _ _ _ | show KswEnd _ _ _ _ _ _ _ _ _ _ _ _ | show wpAny _ _ (call (Value.builtin "sorted") _) _ _ _ | show LCg.CompEnd _ _ _ _ _ _ _ _ _ _ _ _ _ _ | show LCg.CompSrc _ _ _ _ _ _ _ _ _ _ _ _ _ _ | show LCt.CompSrcT _ _ _ _ _ _ _ _ _ _ _ _ _ _ _)) | fail); (fail_if_success (with_reducible show wpAny _ _ (subscriptTail _ (PySem.Expr.Slice _ _ none _) _ _) _ _ _)); (fail_if_success (with_reducible show wpAny _ _ (binaryOp Operator.Add (Value.ref _) (Value.ref _)) _ _ _)); (fail_if_success (with_reducible show wpAny _ _ (compareOp .NotEq (Value.ref _) (Value.ref _)) _ _ _)); (fail_if_success (with_reducible show wpAny _ _ (compareOp .Eq (Value.ref _) (Value.ref _)) _ _ _)); first | walk1 | (dsimp only; (try k_fold); (first | (fail_if_success (with_reducible first | show wpAny _ _ (call (Value.ref _) _) _ _ _ | show wpAny _ _ (exec (Stmt.While _ _ _ _) _) _ _ _ | show wpAny _ _ (exec (Stmt.For _ _ _ _ _) _) _ _ _ | show wpAny _ _ (pyIter _) _ _ _ | show wpAny _ _ (setItem _ _ _) _ _ _ | show wpAny _ _ (eval (Expr.ListComp _ _ _ _) _) _ _ _ | show wpAny _ _ (exec (Stmt.Assign _ (Expr.ListComp _ _ _ _) _) _) _ _ _ | show InvPostG _ _ _ _ _ _ _ _ | show InvEndG _ _ _ _ _ _ | show OnG _ _ _ _ _ _ _ | show Fin _ _ _ _ _ _ | show KswEnd _ _ _ _ _ _ _ _ _ _ _ _ | show wpAny _ _ (call (Value.builtin "sorted") _) _ _ _ | show LCg.CompEnd _ _ _ _ _ _ _ _ _ _ _ _ _ _ | show LCg.CompSrc _ _ _ _ _ _ _ _ _ _ _ _ _ _ | show LCt.CompSrcT _ _ _ _ _ _ _ _ _ _ _ _ _ _ _)) | fail); walk1)) | (leave1; walk_say "STEP leave1"; try dsimp only) | fail "no step")) | fail)
                    k_end
                    kc_close)
theorem said : PySem.Challenge.rw_nu0316_01.wellSaid = true := by
  unfold OpenLaw.wellSaid; rw [(show _ ∧ _ from lawx).1]; decide +kernel

end Mine
theorem PySem.Challenge.cw_nu0316_01_holds : PySem.Challenge.rw_nu0316_01.Holds :=
  holds_law Mine.said fun _ => Mine.lawx
