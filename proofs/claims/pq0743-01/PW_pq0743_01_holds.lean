import PyProof.Rows.All
import Wide.All
import OpenK.AllK
import Wide.FinOn
import PySem.Challenge.RW_pq0743_01
open PySem PySem.W PyProof.Rows PyProof.V PySem.Spec PySem.Calls
set_option Elab.async false
set_option maxRecDepth 100000
set_option maxHeartbeats 8000000
namespace Mine
open_top hd for PySem.Challenge.rw_pq0743_01
abbrev Led := List (Addr × Obj)
abbrev PROG : Program := PySem.Challenge.rw_pq0743_01.row.prog
/-- the call comes back, whoever called it -/
def Tell (w : World) (f : Addr) (vs : List Value) (news : Led) (need : Nat) (Out : Led → Value → Prop) : Prop :=
  ∀ (p : Program) (loose : List Str) (mean : ExcName → Option Value) (mg mb : Str → Option Value) (dp un : Nat) (gd : Option (List Code)) (cn : Str) (cs : Scope) (a : Addr) (ccd : Value) (cl : List (Str × Addr))
    (outer : List Env) (A₀ : Around) (base h₀ : Heap) (L : Addr) (m : Str → Option Value) (s : Shared) (Q E : Value → Shared → Prop),
    Below A₀ base outer h₀ → Fr h₀ L s.heap m → (hd.heap_39 w.params).In h₀ → News h₀ L s.heap news → Top p loose mean mg mb h₀ → cs.kind = .function →
    dp + need < recursionLimit → un + 8 * need < cLine →
    (∀ r news' h' tk', Fr h₀ L h' m → News h₀ L h' news' → Out news' r → Q r { s with heap := h', toks := tk' }) →
    wpAny (model PROG w) (ktrTop dp un gd cn cs L a ccd cl outer) (call (.ref f) vs) Q E s
section
variable {prog : Program} {w : World} {A : Around} {E : Value → Shared → Prop} {s : Shared} {env : Env} {h₀ : Heap} {x : Str} {body : List Stmt} {Q : Flow → Shared → Prop}
theorem rg_inv {r : Addr} {n : Nat} {b₀ : Int} {t₀ u₀ v₀ : Tok} {m₀ : Str → Option Value} {news : Led} (J : Nat → (Str → Option Value) → Led → Prop)
    (hh : A.handled = none) (hr : IsRange s.heap r 0 b₀ 1 t₀ u₀ v₀) (hsmall : Builtin.Range.small 0 b₀ 1 = true) (hn : Builtin.Range.rangeSize 0 b₀ 1 = (n : Int)) (F : Fr h₀ env.locals s.heap m₀) (N : News h₀ env.locals s.heap news) (hj : J 0 m₀ news)
    (turn : ∀ i t m₁ nx h tk own, i < n → TbOff own nx → (∀ p ∈ own, p.2.cls = .type "range_iterator") → J i m₁ nx → Fr h₀ env.locals h (fun y => if y = x then some (.int (i : Nat) t) else m₁ y) → News h₀ env.locals h (nx ++ own) →
      wpAny (model prog w) A (execs body env) (TbPost h₀ env.locals (J (i + 1)) own { s with heap := h, toks := tk } Q) E { s with heap := h, toks := tk })
    (done : ∀ m₁ nx h tk, J n m₁ nx → Fr h₀ env.locals h m₁ → News h₀ env.locals h nx → Q .next { s with heap := h, toks := tk }) :
    wpAny (model prog w) A (pyIter (.ref r)) (fun it s₂ => LoopAtV prog w A h₀ env x body Q E it s₂) E s := by
  refine wpAny_pyIter_range hr hsmall ?_
  have W : Walks prog w A s.heap.objs.size [s.heap.objs.size] [s.heap.objs.size] n (fun i v => i < n ∧ ∃ t, v = .int (0 + i * 1) t)
      (fun i h => IsRangeIter h s.heap.objs.size (0 + (i : Nat) * 1) ((n : Int) - (i : Nat)) 1) := (Walks.range hh _ 0 1 n).bound
  refine ⟨_, _, _, n, _, _, m₀, news, J, rfl, W, ?_, ?_, ?_, (by show IsRangeIter _ _ _ _ _; rw [hn]; simpa using Heap.get?_push_size _ rfl), F.push _, (fun p hp => ⟨Heap.get?_push_of_some _ (N p hp).1, (N p hp).2⟩), hj, ?_, ?_⟩
  · intro hm
    exact absurd F.ns.lt ((List.mem_singleton.mp hm) ▸ Nat.lt_irrefl _)
  · intro b hb
    rw [List.mem_singleton.mp hb]
    exact next_is_new F
  · intro p hp hI
    exact absurd (Heap.lt_size (N p hp).1) ((List.mem_singleton.mp hI) ▸ Nat.lt_irrefl _)
  · rintro i v m₁ news₁ s₁ own ⟨hh', tk', rfl⟩ hin hP hJ hoff hown _ hmem hst F₁ N₁
    obtain ⟨_, t, rfl⟩ := hP
    have hI : ∃ oi, (s.heap.objs.size, oi) ∈ own := ⟨_, hmem _ (.head _) (next_is_new F) _ hst⟩
    obtain ⟨oi, hI⟩ := hI
    have hsep : TbOff own news₁ := by
      intro p hp q hq e
      exact hoff q hq (List.mem_singleton.mpr (by rw [← e]; exact List.mem_singleton.mp (hown p hp)))
    have e1 : (0 : Int) + (i : Int) * 1 = (i : Int) := by omega
    rw [e1] at F₁
    have N₂ : News h₀ env.locals hh' (news₁ ++ own) := fun p hp => N₁ p ((List.mem_append.mp hp).elim (fun h => List.mem_append.mpr (.inr h)) fun h => List.mem_append.mpr (.inl h))
    have hcls : ∀ p ∈ own, p.2.cls = .type "range_iterator" := by
      intro p hp
      have h4 := (N₁ p (List.mem_append_left _ hp)).1
      rw [List.mem_singleton.mp (hown p hp)] at h4
      have h5 : hh'.get? s.heap.objs.size = _ := hst
      rw [h5] at h4
      rw [← Option.some.inj h4]
    refine wpAny_mono (turn i t m₁ news₁ hh' tk' own hin hsep hcls hJ F₁ N₂) (fun f s₂ p => ?_) fun _ _ e => e
    have fin : TbEnd h₀ env.locals (J (i + 1)) own { s with heap := hh', toks := tk' } s₂ → LoopStepU h₀ env.locals [s.heap.objs.size] own (J (i + 1)) { s with heap := hh', toks := tk' } .next s₂ := by
      rintro ⟨h', tk, m', news', nx, e, F', N', hn, ho, ha, hm⟩
      exact ⟨rfl, h', tk, m', nx, e, F', fun p hp => N' p ((List.mem_append.mp hp).elim (ho p) (hn p)), fun p hp hq => ha _ hI p hp (List.mem_singleton.mp hq).symm, hm⟩
    cases f with
    | ret v => exact .ret p
    | brk => exact .brk p
    | next => exact .next (fin p)
    | cont => exact .cont (fin p)
  · rintro h' tk m' news' F' N' _ hJ
    exact done m' news' h' tk hJ F' N'
/-- the frame's names: those that the turns store are forgotten -/
theorem rg_law {r : Addr} {n : Nat} {b₀ : Int} {t₀ u₀ v₀ : Tok} {m₀ : Str → Option Value} {news : Led} (stored : List Str) (J : Nat → Led → Prop)
    (hh : A.handled = none) (hr : IsRange s.heap r 0 b₀ 1 t₀ u₀ v₀) (hsmall : Builtin.Range.small 0 b₀ 1 = true) (hn : Builtin.Range.rangeSize 0 b₀ 1 = (n : Int)) (F : Fr h₀ env.locals s.heap m₀) (N : News h₀ env.locals s.heap news) (hj : J 0 news)
    (turn : ∀ i t (u : Str → Option Value) nx h tk own, i < n → TbOff own nx → (∀ p ∈ own, p.2.cls = .type "range_iterator") → J i nx → Fr h₀ env.locals h (fun y => if y = x then some (.int (i : Nat) t) else if stored.contains y then u y else m₀ y) → News h₀ env.locals h (nx ++ own) →
      wpAny (model prog w) A (execs body env) (TbPost h₀ env.locals (fun m' nx => (∀ z, z ≠ x → stored.contains z = false → m' z = m₀ z) ∧ J (i + 1) nx) own { s with heap := h, toks := tk } Q) E { s with heap := h, toks := tk })
    (done : ∀ (u : Str → Option Value) nx h tk, J n nx → Fr h₀ env.locals h (fun y => if y = x then u y else if stored.contains y then u y else m₀ y) → News h₀ env.locals h nx → Q .next { s with heap := h, toks := tk }) :
    wpAny (model prog w) A (pyIter (.ref r)) (fun it s₂ => LoopAtV prog w A h₀ env x body Q E it s₂) E s := by
  refine rg_inv (fun i m' nx => (∀ z, z ≠ x → stored.contains z = false → m' z = m₀ z) ∧ J i nx) hh hr hsmall hn F N ⟨fun _ _ _ => rfl, hj⟩ ?_ ?_
  · rintro i t m₁ nx h tk own hi hoff hcls ⟨hm, hJ⟩ F₁ N₁
    have e : (fun y => if y = x then some (Value.int (i : Nat) t) else m₁ y) = fun y => if y = x then some (Value.int (i : Nat) t) else if stored.contains y then m₁ y else m₀ y := by
      funext y
      by_cases h1 : y = x
      · simp [h1]
      · simp only [if_neg h1]
        cases h2 : stored.contains y with
        | true => simp
        | false => simp only [Bool.false_eq_true, if_false]; exact hm y h1 h2
    rw [e] at F₁
    exact turn i t m₁ nx h tk own hi hoff hcls hJ F₁ N₁
  · rintro m₁ nx h tk ⟨hm, hJ⟩ F₁ N₁
    refine done m₁ nx h tk hJ ?_ N₁
    have e : (fun y => if y = x then m₁ y else if stored.contains y then m₁ y else m₀ y) = m₁ := by
      funext y
      by_cases h1 : y = x
      · simp [h1]
      · simp only [if_neg h1]
        cases h2 : stored.contains y with
        | true => simp
        | false => simp only [Bool.false_eq_true, if_false]; exact (hm y h1 h2).symm
    rw [e]; exact F₁
end
inductive Ty where
  | non (num : Int)
  | itg (num : Int)
  | proc (num : Int) (kinds : List Nat) (under base : Ty)
def Ty.num : Ty → Int
  | .non n | .itg n | .proc n _ _ _ => n
def Ty.ht : Ty → Nat
  | .non _ | .itg _ => 0
  | .proc _ _ u b => max u.ht b.ht + 1
/-- what equal_types tells of two types; what equal_procs tells -/
def eqT : Ty → Ty → Bool
  | .proc n ks u b, .proc n' ks' u' b' => n == n' || (ks == ks' && (ks == [] || eqT u u') && eqT b b')
  | a, b => a.num == b.num
def eqP : Ty → Ty → Bool
  | .proc _ ks u b, .proc _ ks' u' b' => ks == ks' && (ks == [] || eqT u u') && eqT b b'
  | _, _ => false
def Ty.isProc : Ty → Bool
  | .proc .. => true
  | _ => false
theorem eqT_num {a b : Ty} (h : (a.num == b.num) = true) : eqT a b = true := by
  cases a <;> cases b <;> simp only [Ty.num] at h <;> simp only [eqT, Ty.num, h, Bool.true_or]
theorem eqT_left : ∀ {a b : Ty}, a.isProc = false → eqT a b = (a.num == b.num)
  | .non _, .non _, _ => rfl
  | .non _, .itg _, _ => rfl
  | .non _, .proc .., _ => rfl
  | .itg _, .non _, _ => rfl
  | .itg _, .itg _, _ => rfl
  | .itg _, .proc .., _ => rfl
  | .proc .., _, h => nomatch h
theorem eqT_right : ∀ {a b : Ty}, b.isProc = false → eqT a b = (a.num == b.num)
  | .non _, .non _, _ => rfl
  | .non _, .itg _, _ => rfl
  | .itg _, .non _, _ => rfl
  | .itg _, .itg _, _ => rfl
  | .proc .., .non _, _ => rfl
  | .proc .., .itg _, _ => rfl
  | _, .proc .., h => nomatch h
theorem eqT_both : ∀ {a b : Ty}, a.isProc = true → b.isProc = true → (a.num == b.num) = false → eqT a b = eqP a b
  | .proc .., .proc .., _, _, hn => by simp only [Ty.num] at hn; simp only [eqT, eqP, hn, Bool.false_or]
  | .non _, _, h, _, _ => nomatch h
  | .itg _, _, h, _, _ => nomatch h
  | _, .non _, _, h, _ => nomatch h
  | _, .itg _, _, h, _ => nomatch h
/-- every type below is told by its number, and stands lower -/
def Fine (g : Int → Ty) : Ty → Prop
  | .non n => g n = .non n ∧ 0 ≤ n ∧ n < 100
  | .itg n => g n = .itg n ∧ 0 ≤ n ∧ n < 100
  | .proc n ks u b => g n = .proc n ks u b ∧ (0 ≤ n ∧ n < 100) ∧ (u.num < n ∧ b.num < n) ∧ (ks.length ≤ 3 ∧ ∀ k ∈ ks, k < 3) ∧ Fine g u ∧ Fine g b
theorem Fine.num {g : Int → Ty} {t : Ty} (h : Fine g t) : g t.num = t ∧ 0 ≤ t.num ∧ t.num < 100 := by
  cases t with
  | non n => exact h
  | itg n => exact h
  | proc n ks u b => exact ⟨h.1, h.2.1⟩
def Good (g : Int → Ty) (p : Int × Int) : Prop := eqP (g p.1) (g p.2) = true
theorem good_iff {g : Int → Ty} {a b : Ty} (ha : Fine g a) (hb : Fine g b) : Good g (a.num, b.num) ↔ eqP a b = true := by
  unfold Good; rw [ha.num.1, hb.num.1]
/-- the memo -/
def encS (S : List (Int × Int)) : List (PyData × PyData) := S.map fun p => (encTuple PyData.int [p.1, p.2], PyData.bool true)
def SOk (S : List (Int × Int)) : Prop := S.Nodup ∧ ∀ p ∈ S, (0 ≤ p.1 ∧ p.1 < 100) ∧ (0 ≤ p.2 ∧ p.2 < 100)
def Below' (g : Int → Ty) (S : List (Int × Int)) (m : Int) : Prop := ∀ p ∈ S, p.1 < m → Good g p
theorem same_pair (p : Int × Int) (i j : Int) : same (encTuple PyData.int [p.1, p.2]) (encTuple PyData.int [i, j]) = decide (p = (i, j)) := by
  rw [same_encTuple same_int]
  obtain ⟨x, y⟩ := p
  simp [Prod.ext_iff]
theorem lookup_encS (S : List (Int × Int)) (i j : Int) : (lookup (encTuple PyData.int [i, j]) (encS S)).isSome = decide ((i, j) ∈ S) := by
  induction S with
  | nil => rfl
  | cons p r ih =>
    show (if same (encTuple PyData.int [p.1, p.2]) (encTuple PyData.int [i, j]) = true then some (PyData.bool true) else lookup _ (encS r)).isSome = _
    rw [same_pair]
    by_cases h : p = (i, j)
    · simp [h]
    · simp only [decide_eq_true_eq, h, if_false, ih, List.mem_cons]
      simp [Ne.symm h]
theorem put_encS {S : List (Int × Int)} {i j : Int} (h : (i, j) ∉ S) : putD (encTuple PyData.int [i, j]) (.bool true) (encS S) = encS (S ++ [(i, j)]) := by
  have ha : (encS S).any (fun p => same p.1 (encTuple PyData.int [i, j])) = false := by
    rw [List.any_eq_false]
    intro p hp
    obtain ⟨q, hq, rfl⟩ := List.mem_map.mp hp
    show ¬ same (encTuple PyData.int [q.1, q.2]) _ = true
    rw [same_pair, decide_eq_true_eq]
    exact fun e => h (e ▸ hq)
  unfold putD
  rw [ha]
  simp [encS]
theorem pigeon : ∀ (n : Nat) (l : List Nat), l.Nodup → (∀ x ∈ l, x < n) → l.length ≤ n := by
  intro n
  induction n with
  | zero =>
    intro l _ h
    cases l with
    | nil => exact Nat.le_refl _
    | cons x r => exact absurd (h x (.head _)) (Nat.not_lt_zero _)
  | succ n ih =>
    intro l hn h
    have h1 : (l.filter (· != n)).length ≤ n := ih _ (hn.filter _) fun x hx => by
      have hx' := List.mem_filter.mp hx
      have h2 := h x hx'.1
      have h3 : x ≠ n := by simpa using hx'.2
      omega
    have h2 : ∀ l : List Nat, l.Nodup → l.length ≤ (l.filter (· != n)).length + 1 := by
      intro l
      induction l with
      | nil => intro _; simp
      | cons x r ih2 =>
        intro hn
        have hn' := List.nodup_cons.mp hn
        by_cases hx : x = n
        · subst hx
          have e : r.filter (· != x) = r := List.filter_eq_self.mpr fun y hy => by
            have : y ≠ x := fun e => hn'.1 (e ▸ hy)
            simpa using this
          simp [e]
        · have := ih2 hn'.2
          simp [hx]
          omega
    have := h2 l hn
    omega
theorem SOk.length {S : List (Int × Int)} (h : SOk S) : S.length ≤ 10000 := by
  have h1 := pigeon 10000 (S.map fun p => p.1.toNat * 100 + p.2.toNat) (by
    refine List.pairwise_map.mpr (List.Pairwise.imp_of_mem ?_ h.1)
    intro a b ha hb hne e
    have h1 := h.2 a ha
    have h2 := h.2 b hb
    refine hne (Prod.ext ?_ ?_) <;> omega) (by
    intro x hx
    obtain ⟨p, hp, rfl⟩ := List.mem_map.mp hx
    have := h.2 p hp
    omega)
  simpa using h1
def Ty.form : Ty → Str
  | .non _ => Str.ofString "none"
  | .itg _ => Str.ofString "integer"
  | .proc .. => Str.ofString "proc"
def Sub (R R' : Led) : Prop := ∀ p ∈ R, p ∈ R'
theorem Sub.refl {R : Led} : Sub R R := fun _ h => h
theorem Sub.mem {R R' : Led} {p : Addr × Obj} (h : Sub R R') (hp : p ∈ R) : p ∈ R' := h p hp
theorem Sub.tail {R R' : Led} {q : Addr × Obj} (h : Sub R R') : Sub R (q :: R') := fun p hp => .tail _ (h p hp)
theorem Sub.trans {R R' R'' : Led} (h : Sub R R') (k : Sub R' R'') : Sub R R'' := fun p hp => k p (h p hp)
def Off (dk : Addr) (R : Led) : Prop := ∀ p ∈ R, p.1 ≠ dk
def Rest (dk : Addr) (R : Led) : Led := R.filter fun p => p.1 != dk
theorem Rest.sub {dk : Addr} {R : Led} : Sub (Rest dk R) R := fun _ h => (List.mem_filter.mp h).1
theorem Rest.off {dk : Addr} {R : Led} : Off dk (Rest dk R) := fun _ h => by simpa using (List.mem_filter.mp h).2
theorem Sub.rest {dk : Addr} {R R' : Led} (h : Sub R R') (o : Off dk R) : Sub R (Rest dk R') := fun p hp => List.mem_filter.mpr ⟨h p hp, by simpa using o p hp⟩
theorem Sub.after {dk : Addr} {R R' R'' : Led} (h : Sub R R') (o : Off dk R) (k : Sub (Rest dk R') R'') : Sub R R'' := (h.rest o).trans k
def kindS (k : Nat) : Str := if k = 0 then Str.ofString "var" else Str.ofString "par"
def ParIn (R : Led) (u : Addr) (v : Value) (k : Nat) : Prop :=
  ∃ x d es n t, v = .ref x ∧ (x, instObj 82 d) ∈ R ∧ (d, dictOf es n) ∈ R ∧ getL (Str.ofString "kind") es = some (some (.str (kindS k) t)) ∧
    getL (Str.ofString "readonly") es = some (some (.bool (k == 2))) ∧ getL (Str.ofString "type") es = some (some (.ref u))
def ParsIn (R : Led) (u : Addr) : List Value → List Nat → Prop
  | [], [] => True
  | v :: vs, k :: ks => ParIn R u v k ∧ ParsIn R u vs ks
  | _, _ => False
def HeadIn (R : Led) (a : Addr) (t : Ty) (es : List DictEntry) : Prop :=
  ∃ d n tk tk', (a, instObj 61 d) ∈ R ∧ (d, dictOf es n) ∈ R ∧ getL (Str.ofString "number") es = some (some (.int t.num tk)) ∧ getL (Str.ofString "form") es = some (some (.str t.form tk'))
def TyIn (R : Led) : Addr → Ty → Prop
  | a, .non num => ∃ es, HeadIn R a (.non num) es
  | a, .itg num => ∃ es, HeadIn R a (.itg num) es
  | a, .proc num kinds under base => ∃ es u b pl ps np, HeadIn R a (.proc num kinds under base) es ∧
      getL (Str.ofString "base") es = some (some (.ref b)) ∧ getL (Str.ofString "params") es = some (some (.ref pl)) ∧ (pl, listOf (ps : List Value).toArray np) ∈ R ∧ ParsIn R u ps kinds ∧ TyIn R u under ∧ TyIn R b base
theorem TyIn.head {R : Led} {a : Addr} {t : Ty} (h : TyIn R a t) : ∃ es, HeadIn R a t es := by
  cases t with
  | non n => exact h
  | itg n => exact h
  | proc n ks u b =>
    simp only [TyIn] at h
    obtain ⟨es, u', b', pl, ps, np, hh, _⟩ := h
    exact ⟨es, hh⟩
theorem ParsIn.length {R : Led} {u : Addr} : ∀ {vs : List Value} {ks : List Nat}, ParsIn R u vs ks → vs.length = ks.length
  | [], [], _ => rfl
  | _ :: _, _ :: _, h => congrArg (· + 1) (ParsIn.length h.2)
theorem ParsIn.get {R : Led} {u : Addr} : ∀ {vs : List Value} {ks : List Nat}, ParsIn R u vs ks → ∀ {i : Nat} {k : Nat}, ks[i]? = some k → ∃ v, vs[i]? = some v ∧ ParIn R u v k
  | [], [], _, i, k, e => by simp at e
  | v :: vs, k' :: ks, h, 0, k, e => by
    simp only [List.getElem?_cons_zero, Option.some.injEq] at e
    subst e
    exact ⟨v, rfl, h.1⟩
  | v :: vs, k' :: ks, h, i + 1, k, e => by
    simp only [List.getElem?_cons_succ] at e ⊢
    exact ParsIn.get h.2 e
abbrev KnIn (w : World) (news : Led) (dk : Addr) (S : List (Int × Int)) : Prop := TupTab (intKind PROG w) PyData.int news dk (encS S)
structure C2 (w : World) (g : Int → Ty) (R news : Led) (a b : Addr) (ta tb : Ty) (dk : Addr) (S : List (Int × Int)) : Prop where
  ra : TyIn R a ta
  rb : TyIn R b tb
  sub : Sub R news
  off : Off dk R
  kn : KnIn w news dk S
  fa : Fine g ta
  fb : Fine g tb
  ok : SOk S
  bel : Below' g S (ta.num + 1)
def Out2 (w : World) (g : Int → Ty) (news : Led) (dk : Addr) (S : List (Int × Int)) (bv : Bool) (news' : Led) (r : Value) : Prop :=
  r = .bool bv ∧ Sub (Rest dk news) news' ∧ ∃ S', KnIn w news' dk S' ∧ SOk S' ∧ (bv = true → ∀ p ∈ S', p ∈ S ∨ Good g p)
def EqT (w : World) (n : Nat) : Prop := ∀ ta tb g news R a b dk S bv, ta.ht ≤ n → eqT ta tb = bv → C2 w g R news a b ta tb dk S →
  Tell w 36 [.ref a, .ref b, .ref dk] news (2 * n + 4) (Out2 w g news dk S bv)
def EqP (w : World) (n : Nat) : Prop := ∀ ta tb g news R a b dk S bv, ta.ht ≤ n → ta.isProc = true → tb.isProc = true → eqP ta tb = bv → C2 w g R news a b ta tb dk S →
  Tell w 44 [.ref a, .ref b, .ref dk] news (2 * n + 3) (Out2 w g news dk S bv)
theorem tell_use {w : World} {f : Addr} {vs : List Value} {news : Led} {need : Nat} {Out : Led → Value → Prop} {p : Program} {loose : List Str} {mean : ExcName → Option Value} {mg mb : Str → Option Value} {dp un : Nat} {gd : Option (List Code)} {cn : Str} {cs : Scope} {a : Addr} {ccd : Value}
    {cl : List (Str × Addr)} {outer : List Env} {A₀ : Around} {base h₀ : Heap} {L : Addr} {m : Str → Option Value} {s : Shared} {Q E : Value → Shared → Prop}
    (C : Tell w f vs news need Out) (B : Below A₀ base outer h₀) (F : Fr h₀ L s.heap m) (X : (hd.heap_39 w.params).In h₀) (N : News h₀ L s.heap news) (T : Top p loose mean mg mb h₀) (hk : cs.kind = .function)
    (hd : dp + need < recursionLimit) (hu : un + 8 * need < cLine)
    (ret : ∀ r news' h' tk', Fr h₀ L h' m → News h₀ L h' news' → Out news' r → Q r { s with heap := h', toks := tk' }) :
    wpAny (model PROG w) (ktrTop dp un gd cn cs L a ccd cl outer) (call (.ref f) vs) Q E s :=
  C _ _ _ _ _ _ _ _ _ _ _ _ _ _ _ _ _ _ _ _ _ _ B F X N T hk hd hu ret
theorem binds_of {α : Type} {l : Option α} {o o' : α} {P : Prop} (h : l = some o) (e : l = some o') (k : o = o' → P) : P := k (Option.some.inj (h.symm.trans e))
def Binds (w : World) (f : Addr) (vs : List Value) (bs : List (Str × Value)) : Prop := ∀ fd oc od osl, (hd.heap_39 w.params).lookup f = some ⟨oc, od, .func fd, osl⟩ → ∀ s : Shared, (hd.heap_39 w.params).In s.heap → BindsTo s fd ⟨vs, []⟩ bs
theorem mine_binds {w : World} {f : Addr} {vs : List Value} {bs : List (Str × Value)} {fd : FuncData} {oc : Value} {od : Option Addr} {osl : Array (Option Value)} {s : Shared} (h : Binds w f vs bs) (e : (hd.heap_39 w.params).lookup f = some ⟨oc, od, .func fd, osl⟩) (k : (hd.heap_39 w.params).In s.heap) :
    BindsTo s fd ⟨vs, []⟩ bs := h _ _ _ _ e _ k
abbrev bs3 (a b : Addr) (v : Value) : List (Str × Value) := [(Str.ofString "a", .ref a), (Str.ofString "b", .ref b), (Str.ofString "known", v)]
theorem fill (P : Params) : (PySem.Challenge.rw_pq0743_01 = PySem.Challenge.rw_pq0743_01) ∧ (hd.heap_39 P = hd.heap_39 P) := by
  w_top off
  k_fill
  exact ⟨rfl, rfl⟩
local macro_rules | `(tactic| k_mem) => `(tactic| (refine Sub.mem (by assumption) ?_; assumption))
local macro_rules | `(tactic| lcg_off) => `(tactic| first | assumption | exact And.left (by assumption) | exact And.left (And.right (by assumption)) | exact And.left (And.right (And.right (by assumption))) | exact And.left (And.right (And.right (And.right (by assumption)))) | exact And.left (And.right (And.right (And.right (And.right (by assumption))))) | exact And.left (And.right (And.right (And.right (And.right (And.right (by assumption)))))) | exact And.left (And.right (And.right (And.right (And.right (And.right (And.right (by assumption))))))) | exact And.left (And.right (And.right (And.right (And.right (And.right (And.right (And.right (by assumption)))))))) | exact And.left (And.right (And.right (And.right (And.right (And.right (And.right (And.right (And.right (by assumption))))))))) | exact And.left (And.right (And.right (And.right (And.right (And.right (And.right (And.right (And.right (And.right (by assumption)))))))))) | exact And.left (And.right (And.right (And.right (And.right (And.right (And.right (And.right (And.right (And.right (And.right (by assumption))))))))))) | exact And.left (And.right (And.right (And.right (And.right (And.right (And.right (And.right (And.right (And.right (And.right (And.right (by assumption)))))))))))) | exact And.left (And.right (And.right (And.right (And.right (And.right (And.right (And.right (And.right (And.right (And.right (And.right (And.right (by assumption))))))))))))) | exact And.left (And.right (And.right (And.right (And.right (And.right (And.right (And.right (And.right (And.right (And.right (And.right (And.right (And.right (by assumption)))))))))))))) | (refine Nat.lt_trans ?_ (by assumption); lcg_off))
local macro_rules | `(tactic| k_ne) => `(tactic| (refine neN ?_; (try dsimp only); first | assumption | exact Ne.symm (by assumption) | exact Nat.ne_of_gt (by lcg_off) | exact Nat.ne_of_lt (by lcg_off) | omega))
local macro_rules | `(tactic| k_room) => `(tactic| ktr_room)
local macro_rules | `(tactic| tb_rel) => `(tactic| (refine' code_def ?k1 ?k2 ?k3 ?k4 ?k5 ?kA ?kF ?kK ?k6 ?k7 ?k8 ?k9 ?kB ?_ ?c2 ?c3 ?c4 ?c5; (case kA => exact rfl); (case kF => exact rfl); (case kK => first | assumption | exact rfl); (case k1 => k_asm); (case k2 => k_asm); (case k3 => k_asm); (case k4 => k_asm); (case k5 => k_asm); (case k6 => k_is); (case k7 => k_is); (case k8 => ktr_room); (case k9 => first | exact BindsTo.of_eq rfl | (refine' mine_binds (by assumption) ?e1 ?e2; (case e1 => k_is); (case e2 => k_in)) | exact binds_K (by k_in) rfl (by k_is) rfl rfl rfl); (case c5 => decide); (case kB => exact locs rfl); (case c2 => exact rfl); (case c3 => exact rfl); (case c4 => exact rfl); k_whole; intro g' L' h' FG' F' N' B' X' T'; (try dsimp only); (try k_fold)))
local macro_rules | `(tactic| walk_at "getAttr ref") => `(tactic| (k_here; k_dflt (refine' get_own ?k1 ?k2 ?k3 ?k4 ?k5 ?k6 ?k7 ?k8 ?k9 ?_; (case k1 => k_asm); (case k2 => k_asm); (case k3 => k_inst); (case k4 => k_is); (case k5 => k_is); (case k6 => k_is); (case k7 => k_is); (case k8 => assumption); (case k9 => k_handed); k_whole)))
section
theorem tell_same {w : World} {R news : Led} {a b : Addr} {ta tb : Ty} {bv : Bool} (ha : TyIn R a ta) (hb : TyIn R b tb) (sub : Sub R news) (hbv : (ta.num == tb.num) = bv) :
    Tell w 21 [.ref a, .ref b] news 1 (fun news' r => news' = news ∧ r = .bool bv) := by
  intro p loose mean mg mb dp un gd cn cs a ccd cl outer A₀ base h₀ L m s Q E B F X N T hk hd hu hret
  obtain ⟨ea, da, na, ti, ti', h1, h2, h3, h4⟩ := ha.head
  obtain ⟨eb, db, nb, tj, tj', k1, k2, k3, k4⟩ := hb.head
  subst hbv
  refine wpAny_call ?_
  k_dflt tb_rel
  k_steps
  exact hret _ _ _ _ (by assumption) (by assumption) ⟨rfl, rfl⟩
theorem tell_open {w : World} {R news : Led} {a : Addr} {ta : Ty} (ha : TyIn R a ta) (sub : Sub R news) :
    Tell w 28 [.ref a] news 1 (fun news' r => news' = news ∧ r = .bool false) := by
  intro p loose mean mg mb dp un gd cn cs a ccd cl outer A₀ base h₀ L m s Q E B F X N T hk hd hu hret
  obtain ⟨ea, da, na, ti, ti', h1, h2, h3, h4⟩ := ha.head
  have hf : (ta.form == Str.ofString "array") = false := by cases ta <;> rfl
  refine wpAny_call ?_
  k_dflt tb_rel
  k_steps
  rw [hf]
  exact hret _ _ _ _ (by assumption) (by assumption) ⟨rfl, rfl⟩
local macro_rules | `(tactic| walk_at "call ref") => `(tactic| (k_here; (with_reducible show wpAny _ _ (call (Value.ref 21) _) _ _ _); k_dflt (refine' tell_use (tell_same (by assumption) (by assumption) (by assumption) (by assumption)) ?k1 ?k2 ?k3 ?k4 ?k5 ?k6 ?k7 ?k8 ?_; (case k1 => k_asm); (case k2 => k_asm); (case k3 => k_asm); (case k4 => k_asm); (case k5 => k_asm); (case k6 => first | exact rfl | assumption); (case k7 => ktr_room); (case k8 => ktr_units)); intro r' n' h' tk' F' N' o'; obtain ⟨e1', e2'⟩ := o'; subst e1'; subst e2'; (try k_sweep)))
local macro_rules | `(tactic| walk_at "call ref") => `(tactic| (k_here; (with_reducible show wpAny _ _ (call (Value.ref 28) _) _ _ _); k_dflt (refine' tell_use (tell_open (by assumption) (by assumption)) ?k1 ?k2 ?k3 ?k4 ?k5 ?k6 ?k7 ?k8 ?_; (case k1 => k_asm); (case k2 => k_asm); (case k3 => k_asm); (case k4 => k_asm); (case k5 => k_asm); (case k6 => first | exact rfl | assumption); (case k7 => ktr_room); (case k8 => ktr_units)); intro r' n' h' tk' F' N' o'; obtain ⟨e1', e2'⟩ := o'; subst e1'; subst e2'; (try k_sweep)))
local macro_rules | `(tactic| walk_at "call ref") => `(tactic| (k_here; (with_reducible show wpAny _ _ (call (Value.ref 44) _) _ _ _); k_dflt (refine' tell_use (by assumption) ?k1 ?k2 ?k3 ?k4 ?k5 ?k6 ?k7 ?k8 ?_; (case k1 => k_asm); (case k2 => k_asm); (case k3 => k_asm); (case k4 => k_asm); (case k5 => k_asm); (case k6 => first | exact rfl | assumption); (case k7 => ktr_room); (case k8 => ktr_units)); intro r' n' h' tk' F' N' o'; (try k_sweep)))
theorem Out2.refl {w : World} {g : Int → Ty} {news : Led} {dk : Addr} {S : List (Int × Int)} {bv : Bool} (k : KnIn w news dk S) (ok : SOk S) : Out2 w g news dk S bv news (.bool bv) :=
  ⟨rfl, Rest.sub, S, k, ok, fun _ _ h => .inl h⟩
theorem eqT_gen {w : World} {ta tb : Ty} {R news : Led} {a b : Addr} {kv : Value} {vs : List Value} {need : Nat} {Out : Led → Value → Prop} {bv : Bool} (hB : Binds w 36 vs (bs3 a b kv)) (ra : TyIn R a ta) (rb : TyIn R b tb) (sub : Sub R news) (hbv : eqT ta tb = bv) (hn : 1 ≤ need) (hout : Out news (.bool bv))
    (hcall : (ta.num == tb.num) = false → ta.isProc = true → tb.isProc = true → Tell w 44 [.ref a, .ref b, kv] news need Out) : Tell w 36 vs news (need + 1) Out := by
  intro p loose mean mg mb dp un gd cn cs a' ccd cl outer A₀ base h₀ L m s Q E B F X N T hk hd hu hret
  obtain ⟨ea, da, na, ti, ti', h1, h2, h3, h4⟩ := ra.head
  obtain ⟨eb, db, nb, tj, tj', k1, k2, k3, k4⟩ := rb.head
  by_cases hnum : (ta.num == tb.num) = true
  · have e : bv = true := by
      rw [← hbv]
      exact eqT_num hnum
    subst e
    refine wpAny_call ?_
    k_dflt tb_rel
    k_steps
    exact hret _ _ _ _ (by assumption) (by assumption) hout
  · have hnum : (ta.num == tb.num) = false := by simpa using hnum
    cases hp : ta.isProc with
    | false =>
      have hf : (ta.form == Str.ofString "proc") = false := by cases ta <;> first | rfl | cases hp
      have e : bv = false := by
        rw [← hbv]
        rw [eqT_left hp, hnum]
      subst e
      refine wpAny_call ?_
      k_dflt tb_rel
      k_steps
      exact hret _ _ _ _ (by assumption) (by assumption) hout
    | true =>
      have hf : (ta.form == Str.ofString "proc") = true := by cases ta <;> first | rfl | cases hp
      cases hq : tb.isProc with
      | false =>
        have hf2 : (tb.form == Str.ofString "proc") = false := by cases tb <;> first | rfl | cases hq
        have e : bv = false := by
          rw [← hbv]
          rw [eqT_right hq, hnum]
        subst e
        refine wpAny_call ?_
        k_dflt tb_rel
        k_steps
        exact hret _ _ _ _ (by assumption) (by assumption) hout
      | true =>
        have hf2 : (tb.form == Str.ofString "proc") = true := by cases tb <;> first | rfl | cases hq
        have hC := hcall hnum hp hq
        refine wpAny_call ?_
        k_dflt tb_rel
        k_steps
        exact hret _ _ _ _ (by assumption) (by assumption) (by assumption)
theorem binds_3 {w : World} {a b : Addr} {v : Value} : Binds w 36 [.ref a, .ref b, v] (bs3 a b v) := by
  intro fd oc od osl e s X
  refine' binds_of ?h e ?k
  case h => k_is
  intro q
  cases q
  exact binds_K X rfl (by k_is) rfl rfl rfl
theorem eqT_step {w : World} {n : Nat} (hP : EqP w n) : EqT w n := by
  intro ta tb g news R a b dk S bv hht hbv c
  exact eqT_gen binds_3 c.ra c.rb c.sub hbv (by omega) (.refl c.kn c.ok) fun hnum hp hq => hP ta tb g news R a b dk S bv hht hp hq ((eqT_both hp hq hnum).symm.trans hbv) c
end
section
theorem fill2 (P : Params) : (PySem.Challenge.rw_pq0743_01 = PySem.Challenge.rw_pq0743_01) ∧ (hd.heap_39 P = hd.heap_39 P) := by
  w_top off
  k_fill
  exact ⟨rfl, rfl⟩
section
variable {w : World} {A : Around} {E : Value → Shared → Prop} {s : Shared} {h₀ : Heap} {L : Addr} {m : Str → Option Value} {news : Led}
theorem TyIn.mono {R R' : Led} (h : Sub R R') : ∀ {a : Addr} {t : Ty}, TyIn R a t → TyIn R' a t := by
  have hd : ∀ {a t es}, HeadIn R a t es → HeadIn R' a t es := fun ⟨d, n, tk, tk', h1, h2, r⟩ => ⟨d, n, tk, tk', h _ h1, h _ h2, r⟩
  have hp : ∀ {u : Addr} {vs : List Value} {ks : List Nat}, ParsIn R u vs ks → ParsIn R' u vs ks := by
    intro u vs
    induction vs with
    | nil => intro ks hh; cases ks <;> exact hh
    | cons v r ih =>
      intro ks hh
      cases ks with
      | nil => exact hh
      | cons k ks =>
        obtain ⟨⟨x, d, es, n, t, h1, h2, h3, h4⟩, h5⟩ := hh
        exact ⟨⟨x, d, es, n, t, h1, h _ h2, h _ h3, h4⟩, ih h5⟩
  intro a t
  induction t generalizing a with
  | non n => exact fun ⟨es, x⟩ => ⟨es, hd x⟩
  | itg n => exact fun ⟨es, x⟩ => ⟨es, hd x⟩
  | proc n ks u b ihu ihb =>
    intro x
    simp only [TyIn] at x ⊢
    obtain ⟨es, u', b', pl, ps, np, x1, x2, x3, x4, x5, x6, x7⟩ := x
    exact ⟨es, u', b', pl, ps, np, hd x1, x2, x3, h _ x4, hp x5, ihu x6, ihb x7⟩
theorem len_news {l : Addr} {vs : List Value} {np n : Nat} {Q : Value → Shared → Prop} (N : News h₀ L s.heap news) (hm : (l, listOf vs.toArray np) ∈ news) (hn : vs.length = n) (hz : n ≤ 1000)
    (h : ∀ tk, Q (.int (n : Int) tk) { s with toks := s.toks + 1 + 1 }) : wpAny (model PROG w) A (call (.builtin "len") [.ref l]) Q E s := by
  refine len_list (N.isList hm) ?_ ?_
  · rw [List.size_toArray, hn]; omega
  · rw [List.size_toArray, hn]; exact h _
theorem at_news {value slice : PySem.Expr} {l : Addr} {vs : List Value} {np : Nat} {i : Nat} {u : Tok} {x : Value} {Q : Value → Shared → Prop} (N : News h₀ L s.heap news) (hm : (l, listOf vs.toArray np) ∈ news) (hz : i ≤ 1000) (hx : vs[i]? = some x) (h : Q x s)
    (hs : subscripted slice false (.ref l) (.int (i : Int) u) = operate [.ref l, .int (i : Int) u] (getItem (.ref l) (.int (i : Int) u)) := by with_unfolding_all rfl) (hg : ∀ r, letTemporaryGo value (.ref l) r = pure () := by intro _; with_unfolding_all rfl) :
    wpAny (model PROG w) A (subscriptTail value slice (.ref l) (.int (i : Int) u)) Q E s :=
  item_listL (N.isList hm) (by omega) (by omega) (by simpa using hx) h hs hg
theorem in_memo {dk D : Addr} {o : Obj} {S : List (Int × Int)} {i j : Int} {bv : Bool} {Q : Value → Shared → Prop} (hu : A.units + 1 < cLine) (N : News h₀ L s.heap news) (T : KnIn w news dk S) (hm : (D, o) ∈ news)
    (tk : TupKeyObj (intKind PROG w) [i, j] o) (hb : decide ((i, j) ∈ S) = bv) (h : ∀ n, Q (.bool bv) { s with toks := n }) : wpAny (model PROG w) A (compareOp .In (.ref D) (.ref dk)) Q E s :=
  in_tupTab same_int hu N T hm tk (by rw [lookup_encS, hb]; exact h _)
theorem put_memo {R : Led} {dk D : Addr} {o : Obj} {S : List (Int × Int)} {i j : Int} {Q : Unit → Shared → Prop} (hu : A.units + 1 < cLine) (F : Fr h₀ L s.heap m) (N : News h₀ L s.heap news) (T : KnIn w news dk S) (hm : (D, o) ∈ news)
    (tk : TupKeyObj (intKind PROG w) [i, j] o) (hn : (i, j) ∉ S) (ok : SOk S) (sub : Sub R news) (off : Off dk R)
    (h : ∀ h' news' n, Fr h₀ L h' m → News h₀ L h' news' → KnIn w news' dk (S ++ [(i, j)]) → Sub R news' → Q () { s with heap := h', toks := n }) :
    wpAny (model PROG w) A (setItem (.ref dk) (.ref D) (.bool true)) Q E s := by
  refine setItem_tupTab same_int hu (Flat.bool true) F N T hm tk (fun h' news' F' N' T' _ kp => h h' news' _ F' N' ?_ fun p hp => kp p (sub p hp) (off p hp)) ?_
  · rw [put_encS hn] at T'; exact T'
  · have := ok.length; rw [sizeLine_eq]; simp only [encS, List.length_map]; omega
end
-- my own line's words: "sub" and "table" at hand
local macro_rules | `(tactic| tb_start) => `(tactic| first | assumption | exact Sub.tail (by assumption) | exact Sub.tail (Sub.tail (by assumption)) | exact Sub.tail (Sub.tail (Sub.tail (by assumption))))
local macro_rules | `(tactic| walk_at "call builtin:len") => `(tactic| (k_here; (with_reducible show wpAny _ _ (call (Value.builtin "len") [Value.ref _]) _ _ _); k_dflt (refine' len_news ?k1 ?k2 ?k3 ?k4 ?_; (case k1 => k_asm); (case k2 => k_mem); (case k3 => assumption); (case k4 => omega)); intro tk'))
local macro_rules | `(tactic| walk_at "subscriptTail") => `(tactic| (k_here; (with_reducible show wpAny _ _ (subscriptTail _ _ (Value.ref _) (Value.int _ _)) _ _ _); k_dflt (refine' at_news ?k1 ?k2 ?k3 ?k4 ?_; (case k1 => k_asm); (case k2 => k_mem); (case k4 => assumption); (case k3 => omega))))
local macro_rules | `(tactic| walk_at "compareOp In ref ref") => `(tactic| (k_here; k_dflt (refine' in_memo ?k1 ?k2 ?k3 ?k4 ?k5 ?k6 ?_; (case k1 => ktr_units); (case k2 => k_asm); (case k3 => tuptab_tab); (case k4 => tuptab_mem); (case k5 => exact TupKeyObj.made (by tuptab_items_int)); (case k6 => assumption)); intro tk'))
local macro_rules | `(tactic| walk_at "setItem ref ref") => `(tactic| (k_here; k_dflt (refine' put_memo ?k1 ?k2 ?k3 ?k4 ?k5 ?k6 ?k7 ?k8 ?k9 ?k10 ?_; (case k1 => ktr_units); (case k2 => k_asm); (case k3 => k_asm); (case k4 => tuptab_tab); (case k5 => tuptab_mem); (case k6 => exact TupKeyObj.made (by tuptab_items_int)); (case k7 => assumption); (case k8 => assumption); (case k10 => assumption); (case k9 => tb_start)); intro h' n' tk' F' N' T' s'; (try k_sweep)))
local macro_rules | `(tactic| walk_at "call ref") => `(tactic| (k_here; (with_reducible show wpAny _ _ (call (Value.ref 36) _) _ _ _); (with_reducible rename EqT _ _ => hP'); k_dflt (refine' tell_use (hP' _ _ _ _ _ _ _ _ _ _ ?q1 ?q2 ⟨?q3, ?q4, ?q5, ?q6, ?q7, ?q8, ?q9, ?q10, ?q11⟩) ?k1 ?k2 ?k3 ?k4 ?k5 ?k6 ?k7 ?k8 ?_; (case q3 => assumption); (case q4 => assumption); (case q7 => tuptab_tab); (case q5 => tb_start); (case q6 => assumption); (case q8 => assumption); (case q9 => assumption); (case q10 => assumption); (case q11 => assumption); (case q1 => assumption); (case q2 => assumption); (case k1 => k_asm); (case k2 => k_asm); (case k3 => k_asm); (case k4 => k_asm); (case k5 => k_asm); (case k6 => first | exact rfl | assumption); (case k7 => ktr_room); (case k8 => ktr_units)); intro r' n' h' tk' F' N' o'; k_dflt (obtain ⟨e2', o'⟩ := o'); subst e2'; (try k_sweep)))
local macro_rules | `(tactic| ktr_unf) => `(tactic| repeat' ((fail_if_success (with_reducible show wpAny _ _ (pyIter (Value.ref _)) _ _ _)); first | (k_unfold; (try dsimp only)) | (k_end; wrow_close) | walk1 | (dsimp only; walk1) | (leave1; walk_say "STEP leave1"; try dsimp only) | fail "no step"))
theorem kn_mono {w : World} {news news' : Led} {dk : Addr} {S : List (Int × Int)} (h : Sub news news') (T : KnIn w news dk S) : KnIn w news' dk S :=
  let ⟨lo, o, es, ep, xs, hm, hc, hd, he, hn, hk, hf⟩ := T
  ⟨lo, o, es, ep, xs, h _ hm, hc, hd, he, hn, fun x hx => let ⟨okx, hmk, t⟩ := hk x hx; ⟨okx, h _ hmk, t⟩, hf⟩
theorem kn_there {w : World} {news : Led} {dk : Addr} {S : List (Int × Int)} (T : KnIn w news dk S) : ∃ o, (dk, o) ∈ news :=
  let ⟨_, o, _, _, _, hm, _⟩ := T
  ⟨o, hm⟩
def Apart (own news : Led) : Led := news.filter fun q => own.all fun p => p.1 != q.1
theorem Apart.sub {own news : Led} : Sub (Apart own news) news := fun _ h => (List.mem_filter.mp h).1
theorem Apart.off {own news : Led} : TbOff own (Apart own news) := fun p hp q hq => by
  have := (List.mem_filter.mp hq).2
  rw [List.all_eq_true] at this
  simpa using this p hp
theorem Apart.mem {own news : Led} {q : Addr × Obj} (h : q ∈ news) (k : ∀ p ∈ own, p.1 ≠ q.1) : q ∈ Apart own news :=
  List.mem_filter.mpr ⟨h, by rw [List.all_eq_true]; intro p hp; simpa using k p hp⟩
theorem kn_apart {w : World} {h₀ h : Heap} {L : Addr} {own news : Led} {dk : Addr} {S : List (Int × Int)} (N : News h₀ L h news) (ho : ∀ p ∈ own, p ∈ news) (hcls : ∀ p ∈ own, p.2.cls = .type "range_iterator") (hoff : Off dk own) (T : KnIn w news dk S) : KnIn w (Apart own news) dk S :=
  let ⟨lo, o, es, ep, xs, hm, hc, hd, he, hn, hk, hf⟩ := T
  ⟨lo, o, es, ep, xs, Apart.mem hm hoff, hc, hd, he, hn, fun x hx => let ⟨okx, hmk, t⟩ := hk x hx; ⟨okx, Apart.mem hmk fun p hp e => by
    have h1 := (N _ hmk).1
    have h2 := (N _ (ho p hp)).1
    rw [e, h1] at h2
    have h3 := hcls p hp
    rw [← Option.some.inj h2, t.1] at h3
    exact absurd h3 (by decide), t⟩, hf⟩
theorem small_low {n : Nat} (h : n ≤ 3) : Builtin.Range.small 0 (n : Int) 1 = true ∧ Builtin.Range.rangeSize 0 (n : Int) 1 = (n : Int) := by
  have : n = 0 ∨ n = 1 ∨ n = 2 ∨ n = 3 := by omega
  rcases this with rfl | rfl | rfl | rfl <;> exact ⟨by decide, by decide⟩
def procParts : List Stmt × Scope := match PROG.main.body with
  | _ :: _ :: _ :: _ :: .FunctionDef _ _ b _ _ _ sc _ _ _ :: _ => (b, sc)
  | _ => ([], { kind := .function, names := [], isGenerator := false, isCoroutine := false, more := [] })
def procScope : Scope := procParts.2
def procRest : List Stmt := procParts.1.drop 3
abbrev procM (dk a b : Addr) (mr : Str → Option Value) : Str → Option Value := fun y => if y = Str.ofString "known" then some (.ref dk) else if y = Str.ofString "b" then some (.ref b) else if y = Str.ofString "a" then some (.ref a) else mr y
theorem fr_eqm {h₀ h : Heap} {L : Addr} {m m' : Str → Option Value} (F : Fr h₀ L h m) (e : ∀ y, m y = m' y) : Fr h₀ L h m' := (funext e : m = m') ▸ F
theorem look3 {va vb vk : Value} : ∀ y : Str, List.lookup y [(Str.ofString "known", vk), (Str.ofString "b", vb), (Str.ofString "a", va)] = if y = Str.ofString "known" then some vk else if y = Str.ofString "b" then some vb else if y = Str.ofString "a" then some va else none := fun y => by
  by_cases h1 : y = Str.ofString "known"
  · subst h1; rfl
  · by_cases h2 : y = Str.ofString "b"
    · subst h2; rfl
    · by_cases h3 : y = Str.ofString "a"
      · subst h3; rfl
      · rw [if_neg h1, if_neg h2, if_neg h3]
        simp only [List.lookup, beq_eq_false_iff_ne.mpr h1, beq_eq_false_iff_ne.mpr h2, beq_eq_false_iff_ne.mpr h3]
theorem look3k {va vb vk : Value} {x : Option Value} : ∀ y : Str, (if y = Str.ofString "known" then x else List.lookup y [(Str.ofString "known", vk), (Str.ofString "b", vb), (Str.ofString "a", va)]) = if y = Str.ofString "known" then x else if y = Str.ofString "b" then some vb else if y = Str.ofString "a" then some va else none := fun y => by
  by_cases h1 : y = Str.ofString "known"
  · rw [if_pos h1, if_pos h1]
  · rw [if_neg h1, if_neg h1, look3, if_neg h1]
/-- what stands behind the note in the memo -/
theorem proc_rest {w : World} {n : Nat} (hT : EqT w n) {i j : Int} {ks ks' : List Nat} {ut bt ut' bt' : Ty} {g : Int → Ty} {news R' : Led} {a b dk : Addr} {S : List (Int × Int)} {bv : Bool} {p : Program} {loose : List Str} {mean : ExcName → Option Value} {mg mb : Str → Option Value} {dp un : Nat} {gd : Option (List Code)} {ccd : Value}
    {outer : List Env} {A₀ : Around} {base h₀ : Heap} {L : Addr} {mr : Str → Option Value} {s : Shared} {Q : Flow → Shared → Prop}
    (B : Below A₀ base outer h₀) (F : Fr h₀ L s.heap (procM dk a b mr)) (X : (hd.heap_39 w.params).In h₀) (N : News h₀ L s.heap news) (T : Top p loose mean mg mb h₀) (hd : dp + (2 * n + 4) < recursionLimit) (hu : un + 8 * (2 * n + 4) < cLine)
    (ra : TyIn R' a (.proc i ks ut bt)) (rb : TyIn R' b (.proc j ks' ut' bt')) (lS : Sub R' news) (lT : KnIn w news dk (S ++ [(i, j)])) (o0 : Off dk R') (ok1 : SOk (S ++ [(i, j)])) (bel : Below' g S (i + 1)) (fa : Fine g (.proc i ks ut bt)) (fb : Fine g (.proc j ks' ut' bt'))
    (hta1 : ut.ht ≤ n) (hta2 : bt.ht ≤ n) (hbv : eqP (.proc i ks ut bt) (.proc j ks' ut' bt') = bv)
    (ret : ∀ m' news' h' tk', Fr h₀ L h' m' → News h₀ L h' news' → Sub R' news' → (∃ S', KnIn w news' dk S' ∧ SOk S' ∧ (bv = true → ∀ p ∈ S', p ∈ S ++ [(i, j)] ∨ Good g p)) → Q (.ret (.bool bv)) { s with heap := h', toks := tk' }) :
    wpAny (model PROG w) (ktrTop dp un gd (Str.ofString "equal_procs") procScope L 44 ccd [] outer) (execs procRest (envX (Str.ofString "equal_procs") procScope L 44 ccd [])) Q (fun _ _ => False) s := by
  simp only [TyIn] at ra rb
  obtain ⟨ea, ua, ba, pla, psa, npa, ⟨da, na, ti, ti', h1, h2, h3, h4⟩, h5, h6, h7, h8, h9, h10⟩ := ra
  obtain ⟨eb, ub, bb, plb, psb, npb, ⟨db, nb, tj, tj', k1, k2, k3, k4⟩, k5, k6, k7, k8, k9, k10⟩ := rb
  simp only [Ty.num, Ty.form] at h3 h4 k3 k4
  obtain ⟨fa1, fa2, fa3, fa4, fa5, fa6⟩ := fa
  obtain ⟨fb1, fb2, fb3, fb4, fb5, fb6⟩ := fb
  have la : psa.length = ks.length := h8.length
  have lb : psb.length = ks'.length := k8.length
  have la3 := fa4.1
  have lb3 := fb4.1
  have e1 : procRest = procRest := rfl
  conv at e1 => rhs; whnf
  have e2 : procScope = procScope := rfl
  conv at e2 => rhs; whnf
  rw [e1, e2]
  clear e1 e2
  (with_reducible show wpAny _ _ _ _ _ _)
  · by_cases hl : ks.length = ks'.length
    · have hl1 : ((ks.length : Int) != (ks'.length : Int)) = false := by simp [hl]
      ktr_unf
      (rename Fr _ _ _ _ => lF')
      (rename News _ _ _ _ => lN')
      (rename KnIn _ _ _ _ => lT')
      (rename Sub R' _ => lS')
      (rename IsRange _ _ _ _ _ _ _ _ => rgX)
      (with_unfolding_all refine' rg_law (n := ks.length) [Str.ofString "one", Str.ofString "other"] (fun q nx => Sub R' nx ∧ ∃ S', KnIn w nx dk S' ∧ SOk S' ∧ (0 < q → eqT ut ut' = true) ∧ (∀ p ∈ S', p ∈ S ++ [(i, j)] ∨ Good g p) ∧ ks.take q = ks'.take q) (by rfl) rgX (small_low la3).1 (small_low la3).2 lF' lN' ⟨lS', _, lT', ok1, fun h => absurd h (Nat.lt_irrefl _), fun p hp => .inl hp, rfl⟩ ?_ ?_)
      all_goals clear lF' lN' lT' lS'
      · intro q tq uq nx hq tkq own hq1 hoff hcls hJ F' N'
        obtain ⟨jS, S1, jT, jO, jE, jG, jK⟩ := hJ
        have hk1 : ks[q]? = some (ks[q]'hq1) := List.getElem?_eq_getElem hq1
        have hq2 : q < ks'.length := by omega
        have hk2 : ks'[q]? = some (ks'[q]'hq2) := List.getElem?_eq_getElem hq2
        have b1 := fa4.2 _ (List.getElem_mem hq1)
        have b2 := fb4.2 _ (List.getElem_mem hq2)
        have hne : (ks == []) = false := by
          cases ks with
          | nil => exact absurd hq1 (Nat.not_lt_zero _)
          | cons _ _ => rfl
        generalize hkk : ks[q]'hq1 = k at hk1 b1
        generalize hkk' : ks'[q]'hq2 = k' at hk2 b2
        clear hkk hkk'
        obtain ⟨v, hv, x, d, es, nn, t, rfl, p1, p2, p3, p4, p5⟩ := h8.get hk1
        obtain ⟨v', hv', x', d', es', nn', t', rfl, r1, r2, r3, r4, r5⟩ := k8.get hk2
        obtain ⟨od, hod⟩ := kn_there jT
        have offOwn : Off dk own := fun p hp => hoff p hp _ hod
        have jS1 : Sub R' (nx ++ own) := fun p hp => List.mem_append.mpr (.inl (jS p hp))
        have jT1 : KnIn w (nx ++ own) dk S1 := kn_mono (fun p hp => List.mem_append.mpr (.inl hp)) jT
        have jB : Below' g S1 (ut.num + 1) := by
          intro p hp hlt
          rcases jG p hp with hp | hp
          · rcases List.mem_append.mp hp with hp | hp
            · exact bel p hp (by show p.1 < i + 1; omega)
            · rw [List.mem_singleton.mp hp] at hlt
              have : i < ut.num + 1 := hlt
              omega
          · exact hp
        have hq3 : q ≤ 1000 := by omega
        clear jT
        by_cases hkk : k = k'
        · subst hkk
          have c1 : (kindS k != kindS k) = false := by simp
          have c2 : ((k == 2) != (k == 2)) = false := by simp
          cases hE : eqT ut ut' with
          | false =>
            have e : bv = false := by
              rw [← hbv]
              simp only [eqP, hE, hne, Bool.or_self, Bool.and_false, Bool.false_and]
            subst e
            k_steps
            (rename Sub (Rest _ _) _ ∧ _ => o9)
            obtain ⟨u1, S2, u2, u3, u4⟩ := o9
            exact ret _ _ _ _ (by assumption) (by assumption) (jS1.after o0 u1) ⟨_, u2, u3, fun h => nomatch h⟩
          | true =>
            k_steps
            (rename Sub (Rest _ _) _ ∧ _ => o9)
            obtain ⟨u1, S2, u2, u3, u4⟩ := o9
            have ownIn : ∀ p ∈ own, p ∈ _ := fun p hp => u1 p (List.mem_filter.mpr ⟨List.mem_append.mpr (.inr hp), by simpa using offOwn p hp⟩)
            refine ⟨_, _, _, _, Apart own _, rfl, by assumption, by assumption, Apart.sub, ownIn, Apart.off, by (intro z h1 h2; (simp only [List.contains_cons, List.contains_nil, Bool.or_false, Bool.or_eq_false_iff, beq_eq_false_iff_ne, ne_eq] at h2); (simp [h1, h2]; done)), fun p hp => Apart.mem (jS1.after o0 u1 p hp) fun r hr => hoff r hr p (jS p hp), S2, kn_apart (by assumption) ownIn hcls offOwn u2, u3, fun _ => (by first | exact hE | trivial), fun p hp => (u4 rfl p hp).elim (jG p) .inr, ?_⟩
            rw [List.take_add_one, List.take_add_one, hk1, hk2, jK]
        · have e : bv = false := by
            rw [← hbv]
            have : (ks == ks') = false := by
              rw [beq_eq_false_iff_ne]
              intro e
              subst e
              rw [hk1] at hk2
              exact hkk (Option.some.inj hk2)
            simp only [eqP, this, Bool.false_and]
          subst e
          have c12 : (kindS k != kindS k') = true ∨ ((kindS k != kindS k') = false ∧ ((k == 2) != (k' == 2)) = true) := by
            have q1 : k = 0 ∨ k = 1 ∨ k = 2 := by omega
            have q2 : k' = 0 ∨ k' = 1 ∨ k' = 2 := by omega
            clear hk1 hk2 p3 p4 r3 r4
            rcases q1 with rfl | rfl | rfl <;> rcases q2 with rfl | rfl | rfl <;> first | exact absurd rfl hkk | exact .inl (by decide) | exact .inr ⟨by decide, by decide⟩
          rcases c12 with c1 | ⟨c1, c2⟩
          · k_steps
            exact ret _ _ _ _ (by assumption) (by assumption) jS1 ⟨_, jT1, jO, fun h => nomatch h⟩
          · k_steps
            exact ret _ _ _ _ (by assumption) (by assumption) jS1 ⟨_, jT1, jO, fun h => nomatch h⟩
      · intro uq nx hq tkq hJ F' N'
        obtain ⟨jS, S1, jT, jO, jE, jG, jK⟩ := hJ
        rw [List.take_length, hl, List.take_length] at jK
        have hbv' : eqT bt bt' = bv := by
          rw [← hbv]
          subst jK
          have : (ks == [] || eqT ut ut') = true := by
            cases ks with
            | nil => rfl
            | cons _ _ => rw [jE (Nat.zero_lt_succ _), Bool.or_true]
          simp only [eqP, this, beq_self_eq_true, Bool.true_and]
        have jB : Below' g S1 (bt.num + 1) := by
          intro p hp hlt
          rcases jG p hp with hp | hp
          · rcases List.mem_append.mp hp with hp | hp
            · exact bel p hp (by show p.1 < i + 1; omega)
            · rw [List.mem_singleton.mp hp] at hlt
              have : i < bt.num + 1 := hlt
              omega
          · exact hp
        k_steps
        (rename Sub (Rest _ _) _ ∧ _ => o9)
        obtain ⟨u1, S2, u2, u3, u4⟩ := o9
        exact ret _ _ _ _ (by assumption) (by assumption) (jS.after o0 u1) ⟨S2, u2, u3, fun hb p hp => (u4 hb p hp).elim (jG p) .inr⟩
    · have hl1 : ((ks.length : Int) != (ks'.length : Int)) = true := by simp; omega
      have e : bv = false := by
        rw [← hbv]
        have : (ks == ks') = false := by
          rw [beq_eq_false_iff_ne]
          exact fun e => hl (e ▸ rfl)
        simp only [eqP, this, Bool.false_and]
      subst e
      ktr_unf
      exact ret _ _ _ _ (by assumption) (by assumption) lS ⟨_, lT, ok1, fun h => nomatch h⟩
local macro_rules | `(tactic| ktr_rel) => `(tactic| repeat' ((fail_if_success (with_reducible show wpAny _ _ (execs (Stmt.If (Expr.Compare (Expr.Call _ _ _ _) _ _ _) _ _ _ :: _) _) _ _ _)); first | (k_unfold; (try dsimp only)) | (k_end; wrow_close) | walk1 | (dsimp only; walk1) | (leave1; walk_say "STEP leave1"; try dsimp only) | fail "no step"))
theorem binds_P {w : World} {a b : Addr} {v : Value} : Binds w 44 [.ref a, .ref b, v] (bs3 a b v) := by
  intro fd oc od osl e s X
  refine' binds_of ?h e ?k
  case h => k_is
  intro q
  cases q
  exact binds_K X rfl (by k_is) rfl rfl rfl
theorem ok_snoc {S : List (Int × Int)} {i j : Int} (ok : SOk S) (hS : (i, j) ∉ S) (fa2 : 0 ≤ i ∧ i < 100) (fb2 : 0 ≤ j ∧ j < 100) : SOk (S ++ [(i, j)]) := by
  refine ⟨List.nodup_append.mpr ⟨ok.1, by simp, ?_⟩, ?_⟩
  · intro x hx y hy
    rw [List.mem_singleton.mp hy]
    exact fun e => hS (e ▸ hx)
  · intro p hp
    rcases List.mem_append.mp hp with hp | hp
    · exact ok.2 p hp
    · rw [List.mem_singleton.mp hp]; exact ⟨fa2, fb2⟩
theorem eqP_step {w : World} {n : Nat} (hT : EqT w n) : EqP w (n + 1) := by
  intro ta tb g news R a b dk S bv hht hpa hpb hbv c p loose mean mg mb dp un gd cn cs a' ccd cl outer A₀ base h₀ L m s Q E B F X N T hk hd hu hret
  cases ta with
  | non _ => cases hpa
  | itg _ => cases hpa
  | proc i ks ut bt =>
  cases tb with
  | non _ => cases hpb
  | itg _ => cases hpb
  | proc j ks' ut' bt' =>
  have s0 : Sub (Rest dk news) news := Rest.sub
  have o0 : Off dk (Rest dk news) := Rest.off
  have sr := c.sub.rest c.off
  have hR : ∃ R', R' = Rest dk news := ⟨_, rfl⟩
  obtain ⟨R', eR⟩ := hR
  rw [← eR] at s0 o0 sr
  have ra := c.ra.mono sr
  have rb := c.rb.mono sr
  simp only [TyIn] at ra rb
  obtain ⟨ea, ua, ba, pla, psa, npa, ⟨da, na, ti, ti', h1, h2, h3, h4⟩, h5, h6, h7, h8, h9, h10⟩ := ra
  obtain ⟨eb, ub, bb, plb, psb, npb, ⟨db, nb, tj, tj', k1, k2, k3, k4⟩, k5, k6, k7, k8, k9, k10⟩ := rb
  simp only [Ty.num, Ty.form] at h3 h4 k3 k4
  have fa := c.fa
  have fb := c.fb
  have kn := c.kn
  have ok := c.ok
  have bel := c.bel
  obtain ⟨fa1, fa2, fa3, fa4, fa5, fa6⟩ := fa
  obtain ⟨fb1, fb2, fb3, fb4, fb5, fb6⟩ := fb
  have hta : ut.ht ≤ n ∧ bt.ht ≤ n := by simp only [Ty.ht] at hht; omega
  obtain ⟨hta1, hta2⟩ := hta
  by_cases hS : (i, j) ∈ S
  · have hS' : decide ((i, j) ∈ S) = true := decide_eq_true hS
    have e : bv = true := by
      rw [← hbv]
      exact (good_iff (a := .proc i ks ut bt) (b := .proc j ks' ut' bt') c.fa c.fb).mp (bel _ hS (by show i < i + 1; omega))
    subst e
    refine wpAny_call ?_
    k_dflt tb_rel
    k_steps
    refine hret _ _ _ _ (by assumption) (by assumption) ⟨rfl, ?_, S, ?_, ok, fun _ _ h => .inl h⟩
    · rw [← eR]; exact Sub.tail s0
    · exact TupTab.cons kn _
  · have hS' : decide ((i, j) ∈ S) = false := decide_eq_false hS
    have ok1 := ok_snoc ok hS fa2 fb2
    refine wpAny_call ?_
    k_dflt tb_rel
    ktr_rel
    (rename Fr _ _ _ _ => lF')
    (rename News _ _ _ _ => lN')
    (rename KnIn _ _ _ _ => lT')
    (rename Sub R' _ => lS')
    k_dflt (refine' wpAny_noRaise (proc_rest hT (mr := fun _ => none) ?pB ?pF ?pX lN' ?pT ?pd ?pu (c.ra.mono sr) (c.rb.mono sr) lS' lT' o0 ok1 bel c.fa c.fb hta1 hta2 hbv ?pR); (case pF => exact fr_eqm lF' look3); (case pB => k_asm); (case pX => k_asm); (case pT => k_asm); (case pd => ktr_room); (case pu => ktr_units))
    intro m1 news1 h1' tk1' F1' N1' u1 u2
    obtain ⟨S2, u2, u3, u4⟩ := u2
    ktr_rel
    refine hret _ _ _ _ (by assumption) (by assumption) ⟨rfl, ?_, S2, u2, u3, fun hb p hp => ?_⟩
    · rw [← eR]; exact u1
    · rcases u4 hb p hp with hp | hp
      · rcases List.mem_append.mp hp with hp | hp
        · exact .inl hp
        · rw [List.mem_singleton.mp hp]
          exact .inr ((good_iff (a := .proc i ks ut bt) (b := .proc j ks' ut' bt') c.fa c.fb).mpr (hbv.trans hb))
      · exact .inr hp
section
/-- what the def's three names are bound to, whether the third is handed or not -/
structure C0 (g : Int → Ty) (R news : Led) (a b : Addr) (ta tb : Ty) : Prop where
  ra : TyIn R a ta
  rb : TyIn R b tb
  sub : Sub R news
  fa : Fine g ta
  fb : Fine g tb
theorem kn_name {w : World} {news : Led} {dk : Addr} {S : List (Int × Int)} (_ : KnIn w news dk S) : ∃ d, d = dk := ⟨_, rfl⟩
theorem in_memo0 {w : World} {A : Around} {E : Value → Shared → Prop} {s : Shared} {h₀ : Heap} {L : Addr} {news : Led} {dk D : Addr} {o od : Obj} {i j : Int} {Q : Value → Shared → Prop} (hu : A.units + 1 < cLine) (N : News h₀ L s.heap ((D, o) :: (dk, od) :: news)) (lo : (dk == sysModules) = false)
    (hi : od.IsDictOf (intKind PROG w) []) (lt : ∀ p ∈ news, p.1 < dk) (tk : TupKeyObj (intKind PROG w) [i, j] o) (h : ∀ n, KnIn w ((D, o) :: (dk, od) :: news) dk [] → Off dk news → Q (.bool false) { s with toks := n }) : wpAny (model PROG w) A (compareOp .In (.ref D) (.ref dk)) Q E s := by
  have T : KnIn w ((D, o) :: (dk, od) :: news) dk [] := TupTab.ofEmpty (.tail _ (.head _)) lo hi
  exact in_memo hu N T (.head _) tk (by rfl) fun n => h n T fun p hp => Nat.ne_of_lt (lt p hp)
theorem fill3 (P : Params) : (PySem.Challenge.rw_pq0743_01 = PySem.Challenge.rw_pq0743_01) ∧ (hd.heap_39 P = hd.heap_39 P) := by
  w_top off
  k_fill
  exact ⟨rfl, rfl⟩
-- my own line's words: "sub" and "table" at hand
local macro_rules | `(tactic| walk_at "compareOp In ref ref") => `(tactic| (k_here; k_dflt (refine' in_memo0 ?k1 ?k2 ?k3 ?k4 ?k5 ?k6 ?_; (case k1 => ktr_units); (case k2 => k_asm); (case k3 => assumption); (case k4 => assumption); (case k5 => assumption); (case k6 => exact TupKeyObj.made (by tuptab_items_int))); intro tk' T' o'))
theorem eqP0 {w : World} {n : Nat} (hT : EqT w n) {ta tb : Ty} {g : Int → Ty} {news R : Led} {a b : Addr} {bv : Bool} {vs : List Value} (hB : Binds w 44 vs (bs3 a b .none)) (hht : ta.ht ≤ n + 1) (hpa : ta.isProc = true) (hpb : tb.isProc = true) (hbv : eqP ta tb = bv) (c : C0 g R news a b ta tb) :
    Tell w 44 vs news (2 * (n + 1) + 3) (fun news' r => r = .bool bv ∧ Sub news news') := by
  intro p loose mean mg mb dp un gd cn cs a' ccd cl outer A₀ base h₀ L m s Q E B F X N T hk hd hu hret
  cases ta with
  | non _ => cases hpa
  | itg _ => cases hpa
  | proc i ks ut bt =>
  cases tb with
  | non _ => cases hpb
  | itg _ => cases hpb
  | proc j ks' ut' bt' =>
  have sr := c.sub
  have s0 : Sub news news := Sub.refl
  have hR : ∃ R', R' = news := ⟨_, rfl⟩
  obtain ⟨R', eR⟩ := hR
  rw [← eR] at sr
  have raK := c.ra.mono sr
  have rbK := c.rb.mono sr
  obtain ⟨ea, da, na, ti, ti', h1, h2, h3, h4⟩ := raK.head
  obtain ⟨eb, db, nb, tj, tj', k1, k2, k3, k4⟩ := rbK.head
  simp only [Ty.num, Ty.form] at h3 h4 k3 k4
  subst eR
  have ok : SOk [] := ⟨List.nodup_nil, fun _ h => nomatch h⟩
  have hta : ut.ht ≤ n ∧ bt.ht ≤ n := by simp only [Ty.ht] at hht; omega
  obtain ⟨hta1, hta2⟩ := hta
  have hS : (i, j) ∉ ([] : List (Int × Int)) := fun h => nomatch h
  have ok1 := ok_snoc ok hS c.fa.2.1 c.fb.2.1
  have bel : Below' g [] (i + 1) := fun _ h => nomatch h
  refine wpAny_call ?_
  k_dflt tb_rel
  ktr_rel
  (rename Fr _ _ _ _ => lF')
  (rename News _ _ _ _ => lN')
  (rename KnIn _ _ _ _ => lT')
  (rename Sub R' _ => lS')
  obtain ⟨dk, edk⟩ := kn_name lT'
  subst edk
  (rename Off dk R' => o0)
  k_dflt (refine' wpAny_noRaise (proc_rest hT (mr := fun _ => none) ?pB ?pF ?pX lN' ?pT ?pd ?pu raK rbK lS' lT' o0 ok1 bel c.fa c.fb hta1 hta2 hbv ?pR); (case pF => exact fr_eqm lF' look3k); (case pB => k_asm); (case pX => k_asm); (case pT => k_asm); (case pd => ktr_room); (case pu => ktr_units))
  intro m1 news1 h1' tk1' F1' N1' u1 u2
  ktr_rel
  exact hret _ _ _ _ (by assumption) (by assumption) ⟨rfl, u1⟩
end
end
section
theorem fill4 (P : Params) : (PySem.Challenge.rw_pq0743_01 = PySem.Challenge.rw_pq0743_01) ∧ (hd.heap_39 P = hd.heap_39 P) := by
  w_top off
  k_fill
  exact ⟨rfl, rfl⟩
theorem binds2 {w : World} {a b : Addr} : Binds w 44 [.ref a, .ref b] (bs3 a b .none) := by
  intro fd oc od osl e s X
  refine' binds_of ?h e ?k
  case h => k_is
  intro q
  cases q
  exact binds_K X rfl (by k_is) rfl rfl rfl
theorem binds36 {w : World} {a b : Addr} : Binds w 36 [.ref a, .ref b] (bs3 a b .none) := by
  intro fd oc od osl e s X
  refine' binds_of ?h e ?k
  case h => k_is
  intro q
  cases q
  exact binds_K X rfl (by k_is) rfl rfl rfl
theorem eqT0 {w : World} {n : Nat} (hT : EqT w n) {ta tb : Ty} {g : Int → Ty} {news R : Led} {a b : Addr} {bv : Bool} (hht : ta.ht ≤ n + 1) (hbv : eqT ta tb = bv) (c : C0 g R news a b ta tb) :
    Tell w 36 [.ref a, .ref b] news (2 * (n + 1) + 4) (fun news' r => r = .bool bv ∧ Sub news news') :=
  eqT_gen binds36 c.ra c.rb c.sub hbv (by omega) ⟨rfl, Sub.refl⟩ fun hnum hp hq => eqP0 hT binds_P hht hp hq ((eqT_both hp hq hnum).symm.trans hbv) c
theorem eq_all {w : World} : ∀ n, EqT w n ∧ EqP w n
  | 0 => by
    have h : EqP w 0 := by
      intro ta tb g news R a b dk S bv hht hpa
      cases ta with
      | non _ => cases hpa
      | itg _ => cases hpa
      | proc i ks u b => simp only [Ty.ht] at hht; omega
    exact ⟨eqT_step h, h⟩
  | n + 1 => by
    have h := eqP_step (eq_all (w := w) n).1
    exact ⟨eqT_step h, h⟩
theorem Tell.need {w : World} {f : Addr} {vs : List Value} {news : Led} {need need' : Nat} {Out : Led → Value → Prop} (h : Tell w f vs news need Out) (k : need ≤ need') : Tell w f vs news need' Out := by
  intro p loose mean mg mb dp un gd cn cs a' ccd cl outer A₀ base h₀ L m s Q E B F X N T hk hd hu hret
  exact h _ _ _ _ _ _ _ _ _ _ _ _ _ _ _ _ _ _ _ _ _ _ B F X N T hk (by omega) (by omega) hret
theorem law_eqP {w : World} {ta tb : Ty} {g : Int → Ty} {news R : Led} {a b : Addr} {bv : Bool} (c : C0 g R news a b ta tb) (hht : ta.ht ≤ 20) (hpa : ta.isProc = true) (hpb : tb.isProc = true) (hbv : eqP ta tb = bv) :
    Tell w 44 [.ref a, .ref b] news 60 (fun news' r => r = .bool bv ∧ Sub news news') :=
  (eqP0 (eq_all 20).1 binds2 (by omega) hpa hpb hbv c).need (by omega)
theorem law_eqT {w : World} {ta tb : Ty} {g : Int → Ty} {news R : Led} {a b : Addr} {bv : Bool} (c : C0 g R news a b ta tb) (hht : ta.ht ≤ 20) (hbv : eqT ta tb = bv) :
    Tell w 36 [.ref a, .ref b] news 60 (fun news' r => r = .bool bv ∧ Sub news news') :=
  (eqT0 (eq_all 20).1 (by omega) hbv c).need (by omega)
end
section
theorem fill5 (P : Params) : (PySem.Challenge.rw_pq0743_01 = PySem.Challenge.rw_pq0743_01) ∧ (hd.heap_39 P = hd.heap_39 P) := by
  w_top off
  k_fill
  exact ⟨rfl, rfl⟩
section
variable {w : World} {A : Around} {E : Value → Shared → Prop} {s : Shared} {h₀ : Heap} {L : Addr} {m : Str → Option Value} {news news' : Led}
theorem st_set {st : Addr} {a : Value} {i x : Int} {t u tk : Tok} {n : Nat} {Q : Unit → Shared → Prop} (F : Fr h₀ L s.heap m) (N : News h₀ L s.heap news) (U : Upd st (listOf [a, Value.int i t].toArray n) (listOf [a, Value.int x u].toArray n) news news')
    (h : ∀ h', Fr h₀ L h' m → News h₀ L h' news' → Q () { s with heap := h' }) : wpAny (model PROG w) A (setItem (.ref st) (.int 1 tk) (.int x u)) Q E s := by
  obtain ⟨pre, post, rfl, rfl, a, b⟩ := U.split
  have z := N (st, listOf _ n) (List.mem_append.mpr (.inr (.head _)))
  refine ki_setAt z.1 (by decide) (by decide) (by simp) (h _ (F.change (Heap.SameBut.update ..) z.2.1 z.2.2) (ki_turn _ N a b ?_ ?_))
  · rfl
  · rfl
theorem eq_lists {a b : Addr} {xs ys : List Value} {na nb : Nat} {ns ms : List Int} {bv : Bool} {Q : Value → Shared → Prop} (N : News h₀ L s.heap news) (ha : (a, listOf xs.toArray na) ∈ news) (hb : (b, listOf ys.toArray nb) ∈ news) (hi : IntsAre xs ns) (hj : IntsAre ys ms) (hu : A.units + 64 < cLine)
    (e : decide (ns = ms) = bv) (h : Q (.bool bv) s) : wpAny (model PROG w) A (compareOp .Eq (.ref a) (.ref b)) Q E s :=
  ke_eq_ints (N.isList ha) (N.isList hb) hi hj hu (e ▸ h)
theorem mod_pos {a b : Int} {t u : Tok} {Q : Value → Shared → Prop} (hb : 0 < b) (h : ∀ x tk n, 0 ≤ x → x < b → Q (.int x tk) { s with toks := n }) : wpAny (model PROG w) A (binaryOp .Mod (.int a t) (.int b u)) Q E s :=
  mod_int' (by omega) (h _ _ _ (Int.fmod_nonneg_of_pos a hb) (Int.fmod_lt_of_pos a hb))
theorem div_small {a b : Int} {t u : Tok} {Q : Value → Shared → Prop} (hb : 0 < b) (hb2 : b ≤ 1000) (ha : 0 ≤ a) (ha2 : a ≤ 1000) (h : ∀ x tk n, 0 ≤ x → x ≤ 1000 → Q (.int x tk) { s with toks := n }) : wpAny (model PROG w) A (binaryOp .FloorDiv (.int a t) (.int b u)) Q E s := by
  refine floordiv_int (by omega) (h _ _ _ ?_ ?_) (.inl (PyProof.noPylong_small (by omega)))
  · rw [Int.fdiv_eq_ediv_of_nonneg _ (by omega)]; exact Int.ediv_nonneg ha (by omega)
  · rw [Int.fdiv_eq_ediv_of_nonneg _ (by omega)]
    exact Int.le_trans (Int.ediv_le_self b ha) ha2
theorem div_big {a b : Int} {t u : Tok} {Q : Value → Shared → Prop} (hb : 0 < b) (hb2 : b.natAbs.log2 < 9000) (h : ∀ x tk n, Q (.int x tk) { s with toks := n }) : wpAny (model PROG w) A (binaryOp .FloorDiv (.int a t) (.int b u)) Q E s :=
  floordiv_int (by omega) (h _ _ _) (.inl (PyProof.noPylong_of_log2 hb2))
theorem pow_le : ∀ n : Nat, 0 < 7 ^ n ∧ 7 ^ n ≤ 2 ^ (3 * n)
  | 0 => by decide
  | n + 1 => by
    have := pow_le n
    rw [Nat.pow_succ, show 3 * (n + 1) = 3 * n + 3 by omega, Nat.pow_add]
    omega
theorem pow_seven {k : Int} {t u : Tok} {Q : Value → Shared → Prop} (h0 : 0 ≤ k) (h1 : k ≤ 1000) (h : ∀ x tk n, 0 < x → x.natAbs.log2 < 9000 → Q (.int x tk) { s with toks := n }) : wpAny (model PROG w) A (binaryOp .Pow (.int 7 t) (.int k u)) Q E s := by
  have hp := pow_le k.toNat
  have e : ((7 : Int) ^ k.toNat) = ((7 ^ k.toNat : Nat) : Int) := by simp
  refine pow_int_small h0 (by omega) (by decide) (h _ _ _ ?_ ?_)
  · rw [e]; omega
  · rw [e, Int.natAbs_natCast]
    rw [Nat.log2_lt (by omega)]
    refine Nat.lt_of_le_of_lt hp.2 (Nat.pow_lt_pow_right (by decide) (by omega))
theorem at_ints {value slice : PySem.Expr} {l : Addr} {vs : List Value} {ns : List Int} {np : Nat} {i : Int} {u : Tok} {Q : Value → Shared → Prop} (N : News h₀ L s.heap news) (hm : (l, listOf vs.toArray np) ∈ news) (hi : IntsAre vs ns) (h0 : 0 ≤ i) (h1 : i < vs.length) (hz : vs.length ≤ 1000) (h : ∀ x t, Q (.int x t) s)
    (hs : subscripted slice false (.ref l) (.int i u) = operate [.ref l, .int i u] (getItem (.ref l) (.int i u)) := by with_unfolding_all rfl) (hg : ∀ r, letTemporaryGo value (.ref l) r = pure () := by intro _; with_unfolding_all rfl) :
    wpAny (model PROG w) A (subscriptTail value slice (.ref l) (.int i u)) Q E s := by
  have hn := hi.length
  obtain ⟨t, ht⟩ := hi.get i.toNat (ns[i.toNat]'(by omega)) (List.getElem?_eq_getElem _)
  exact item_listL (N.isList hm) h0 (by omega) ht (h _ _) hs hg
theorem upd_mem {d : Addr} {o o' : Obj} {l l' : Led} (U : Upd d o o' l l') : (d, o') ∈ l' ∧ Sub (Rest d l) l' := by
  obtain ⟨pre, post, rfl, rfl, a, b⟩ := U.split
  refine ⟨by simp, fun p hp => ?_⟩
  have hp' := List.mem_filter.mp hp
  have hne : p.1 ≠ d := by simpa using hp'.2
  rcases List.mem_append.mp hp'.1 with h | h
  · exact List.mem_append.mpr (.inl h)
  · rcases List.mem_cons.mp h with h | h
    · exact absurd (congrArg Prod.fst h) hne
    · exact List.mem_append.mpr (.inr (.tail _ h))
end
local macro_rules | `(tactic| k_all) => `(tactic| assumption)
local macro_rules | `(tactic| walk_at "setItem ref int") => `(tactic| (k_here; k_dflt (refine' st_set ?k1 ?k2 ?k3 ?_; (case k1 => k_asm); (case k2 => k_asm); (case k3 => k_upd); k_whole); intro h' F' N'; (try k_sweep)))
local macro_rules | `(tactic| walk_at "compareOp Eq ref ref") => `(tactic| (k_here; k_dflt (refine' eq_lists ?k1 ?k2 ?k3 ?k4 ?k5 ?k6 ?k7 ?_; (case k1 => k_asm); (case k2 => k_mem); (case k3 => k_mem); (case k4 => first | assumption | exact IntsAre.nil); (case k5 => first | assumption | exact IntsAre.nil); (case k6 => ktr_units); (case k7 => assumption))))
local macro_rules | `(tactic| walk_at "binaryOp Mod int int") => `(tactic| (k_here; (refine' mod_pos ?h ?_; (case h => omega)); intro x' tk' n' l1' l2'))
local macro_rules | `(tactic| walk_at "binaryOp FloorDiv int int") => `(tactic| (k_here; first | ((refine' div_small ?h ?h2 ?h3 ?h4 ?_; (case h => omega); (case h2 => omega); (case h3 => omega); (case h4 => omega)); intro x' tk' n' l1' l2') | ((refine' div_big ?h ?h2 ?_; (case h => assumption); (case h2 => assumption)); intro x' tk' n')))
local macro_rules | `(tactic| walk_at "binaryOp Pow int int") => `(tactic| (k_here; (refine' pow_seven ?h ?h2 ?_; (case h => omega); (case h2 => omega)); intro x' tk' n' l1' l2'))
local macro_rules | `(tactic| walk_at "call builtin:len") => `(tactic| (k_here; (with_reducible show wpAny _ _ (call (Value.builtin "len") [Value.ref _]) _ _ _); k_dflt (refine' len_news ?k1 ?k2 ?k3 ?k4 ?_; (case k1 => k_asm); (case k2 => k_mem); (case k3 => assumption); (case k4 => omega)); intro tk'))
local macro_rules | `(tactic| walk_at "subscriptTail") => `(tactic| (k_here; (with_reducible show wpAny _ _ (subscriptTail _ _ (Value.ref _) (Value.int _ _)) _ _ _); k_dflt (refine' at_ints ?k1 ?k2 ?k3 ?k4 ?k5 ?k6 ?_; (case k1 => k_asm); (case k2 => k_mem); (case k3 => assumption); (case k4 => omega); (case k5 => omega); (case k6 => omega)); intro x' t'))
def StIn (news : Led) (st row : Addr) (at' : Int) : Prop := ∃ t n, (st, listOf [Value.ref row, Value.int at' t].toArray n) ∈ news
def OutTake (news : Led) (st row : Addr) (at' most : Int) (news' : Led) (r : Value) : Prop :=
  ∃ v t, r = .int v t ∧ 0 ≤ v ∧ v < most ∧ Sub (Rest st news) news' ∧ StIn news' st row (at' + 1)
theorem take_sub {st : Addr} {o o' : Obj} {q : Addr × Obj} {rest : Led} : Sub (Rest st ((st, o) :: rest)) (q :: (st, o') :: rest) := fun p hp => by
  have hp' := List.mem_filter.mp hp
  rcases List.mem_cons.mp hp'.1 with h | h
  · have : p.1 ≠ st := by simpa using hp'.2
    exact absurd (congrArg Prod.fst h) this
  · exact .tail _ (.tail _ h)
theorem tell_take {w : World} {rest : Led} {st row : Addr} {t0 : Tok} {n0 nr : Nat} {i most : Int} {tm : Tok} {rvs : List Value} {rns : List Int}
    (hi : IntsAre rvs rns) (hl : rvs.length ≤ 40) (h0 : 0 ≤ i) (h1 : i ≤ 1000) (hm : 0 < most) (off : ∀ p ∈ rest, p.1 ≠ st) (hrow : (row, listOf rvs.toArray nr) ∈ rest) :
    Tell w 129 [.ref st, .int most tm] ((st, listOf [Value.ref row, Value.int i t0].toArray n0) :: rest) 20 (OutTake ((st, listOf [Value.ref row, Value.int i t0].toArray n0) :: rest) st row i most) := by
  intro p loose mean mg mb dp un gd cn cs a ccd cl outer A₀ base h₀ L m s Q E B F X N T hk hd hu hret
  have s0 : Sub rest rest := Sub.refl
  cases hr : decide (rns = []) with
  | true =>
    refine wpAny_call ?_
    k_dflt tb_rel
    k_steps
    refine hret _ _ _ _ (by assumption) (by assumption) ⟨_, _, rfl, by omega, by omega, take_sub, _, _, .tail _ (.head _)⟩
  | false =>
    have hr' : rns ≠ [] := of_decide_eq_false hr
    have hlen : ∃ n, rvs.length = n ∧ 0 < n := ⟨_, rfl, by have := hi.length; have := List.length_pos_iff.mpr hr'; omega⟩
    obtain ⟨nn, hlen, hpos⟩ := hlen
    refine wpAny_call ?_
    k_dflt tb_rel
    k_steps
    refine hret _ _ _ _ (by assumption) (by assumption) ⟨_, _, rfl, by omega, by omega, take_sub, _, _, .tail _ (.head _)⟩
theorem Tell.sub {w : World} {f : Addr} {vs : List Value} {news news2 : Led} {need : Nat} {Out : Led → Value → Prop} (h : Tell w f vs news2 need Out) (k : Sub news2 news) : Tell w f vs news need Out := by
  intro p loose mean mg mb dp un gd cn cs a' ccd cl outer A₀ base h₀ L m s Q E B F X N T hk hd hu hret
  exact h _ _ _ _ _ _ _ _ _ _ _ _ _ _ _ _ _ _ _ _ _ _ B F X (fun p hp => N p (k p hp)) T hk hd hu hret
theorem Tell.out {w : World} {f : Addr} {vs : List Value} {news : Led} {need : Nat} {Out Out' : Led → Value → Prop} (h : Tell w f vs news need Out) (k : ∀ n r, Out n r → Out' n r) : Tell w f vs news need Out' := by
  intro p loose mean mg mb dp un gd cn cs a' ccd cl outer A₀ base h₀ L m s Q E B F X N T hk hd hu hret
  exact h _ _ _ _ _ _ _ _ _ _ _ _ _ _ _ _ _ _ _ _ _ _ B F X N T hk hd hu fun r n h' tk F' N' o => hret r n h' tk F' N' (k _ _ o)
theorem law_take {w : World} {news : Led} {st row : Addr} {nr : Nat} {i most : Int} {tm : Tok} {rvs : List Value} {rns : List Int} (hs : StIn news st row i) (hrow : (row, listOf rvs.toArray nr) ∈ news) (hne : row ≠ st)
    (hi : IntsAre rvs rns) (hl : rvs.length ≤ 40) (h0 : 0 ≤ i) (h1 : i ≤ 1000) (hm : 0 < most) : Tell w 129 [.ref st, .int most tm] news 20 (OutTake news st row i most) := by
  obtain ⟨t0, n0, hm0⟩ := hs
  have h := tell_take (w := w) (rest := Rest st news) (st := st) (t0 := t0) (n0 := n0) (tm := tm) hi hl h0 h1 hm Rest.off (List.mem_filter.mpr ⟨hrow, by simpa using hne⟩)
  refine (h.sub (news := news) ?_).out ?_
  · intro p hp
    rcases List.mem_cons.mp hp with rfl | hp
    · exact hm0
    · exact Rest.sub p hp
  · rintro n r ⟨v, t, e, a, b, c, d⟩
    exact ⟨v, t, e, a, b, fun p hp => c p (List.mem_filter.mpr ⟨.tail _ hp, (List.mem_filter.mp hp).2⟩), d⟩
end
section
theorem allNe_of {d : Addr} : ∀ {l : Led}, AllLt d l → ∀ p ∈ l, p.1 ≠ d
  | [], _, _, h => nomatch h
  | q :: r, h, p, hp => by
    rcases List.mem_cons.mp hp with rfl | hp
    · exact Nat.ne_of_lt h.1
    · exact allNe_of h.2 p hp
theorem allNe_lt {d : Addr} {l : Led} (h : ∀ p ∈ l, p.1 < d) : ∀ p ∈ l, p.1 ≠ d := fun p hp => Nat.ne_of_lt (h p hp)
theorem getL_put_same (name : Str) (hs : Int) (t : Tok) (v : Value) : ∀ es : List DictEntry, getL name (putL name hs (.str name t) v es) = some (some v)
  | [] => by
    have : Value.isStr (.str name t) name = true := by simp [Value.isStr]
    simp [putL, getL, this]
  | e :: r => by
    have ih := getL_put_same name hs t v r
    unfold putL
    cases h : e.key.isStr name with
    | true => simp [getL, h]
    | false =>
      simp only [Bool.false_eq_true, if_false]
      unfold getL at ih ⊢
      simp only [List.find?_cons, h]
      cases hf : List.find? (fun x => x.key.isStr name) (putL name hs (.str name t) v r) with
      | some x => rw [hf] at ih; exact ih
      | none => rw [hf] at ih; simp at ih
theorem getL_put_other {name k : Str} (hk : name ≠ k) (hs : Int) (t : Tok) (v : Value) : ∀ es : List DictEntry, getL k (putL name hs (.str name t) v es) = getL k es
  | [] => by
    have : (Value.isStr (.str name t) k) = false := by simpa [Value.isStr] using hk
    simp [putL, getL, this, DictEntry.refKey]
  | e :: r => by
    have ih := getL_put_other hk hs t v r
    unfold putL
    cases h : e.key.isStr name with
    | true =>
      have h2 : e.key.isStr k = false := by
        cases hkey : e.key with
        | str x tx =>
          rw [hkey] at h
          have : x = name := by simpa [Value.isStr] using h
          subst this
          simpa [Value.isStr] using hk
        | _ => rfl
      simp [getL, h2, DictEntry.refKey]
    | false =>
      simp only [Bool.false_eq_true, if_false]
      unfold getL at ih ⊢
      simp only [List.find?_cons, List.any_cons]
      cases hx : e.key.isStr k with
      | true => rfl
      | false =>
        simp only
        cases h1 : List.find? (fun x => x.key.isStr k) (putL name hs (.str name t) v r) <;> cases h2 : List.find? (fun x => x.key.isStr k) r <;> rw [h1, h2] at ih <;> simp only at ih ⊢
        · by_cases hr : e.refKey = true
          · simp only [hr, Bool.true_or, if_true]
          · have hr' : e.refKey = false := by simpa using hr
            simpa only [hr', Bool.false_or] using ih
        · exfalso; split at ih <;> simp at ih
        · exfalso; split at ih <;> simp at ih
        · exact ih
theorem putL_length (name : Str) (hs : Int) (key v : Value) : ∀ es : List DictEntry, (putL name hs key v es).length ≤ es.length + 1
  | [] => Nat.le_refl _
  | e :: r => by
    have := putL_length name hs key v r
    unfold putL
    split <;> simp only [List.length_cons] <;> omega
section
variable {w : World} {A : Around} {E : Value → Shared → Prop} {s : Shared} {h₀ : Heap} {L : Addr} {m : Str → Option Value} {news news' : Led}
/-- a store into an object whose dict is known by what it holds -/
theorem set_abs {x C dx : Addr} {es : List DictEntry} {n : Nat} {name : Str} {v : Value} {g : Obj → Led} {Q : Unit → Shared → Prop} (F : Fr h₀ L s.heap m) (X₀ : (hd.heap_39 w.params).In h₀) (N : News h₀ L s.heap news) (hx : (x, instObj C dx) ∈ news) (U : UpdF dx (dictOf es n) news g)
    (hs : findIn (hd.heap_39 w.params) (.ref C) "__setattr__" = some (some (.builtin "object.__setattr__"))) (hp : plainOver (hd.heap_39 w.params) C = true) (ht : takerIn (hd.heap_39 w.params) C name = some none) (hh : hasDictIn (hd.heap_39 w.params) C = true) (hl : (getL name es).isSome = true)
    (hz : es.length < 900) (h : ∀ h' es' n' tk, getL name es' = some (some v) → (∀ k, name ≠ k → getL k es' = getL k es) → es'.length ≤ es.length + 1 → Fr h₀ L h' m → News h₀ L h' (g (dictOf es' n')) → Q () { s with heap := h', toks := tk }) :
    wpAny (model PROG w) A (setAttr (.ref x) name v) Q E s := by
  obtain ⟨pre, post, rfl, hg, h1, h2⟩ := U.split
  have U2 : ∃ es' n', es' = putL name (PyData.keyHash w.params name) (.str name (s.toks + 1)) v es ∧ n' = putN name es n := ⟨_, _, rfl, rfl⟩
  obtain ⟨es', n', e1, e2⟩ := U2
  have U3 : Upd dx (dictOf es n) (dictOf es' n') (pre ++ (dx, dictOf es n) :: post) (pre ++ (dx, dictOf es' n') :: post) := by
    clear N hx U hg
    induction pre with
    | nil => exact Upd.head h2
    | cons p r ih => exact Upd.tail (h1 p (.head _)) (ih fun q hq => h1 q (.tail _ hq))
  have hdx : (dx, dictOf es n) ∈ pre ++ (dx, dictOf es n) :: post := List.mem_append.mpr (.inr (.head _))
  refine set_dict F X₀ N (InstAt.of_news N hx hdx) rfl hs hp ht hh hl (by rw [e1, e2]) U3 ?_ fun h' F' N' => h h' es' n' _ ?_ ?_ ?_ F' (hg _ ▸ N')
  · have := putL_length name (PyData.keyHash w.params name) (.str name (s.toks + 1)) v es; rw [e1]; omega
  · rw [e1]; exact getL_put_same ..
  · intro k hk; rw [e1]; exact getL_put_other hk ..
  · rw [e1]; exact putL_length ..
end
end
section
theorem fill6 (P : Params) : (PySem.Challenge.rw_pq0743_01 = PySem.Challenge.rw_pq0743_01) ∧ (hd.heap_39 P = hd.heap_39 P) := by
  w_top off
  k_fill
  exact ⟨rfl, rfl⟩
local macro_rules | `(tactic| k_all) => `(tactic| first | assumption | exact allNe_lt (by assumption) | exact allNe_of (by assumption) | exact allNe_of (And.right (by assumption)) | exact allNe_of (And.right (And.right (by assumption))) | exact allNe_of (And.right (And.right (And.right (by assumption)))) | exact allNe_of (And.right (And.right (And.right (And.right (by assumption))))) | exact allNe_of (And.right (And.right (And.right (And.right (And.right (by assumption)))))))
local macro_rules | `(tactic| walk_at "setAttr ref") => `(tactic| (k_here; k_dflt (refine' set_abs ?k1 ?k2 ?k3 ?k4 ?k5 ?k6 ?k7 ?k8 ?k9 ?k10 ?k11 ?_; (case k1 => k_asm); (case k2 => k_asm); (case k3 => k_asm); (case k4 => k_mem); (case k5 => k_updF); (case k6 => k_is); (case k7 => k_is); (case k8 => k_is); (case k9 => k_is); (case k10 => assumption); (case k11 => assumption)); intro h' es' n' tk' g1' g2' z' F' N'; (try dsimp only at N'); (try k_sweep)))
def OutNew (rest : Led) (dty : Addr) (es : List DictEntry) (c : Int) (fm : Str) (news' : Led) (r : Value) : Prop :=
  ∃ a da ea na pl es' n' t1 t2 tc', r = .ref a ∧ Sub ((pl, listOf #[] 0) :: (a, instObj 61 da) :: (da, dictOf ea na) :: (dty, dictOf es' n') :: rest) news' ∧ getL (Str.ofString "number") ea = some (some (.int (c + 1) t1)) ∧ getL (Str.ofString "form") ea = some (some (.str fm t2)) ∧
    getL (Str.ofString "params") ea = some (some (.ref pl)) ∧ (getL (Str.ofString "base") ea).isSome = true ∧ ea.length ≤ 20 ∧ getL (Str.ofString "counter") es' = some (some (.int (c + 1) tc')) ∧ (∀ k, Str.ofString "counter" ≠ k → getL k es' = getL k es) ∧ es'.length ≤ es.length + 1 ∧
    (@LT.lt Nat _ dty da ∧ @LT.lt Nat _ da a ∧ @LT.lt Nat _ a pl) ∧ ∀ p ∈ rest, p.1 < da
theorem sub6 {l3 pl l1 a da dty : Addr} {o3 o2 o1 oa od ot : Obj} {rest : Led} : Sub ((pl, o2) :: (a, oa) :: (da, od) :: (dty, ot) :: rest) ((l3, o3) :: (pl, o2) :: (l1, o1) :: (a, oa) :: (da, od) :: (dty, ot) :: rest) := by
  intro p hp
  rcases List.mem_cons.mp hp with rfl | hp
  · exact .tail _ (.head _)
  · exact .tail _ (.tail _ (.tail _ hp))
theorem tell_new {w : World} {rest : Led} {ty dty : Addr} {es : List DictEntry} {n : Nat} {c : Int} {tc tf ts : Tok} {fm : Str} {sz : Int} (hty : (ty, instObj 118 dty) ∈ rest) (off : ∀ p ∈ rest, p.1 ≠ dty) (hc : getL (Str.ofString "counter") es = some (some (.int c tc))) (hc2 : (getL (Str.ofString "counter") es).isSome = true) (hz : es.length < 900) :
    Tell w 108 [.ref ty, .str fm tf, .int sz ts] ((dty, dictOf es n) :: rest) 20 (OutNew rest dty es c fm) := by
  intro p loose mean mg mb dp un gd cn cs a ccd cl outer A₀ base h₀ L m s Q E B F X N T hk hd hu hret
  have hz1 : es.length < 1000 := by omega
  have s0 : Sub rest rest := Sub.refl
  refine wpAny_call ?_
  k_dflt tb_rel
  k_steps
  refine hret _ _ _ _ (by assumption) (by assumption) ⟨_, _, _, _, _, _, _, _, _, _, rfl, sub6, by k_get, by k_get, by k_get, by k_get, ?_, by assumption, by assumption, by assumption, ⟨?_, ?_, ?_⟩, ?_⟩
  · exact Nat.le_of_ble_eq_true rfl
  · omega
  · omega
  · omega
  · exact tb_ltOf (And.right (by assumption))
end
section
theorem fill7 (P : Params) : (PySem.Challenge.rw_pq0743_01 = PySem.Challenge.rw_pq0743_01) ∧ (hd.heap_39 P = hd.heap_39 P) := by
  w_top off
  k_fill
  exact ⟨rfl, rfl⟩
local macro_rules | `(tactic| k_all) => `(tactic| first | assumption | exact allNe_lt (by assumption) | exact allNe_of (by assumption) | exact allNe_of (And.right (by assumption)) | exact allNe_of (And.right (And.right (by assumption))) | exact allNe_of (And.right (And.right (And.right (by assumption)))) | exact allNe_of (And.right (And.right (And.right (And.right (by assumption))))) | exact allNe_of (And.right (And.right (And.right (And.right (And.right (by assumption)))))))
local macro_rules | `(tactic| walk_at "setAttr ref") => `(tactic| (k_here; k_dflt (refine' set_abs ?k1 ?k2 ?k3 ?k4 ?k5 ?k6 ?k7 ?k8 ?k9 ?k10 ?k11 ?_; (case k1 => k_asm); (case k2 => k_asm); (case k3 => k_asm); (case k4 => k_mem); (case k5 => k_updF); (case k6 => k_is); (case k7 => k_is); (case k8 => k_is); (case k9 => k_is); (case k10 => assumption); (case k11 => assumption)); intro h' es' n' tk' g1' g2' z' F' N'; (try dsimp only at N'); (try k_sweep)))
theorem at_val {w : World} {A : Around} {E : Value → Shared → Prop} {s : Shared} {h₀ : Heap} {L : Addr} {news : Led} {value slice : PySem.Expr} {l : Addr} {vs : List Value} {np : Nat} {k : Int} {i : Nat} {u : Tok} {x : Value} {Q : Value → Shared → Prop} (N : News h₀ L s.heap news) (hm : (l, listOf vs.toArray np) ∈ news) (hx : vs[i]? = some x) (hk : k = (i : Int)) (hz : i ≤ 1000) (h : Q x s)
    (hs : subscripted slice false (.ref l) (.int k u) = operate [.ref l, .int k u] (getItem (.ref l) (.int k u)) := by with_unfolding_all rfl) (hg : ∀ r, letTemporaryGo value (.ref l) r = pure () := by intro _; with_unfolding_all rfl) :
    wpAny (model PROG w) A (subscriptTail value slice (.ref l) (.int k u)) Q E s := by
  subst hk
  exact at_news N hm hz hx h hs hg
theorem val_join {M : Model} {A : Around} {E : Value → Shared → Prop} {s : Shared} {tree : Sem Value} {Q : Value → Shared → Prop} (x : Str) (h1 : wpAny M A tree (fun v s' => ∃ t' tk', v = .str x t' ∧ s' = { s with toks := tk' }) E s) (h2 : ∀ t' tk', Q (.str x t') { s with toks := tk' }) : wpAny M A tree Q E s :=
  wpAny_mono h1 (fun v s' hh => by obtain ⟨t', tk', e, e'⟩ := hh; subst e; subst e'; exact h2 t' tk') fun _ _ e => e
local macro_rules | `(tactic| ktr_rel) => `(tactic| repeat' ((fail_if_success (with_reducible show wpAny _ _ (eval (Expr.IfExp _ _ _ _) _) _ _ _)); first | (k_unfold; (try dsimp only)) | walk1 | (dsimp only; walk1) | fail "no step"))
local macro_rules | `(tactic| ktr_unf) => `(tactic| repeat' ((fail_if_success (with_reducible show wpAny _ _ (pyIter (Value.ref _)) _ _ _)); first | (k_unfold; (try dsimp only)) | (k_end; wrow_close) | walk1 | (dsimp only; walk1) | (leave1; walk_say "STEP leave1"; try dsimp only) | fail "no step"))
local macro_rules | `(tactic| walk_at "call builtin:len") => `(tactic| (k_here; (with_reducible show wpAny _ _ (call (Value.builtin "len") [Value.ref _]) _ _ _); k_dflt (refine' len_news ?k1 ?k2 ?k3 ?k4 ?_; (case k1 => k_asm); (case k2 => k_mem); (case k3 => assumption); (case k4 => omega)); intro tk'))
local macro_rules | `(tactic| walk_at "subscriptTail") => `(tactic| (k_here; (with_reducible show wpAny _ _ (subscriptTail _ _ (Value.ref _) (Value.int _ _)) _ _ _); k_dflt (refine' at_val ?k1 ?k2 ?k3 ?k4 ?k5 ?_; (case k1 => k_asm); (case k2 => k_mem); (case k3 => assumption); (case k4 => omega); (case k5 => omega))))
theorem use_new {w : World} {p : Program} {loose : List Str} {mean : ExcName → Option Value} {mg mb : Str → Option Value} {dp un : Nat} {gd : Option (List Code)} {cn : Str} {cs : Scope} {a' : Addr} {ccd : Value}
    {cl : List (Str × Addr)} {outer : List Env} {A₀ : Around} {base h₀ : Heap} {L : Addr} {m : Str → Option Value} {s : Shared} {Q E : Value → Shared → Prop} {rest : Led} {ty dty : Addr} {es : List DictEntry} {n : Nat} {c : Int} {tc tf ts : Tok} {fm : Str} {sz : Int}
    (B : Below A₀ base outer h₀) (F : Fr h₀ L s.heap m) (X : (hd.heap_39 w.params).In h₀) (N : News h₀ L s.heap ((dty, dictOf es n) :: rest)) (T : Top p loose mean mg mb h₀) (hk : cs.kind = .function)
    (hd : dp + 20 < recursionLimit) (hu : un + 8 * 20 < cLine) (hty : (ty, instObj 118 dty) ∈ rest) (off : ∀ p ∈ rest, p.1 ≠ dty) (hc : getL (Str.ofString "counter") es = some (some (.int c tc))) (hz : es.length < 900)
    (ret : ∀ a da ea na pl es' n' t1 t2 tc' h' tk', Fr h₀ L h' m → News h₀ L h' ((pl, listOf ([] : List Value).toArray 0) :: (a, instObj 61 da) :: (da, dictOf ea na) :: (dty, dictOf es' n') :: rest) → getL (Str.ofString "number") ea = some (some (.int (c + 1) t1)) → getL (Str.ofString "form") ea = some (some (.str fm t2)) →
      getL (Str.ofString "params") ea = some (some (.ref pl)) → (getL (Str.ofString "base") ea).isSome = true → ea.length < 900 → getL (Str.ofString "counter") es' = some (some (.int (c + 1) tc')) → (∀ k, Str.ofString "counter" ≠ k → getL k es' = getL k es) → es'.length ≤ es.length + 1 →
      @LT.lt Nat _ dty da → @LT.lt Nat _ da a → @LT.lt Nat _ a pl → (∀ p ∈ rest, p.1 < da) → Q (.ref a) { s with heap := h', toks := tk' }) :
    wpAny (model PROG w) (ktrTop dp un gd cn cs L a' ccd cl outer) (call (.ref 108) [.ref ty, .str fm tf, .int sz ts]) Q E s := by
  refine tell_use (tell_new hty off hc (by rw [hc]; rfl) hz) B F X N T hk hd hu ?_
  rintro r news' h' tk' F' N' ⟨a, da, ea, na, pl, es', n', t1, t2, tc', rfl, sub, q1, q2, q3, q4, q5, q6, q7, q8, ⟨q9, q10, q11⟩, q12⟩
  exact ret a da ea na pl es' n' t1 t2 tc' h' tk' F' (fun p hp => N' p (sub p hp)) q1 q2 q3 q4 (by omega) q6 q7 q8 q9 q10 q11 q12
local macro_rules | `(tactic| walk_at "call ref") => `(tactic| (k_here; (with_reducible show wpAny _ _ (call (Value.ref 108) _) _ _ _); k_dflt (refine' use_new ?k1 ?k2 ?k3 ?k4 ?k5 ?k6 ?k7 ?k8 ?k9 ?k10 ?k11 ?k12 ?_; (case k4 => k_asm); (case k1 => k_asm); (case k2 => k_asm); (case k3 => k_asm); (case k5 => k_asm); (case k6 => first | exact rfl | assumption); (case k7 => ktr_room); (case k8 => ktr_units); (case k9 => k_mem); (case k10 => assumption); (case k11 => assumption); (case k12 => assumption)); intro a' da' ea' na' pl' es' n' t1' t2' tc' h' tk' F' N' q1' q2' q3' q4' q5' q6' q7' q8' q9' q10' q11' q12'; (try k_sweep)))
def OutTower (rest Rb : Led) (dty : Addr) (es : List DictEntry) (c : Int) (ks : List Nat) (tu tb : Ty) (news' : Led) (r : Value) : Prop :=
  ∃ a es' n' T tc', r = .ref a ∧ Sub ((dty, dictOf es' n') :: (T ++ rest)) news' ∧ TyIn (T ++ Rb) a (.proc (c + 1) ks tu tb) ∧ (∀ q ∈ T, ∀ p ∈ rest, @LT.lt Nat _ p.1 q.1) ∧ (∀ q ∈ T, @LT.lt Nat _ dty q.1) ∧
    getL (Str.ofString "counter") es' = some (some (.int (c + 1) tc')) ∧ (∀ k, Str.ofString "counter" ≠ k → getL k es' = getL k es) ∧ es'.length ≤ es.length + 1
theorem small_low40 {n : Nat} (h : n ≤ 1000) : Builtin.Range.small 0 (n : Int) 1 = true ∧ Builtin.Range.rangeSize 0 (n : Int) 1 = (n : Int) :=
  ⟨PySem.small_one (by omega) (by omega) (by omega) (by omega), by rw [PySem.rangeSize_one]; split <;> omega⟩
local macro_rules | `(tactic| walk_at "getMethod ref") => `(tactic| (k_here; k_dflt (refine' method_inst ?k1 ?k2 ?k3 ?k4 ?k5 ?k6 ?k7 ?_; (case k1 => k_asm); (case k2 => k_asm); (case k3 => k_inst); (case k4 => k_is); (case k5 => k_is); (case k6 => k_is); (case k7 => assumption); k_whole)))
local macro_rules | `(tactic| walk_at "call type:range") => `(tactic| (k_here; (rename Fr _ _ _ _ => F'); (rename News _ _ _ _ => N'); (with_unfolding_all refine range1_rows F' N' ?_); intro _ _ _ _ _ _ _ _ _))
theorem updF_upd {d : Addr} {o o' : Obj} {l : Led} {g : Obj → Led} (U : UpdF d o l g) : Upd d o o' l (g o') := by
  induction U with
  | head h => exact Upd.head h
  | tail h _ ih => exact Upd.tail h ih
theorem app_news {w : World} {A : Around} {E : Value → Shared → Prop} {s : Shared} {h₀ : Heap} {L : Addr} {m : Str → Option Value} {news : Led} {D : Addr} {vs : List Value} {n : Nat} {x : Value} {g : Obj → Led} {Q : Value → Shared → Prop} (F : Fr h₀ L s.heap m) (N : News h₀ L s.heap news)
    (U : UpdF D (listOf vs.toArray n) news g) (hz : vs.length ≤ 1000) (h : ∀ h', Fr h₀ L h' m → News h₀ L h' (g (listOf (vs ++ [x]).toArray (n + 1))) → Q .none { s with heap := h' }) : wpAny (model PROG w) A (call (.builtin "list.append") [.ref D, x]) Q E s := by
  have e : vs.toArray.push x = (vs ++ [x]).toArray := by simp
  refine append_K F N (its := vs.toArray) (n := n) (x := x) (news' := g (listOf (vs.toArray.push x) (n + 1))) (updF_upd U) (fun h' F' N' => h h' F' ?_) ?_
  · rw [← e]; exact N'
  · rw [List.size_toArray, sizeLine_eq]; omega
local macro_rules | `(tactic| walk_at "call builtin:list.append") => `(tactic| (k_here; (with_reducible show wpAny _ _ (call (Value.builtin _) [Value.ref _, _]) _ _ _); k_dflt (refine' app_news ?k1 ?k2 ?k3 ?k4 ?_; (case k1 => k_asm); (case k2 => k_asm); (case k3 => k_updF); (case k4 => omega)); intro h' F' N'; (try dsimp only at N'); (try k_sweep)))
theorem parsIn_mono {R R' : Led} (h : Sub R R') {u : Addr} : ∀ {vs : List Value} {ks : List Nat}, ParsIn R u vs ks → ParsIn R' u vs ks
  | [], [], x => x
  | v :: vs, k :: ks, ⟨⟨x, d, es, n, t, h1, h2, h3, h4⟩, h5⟩ => ⟨⟨x, d, es, n, t, h1, h _ h2, h _ h3, h4⟩, parsIn_mono h h5⟩
theorem parsIn_snoc {R : Led} {u : Addr} {v : Value} {k : Nat} (hv : ParIn R u v k) : ∀ {vs : List Value} {ks : List Nat}, ParsIn R u vs ks → ParsIn R u (vs ++ [v]) (ks ++ [k])
  | [], [], _ => ⟨hv, trivial⟩
  | _ :: _, _ :: _, h => ⟨h.1, parsIn_snoc hv h.2⟩
theorem tower_end {h₀ h' : Heap} {L x dx pl a0 da dty u : Addr} {m' : Str → Option Value} {own T0 rest R1 : Led} {s₁ : Shared} {tk : Nat} {ed : List DictEntry} {nd np q k : Nat} {o o2 o3 o4 : Obj} {ps : List Value} {ks : List Nat} {tt : Tok} (P : (Str → Option Value) → Prop)
    (F : Fr h₀ L h' m') (N : News h₀ L h' ((x, instObj 82 dx) :: (dx, dictOf ed nd) :: (pl, listOf (ps ++ [Value.ref x]).toArray (np + 1)) :: (a0, o2) :: (da, o3) :: (dty, o4) :: R1)) (eR1 : R1 = T0 ++ (rest ++ own)) (hp : ParsIn T0 u ps (ks.take q)) (hk : ks[q]? = some k)
    (hT0 : ∀ r ∈ T0, @LT.lt Nat _ pl r.1) (kd : getL (Str.ofString "kind") ed = some (some (.str (kindS k) tt))) (ro : getL (Str.ofString "readonly") ed = some (some (.bool (k == 2)))) (tp : getL (Str.ofString "type") ed = some (some (.ref u))) (l1 : @LT.lt Nat _ pl dx) (l2 : @LT.lt Nat _ dx x) (hlt : AllLt dx R1)
    (hoff : TbOff own ((pl, o) :: (a0, o2) :: (da, o3) :: (dty, o4) :: (T0 ++ rest))) (hm : P m') :
    TbEnd h₀ L (fun m' nx => P m' ∧ ∃ (ps : List Value) (np : Nat) (T : Led), nx = (pl, listOf ps.toArray np) :: (a0, o2) :: (da, o3) :: (dty, o4) :: (T ++ rest) ∧ ParsIn T u ps (ks.take (q + 1)) ∧ (∀ r ∈ T, @LT.lt Nat _ pl r.1)) own s₁ { s₁ with heap := h', toks := tk } := by
  subst eR1
  refine ⟨h', tk, m', _, (pl, listOf (ps ++ [Value.ref x]).toArray (np + 1)) :: (a0, o2) :: (da, o3) :: (dty, o4) :: (((x, instObj 82 dx) :: (dx, dictOf ed nd) :: T0) ++ rest), rfl, F, N, ?_, ?_, ?_, hm, ps ++ [Value.ref x], np + 1, (x, instObj 82 dx) :: (dx, dictOf ed nd) :: T0, rfl, ?_, ?_⟩
  · intro p hp
    simp only [List.cons_append, List.mem_cons, List.mem_append] at hp ⊢
    rcases hp with h | h | h | h | h | h | h | h <;> simp [h]
  · intro p hp
    simp only [List.mem_cons, List.mem_append]
    simp [hp]
  · intro p hp r hr
    have hpd : @LT.lt Nat _ p.1 dx := tb_ltOf hlt p (List.mem_append.mpr (.inr (List.mem_append.mpr (.inr hp))))
    simp only [List.cons_append, List.mem_cons, List.mem_append] at hr
    have ho := hoff p hp
    rcases hr with h | h | h | h | h | h | h | h
    · rw [h]; exact (ho (pl, o) (.head _) :)
    · rw [h]; exact ho _ (.tail _ (.head _))
    · rw [h]; exact ho _ (.tail _ (.tail _ (.head _)))
    · rw [h]; exact ho _ (.tail _ (.tail _ (.tail _ (.head _))))
    · rw [h]; exact Nat.ne_of_lt (Nat.lt_trans hpd l2)
    · rw [h]; exact Nat.ne_of_lt hpd
    · exact ho _ (.tail _ (.tail _ (.tail _ (.tail _ (List.mem_append.mpr (.inl h))))))
    · exact ho _ (.tail _ (.tail _ (.tail _ (.tail _ (List.mem_append.mpr (.inr h))))))
  · rw [List.take_add_one, hk]
    refine parsIn_snoc ⟨x, dx, ed, nd, tt, rfl, .head _, .tail _ (.head _), kd, ro, tp⟩ (parsIn_mono (fun p hp => ?_) hp)
    exact .tail _ (.tail _ hp)
  · intro r hr
    rcases List.mem_cons.mp hr with rfl | hr
    · exact Nat.lt_trans l1 l2
    · rcases List.mem_cons.mp hr with rfl | hr
      · exact l1
      · exact hT0 r hr
theorem tower_out {rest Rb T0 R1 : Led} {dty l pl a0 da u b : Addr} {es es' ea ed : List DictEntry} {c : Int} {ks : List Nat} {tu tb : Ty} {ps : List Value} {np nd n' : Nat} {ol : Obj} {t1 t2 tc' : Tok} (eR1 : R1 = T0 ++ rest) (hps : ParsIn T0 u ps ks) (hu : TyIn Rb u tu) (hb : TyIn Rb b tb)
    (hT0 : ∀ r ∈ T0, @LT.lt Nat _ pl r.1) (q1 : getL (Str.ofString "number") ea = some (some (.int (c + 1) t1))) (q2 : getL (Str.ofString "form") ea = some (some (.str (Str.ofString "proc") t2))) (q3 : getL (Str.ofString "params") ea = some (some (.ref pl)))
    (q6 : getL (Str.ofString "counter") es' = some (some (.int (c + 1) tc'))) (q7 : ∀ k, Str.ofString "counter" ≠ k → getL k es' = getL k es) (q8 : es'.length ≤ es.length + 1) (q9 : @LT.lt Nat _ dty da) (q10 : @LT.lt Nat _ da a0) (q11 : @LT.lt Nat _ a0 pl) (q12 : ∀ p ∈ rest, p.1 < da)
    (g1 : getL (Str.ofString "base") ed = some (some (.ref b))) (g2 : ∀ k, Str.ofString "base" ≠ k → getL k ed = getL k ea) : OutTower rest Rb dty es c ks tu tb ((l, ol) :: (pl, listOf ps.toArray np) :: (a0, instObj 61 da) :: (da, dictOf ed nd) :: (dty, dictOf es' n') :: R1) (.ref a0) := by
  subst eR1
  have hl : ∀ p ∈ rest, @LT.lt Nat _ p.1 da := q12
  have hs : ∀ p ∈ Rb, p ∈ ((pl, listOf ps.toArray np) :: (a0, instObj 61 da) :: (da, dictOf ed nd) :: T0) ++ Rb := fun p hp => List.mem_append.mpr (.inr hp)
  have hs2 : ∀ p ∈ T0, p ∈ ((pl, listOf ps.toArray np) :: (a0, instObj 61 da) :: (da, dictOf ed nd) :: T0) ++ Rb := fun p hp => .tail _ (.tail _ (.tail _ (List.mem_append.mpr (.inl hp))))
  refine ⟨a0, es', n', (pl, listOf ps.toArray np) :: (a0, instObj 61 da) :: (da, dictOf ed nd) :: T0, tc', rfl, ?_, ?_, ?_, ?_, q6, q7, q8⟩
  · intro p hp
    simp only [List.cons_append, List.mem_cons, List.mem_append] at hp ⊢
    rcases hp with h | h | h | h | h | h <;> simp [h]
  · simp only [TyIn]
    exact ⟨ed, u, b, pl, ps, np, ⟨da, nd, t1, t2, .tail _ (.head _), .tail _ (.tail _ (.head _)), (g2 _ (by decide)).trans q1, (g2 _ (by decide)).trans q2⟩, g1, (g2 _ (by decide)).trans q3, .head _, parsIn_mono hs2 hps, hu.mono hs, hb.mono hs⟩
  · intro q hq p hp
    have h1 := hl p hp
    rcases List.mem_cons.mp hq with rfl | hq
    · exact Nat.lt_trans h1 (Nat.lt_trans q10 q11)
    · rcases List.mem_cons.mp hq with rfl | hq
      · exact Nat.lt_trans h1 q10
      · rcases List.mem_cons.mp hq with rfl | hq
        · exact h1
        · exact Nat.lt_trans h1 (Nat.lt_trans q10 (Nat.lt_trans q11 (hT0 q hq)))
  · intro q hq
    rcases List.mem_cons.mp hq with rfl | hq
    · exact Nat.lt_trans q9 (Nat.lt_trans q10 q11)
    · rcases List.mem_cons.mp hq with rfl | hq
      · exact Nat.lt_trans q9 q10
      · rcases List.mem_cons.mp hq with rfl | hq
        · exact q9
        · exact Nat.lt_trans q9 (Nat.lt_trans q10 (Nat.lt_trans q11 (hT0 q hq)))
theorem tell_tower {w : World} {rest Rb : Led} {ty dty u na' ia kl : Addr} {es : List DictEntry} {n nk : Nat} {c : Int} {tc tr : Tok} {ks : List Nat} {kvs : List Value} {tu tnon titg : Ty} {res : Int} (hty : (ty, instObj 118 dty) ∈ rest) (off : ∀ p ∈ rest, p.1 ≠ dty) (hc : getL (Str.ofString "counter") es = some (some (.int c tc))) (hz : es.length < 900) (hnew : getL (Str.ofString "new") es = some none)
    (hnon : getL (Str.ofString "none") es = some (some (.ref na'))) (hitg : getL (Str.ofString "integer") es = some (some (.ref ia))) (tu' : TyIn Rb u tu) (tn' : TyIn Rb na' tnon) (ti' : TyIn Rb ia titg) (hkl : (kl, listOf kvs.toArray nk) ∈ rest) (hkv : IntsAre kvs (ks.map (Int.ofNat ·))) (hks : ks.length ≤ 3)
    (hk3 : ∀ k ∈ ks, k < 3) (h0 : 0 ≤ res) (h1 : res < 3) :
    Tell w 136 [.ref ty, .ref u, .ref kl, .int res tr] ((dty, dictOf es n) :: rest) 40 (OutTower rest Rb dty es c ks tu (if res = 0 then tnon else if res = 1 then titg else tu)) := by
  intro p loose mean mg mb dp un gd cn cs a ccd cl outer A₀ base h₀ L m s Q E B F X N T hk hd hu hret
  have s0 : Sub rest rest := Sub.refl
  have hkn : kvs.length = ks.length := by have := hkv.length; simp only [List.length_map] at this; omega
  refine wpAny_call ?_
  k_dflt tb_rel
  repeat' ((fail_if_success (with_reducible show wpAny _ _ (call (Value.ref 108) _) _ _ _)); first | (k_unfold; (try dsimp only)) | (k_end; wrow_close) | walk1 | (dsimp only; walk1) | fail "no step")
  k_dflt refine' use_new ?k1 ?k2 ?k3 ?k4 ?k5 ?k6 ?k7 ?k8 ?k9 ?k10 ?k11 ?k12 ?_
  (case k4 => k_asm); (case k1 => k_asm); (case k2 => k_asm); (case k3 => k_asm); (case k5 => k_asm); (case k6 => first | exact rfl | assumption); (case k7 => ktr_room); (case k8 => ktr_units); (case k9 => k_mem); (case k10 => assumption); (case k11 => assumption); (case k12 => assumption)
  intro a0 da ea nea pl es' n' t1' t2' tc' h' tk' F' N' q1 q2 q3 q4 q5 q6 q7 q8 q9 q10 q11 q12
  k_sweep
  ktr_unf
  (rename Fr _ _ _ _ => lF')
  (rename News _ _ _ _ => lN')
  (rename IsRange _ _ _ _ _ _ _ _ => rgX)
  (with_unfolding_all refine' rg_law (n := ks.length) [Str.ofString "par"] (fun q nx => ∃ (ps : List Value) (np : Nat) (T : Led), nx = (pl, listOf ps.toArray np) :: (a0, instObj 61 da) :: (da, dictOf ea nea) :: (dty, dictOf es' n') :: (T ++ rest) ∧ ParsIn T u ps (ks.take q) ∧ (∀ r ∈ T, @LT.lt Nat _ pl r.1)) (by rfl) rgX (small_low40 (by omega)).1 (small_low40 (by omega)).2 lF' lN' ⟨[], 0, [], rfl, by simp [ParsIn], fun _ h => nomatch h⟩ ?_ ?_)
  all_goals clear lF' lN' rgX
  · intro q tq uq nx hq tkq own hq1 hoff hcls hJ F' N'
    obtain ⟨ps, np, T0, rfl, hps, hT0⟩ := hJ
    simp only [List.cons_append, List.append_assoc] at N'
    have hk1 : ks[q]? = some (ks[q]'hq1) := List.getElem?_eq_getElem hq1
    generalize hkk : ks[q]'hq1 = k at hk1
    have hk2 : (ks.map (Int.ofNat ·))[q]? = some (Int.ofNat k) := by rw [List.getElem?_map, hk1]; rfl
    obtain ⟨tk0, hv⟩ := hkv.get q _ hk2
    obtain ⟨R1, eR1⟩ : ∃ R1, R1 = T0 ++ (rest ++ own) := ⟨_, rfl⟩
    rw [← eR1] at N'
    have sR : Sub rest R1 := fun p hp => by rw [eR1]; exact List.mem_append.mpr (.inr (List.mem_append.mpr (.inl hp)))
    have oR : ∀ p ∈ R1, p.1 ≠ pl := by
      intro p hp
      rw [eR1] at hp
      rcases List.mem_append.mp hp with hp | hp
      · exact Nat.ne_of_gt (hT0 p hp)
      · rcases List.mem_append.mp hp with hp | hp
        · have h1 := q12 p hp
          exact Nat.ne_of_lt (Nat.lt_trans h1 (Nat.lt_trans q10 q11))
        · exact hoff p hp _ (.head _)
    have hq40 : q ≤ 1000 := by omega
    have hpl := hps.length
    rw [List.length_take] at hpl
    have hpl2 : ps.length ≤ 1000 := by omega
    have hro : (k == 2) = (Int.ofNat k == 2) := by
      by_cases h : k = 2
      · subst h; rfl
      · have h1 : (k == 2) = false := by simpa using h
        have h2 : (Int.ofNat k == 2) = false := by rw [beq_eq_false_iff_ne]; intro e; apply h; exact Int.ofNat.inj e
        rw [h1, h2]
    ktr_rel
    k_dflt (refine' val_join (kindS k) ?vA ?vB)
    case vA =>
      cases hk0 : (Int.ofNat k == 0) with
      | true =>
        have hkS : kindS k = Str.ofString "var" := by
          have : k = 0 := by have := beq_iff_eq.mp hk0; exact Int.ofNat.inj this
          subst this; rfl
        (repeat' ((fail_if_success (with_reducible show ∃ _, _)); first | (k_unfold; (try dsimp only)) | walk1 | (dsimp only; walk1) | fail "no step"))
        exact ⟨_, _, by rw [hkS], rfl⟩
      | false =>
        have hkS : kindS k = Str.ofString "par" := by
          have : k ≠ 0 := by intro e; subst e; cases hk0
          simp [kindS, this]
        (repeat' ((fail_if_success (with_reducible show ∃ _, _)); first | (k_unfold; (try dsimp only)) | walk1 | (dsimp only; walk1) | fail "no step"))
        exact ⟨_, _, by rw [hkS], rfl⟩
    case vB =>
      intro tS tkS
      dsimp only
      ktr_rel
      refine tower_end _ (by assumption) (by assumption) eR1 hps hk1 hT0 (by k_get) (by rw [hro]; k_get) (by k_get) ?_ ?_ ?_ hoff ?_
      · lcg_off
      · lcg_off
      · exact And.right (And.right (And.right (And.right (by assumption))))
      · (intro z h1 h2; (simp only [List.contains_cons, List.contains_nil, Bool.or_false, Bool.or_eq_false_iff, beq_eq_false_iff_ne, ne_eq] at h2); (simp [h1, h2]; done))
  · intro uq nx hq tkq hJ F' N'
    obtain ⟨ps, np, T0, rfl, hps, hT0⟩ := hJ
    rw [List.take_length] at hps
    obtain ⟨R1, eR1⟩ : ∃ R1, R1 = T0 ++ rest := ⟨_, rfl⟩
    rw [← eR1] at N'
    have sR : Sub rest R1 := fun p hp => by rw [eR1]; exact List.mem_append.mpr (.inr hp)
    have hl : ∀ p ∈ rest, @LT.lt Nat _ p.1 da := q12
    have oR : ∀ p ∈ R1, p.1 ≠ da := by
      intro p hp
      rw [eR1] at hp
      rcases List.mem_append.mp hp with hp | hp
      · exact Nat.ne_of_gt (Nat.lt_trans q10 (Nat.lt_trans q11 (hT0 p hp)))
      · exact Nat.ne_of_lt (hl p hp)
    have hn2 : getL (Str.ofString "none") es' = some (some (.ref na')) := (q7 _ (by decide)).trans hnon
    have hi2 : getL (Str.ofString "integer") es' = some (some (.ref ia)) := (q7 _ (by decide)).trans hitg
    have hres : res = 0 ∨ res = 1 ∨ res = 2 := by omega
    obtain ⟨b, hx, tb'⟩ : ∃ b, [Value.ref na', Value.ref ia, Value.ref u][res.toNat]? = some (.ref b) ∧ TyIn Rb b (if res = 0 then tnon else if res = 1 then titg else tu) := by
      rcases hres with rfl | rfl | rfl
      · exact ⟨na', rfl, tn'⟩
      · exact ⟨ia, rfl, ti'⟩
      · exact ⟨u, rfl, tu'⟩
    clear hres
    have hr40 : res.toNat ≤ 1000 := by omega
    k_steps
    exact hret _ _ _ _ (by assumption) (by assumption) (tower_out eR1 hps tu' tb' hT0 q1 q2 q3 q6 q7 q8 q9 q10 q11 q12 (by assumption) (by assumption))
end
section
theorem fill9 (P : Params) : (PySem.Challenge.rw_pq0743_01 = PySem.Challenge.rw_pq0743_01) ∧ (hd.heap_39 P = hd.heap_39 P) := by
  w_top off
  k_fill
  exact ⟨rfl, rfl⟩
local macro_rules | `(tactic| k_all) => `(tactic| first | assumption | exact allNe_lt (by assumption) | exact allNe_of (by assumption) | exact allNe_of (And.right (by assumption)) | exact allNe_of (And.right (And.right (by assumption))) | exact allNe_of (And.right (And.right (And.right (by assumption)))) | exact allNe_of (And.right (And.right (And.right (And.right (by assumption))))) | exact allNe_of (And.right (And.right (And.right (And.right (And.right (by assumption)))))))
local macro_rules | `(tactic| ktr_unf) => `(tactic| repeat' ((fail_if_success (with_reducible show wpAny _ _ (pyIter (Value.ref _)) _ _ _)); first | (k_unfold; (try dsimp only)) | (k_end; wrow_close) | walk1 | (dsimp only; walk1) | (leave1; walk_say "STEP leave1"; try dsimp only) | fail "no step"))
theorem all_upd {name : Str} {v : Value} {es es' : List DictEntry} (h1 : getL name es' = some (some v)) (h2 : ∀ k, name ≠ k → getL k es' = getL k es) (h : ∀ k, (getL k es).isSome = true) : ∀ k, (getL k es').isSome = true := fun k => by
  by_cases e : name = k
  · rw [← e, h1]; rfl
  · rw [h2 k e]; exact h k
theorem all_str {es : List DictEntry} (h : es.any (·.refKey) = false) : ∀ k, (getL k es).isSome = true := fun k => by
  unfold getL
  split
  · rfl
  · rw [h]; rfl
theorem updF_in {d : Addr} {o : Obj} {l : Led} {g : Obj → Led} (U : UpdF d o l g) : (d, o) ∈ l ∧ (∀ o', Sub (g o') ((d, o') :: Rest d l)) := by
  obtain ⟨pre, post, rfl, hg, a, b⟩ := U.split
  refine ⟨List.mem_append.mpr (.inr (.head _)), fun o' p hp => ?_⟩
  rw [hg] at hp
  rcases List.mem_append.mp hp with hp | hp
  · exact .tail _ (List.mem_filter.mpr ⟨List.mem_append.mpr (.inl hp), by simpa using a p hp⟩)
  · rcases List.mem_cons.mp hp with rfl | hp
    · exact .head _
    · exact .tail _ (List.mem_filter.mpr ⟨List.mem_append.mpr (.inr (.tail _ hp)), by simpa using b p hp⟩)
section
variable {w : World} {p : Program} {loose : List Str} {mean : ExcName → Option Value} {mg mb : Str → Option Value} {dp un : Nat} {gd : Option (List Code)} {cn : Str} {cs : Scope} {a' : Addr} {ccd : Value}
    {cl : List (Str × Addr)} {outer : List Env} {A₀ : Around} {base h₀ : Heap} {L : Addr} {m : Str → Option Value} {s : Shared} {Q E : Value → Shared → Prop} {news : Led} {g : Obj → Led}
theorem use_newU {ty dty : Addr} {es : List DictEntry} {n Bd : Nat} {c : Int} {tc tf ts : Tok} {fm : Str} {sz : Int}
    (B : Below A₀ base outer h₀) (F : Fr h₀ L s.heap m) (X : (hd.heap_39 w.params).In h₀) (N : News h₀ L s.heap news) (U : UpdF dty (dictOf es n) news g) (T : Top p loose mean mg mb h₀) (hk : cs.kind = .function)
    (hd : dp + 20 < recursionLimit) (hu : un + 8 * 20 < cLine) (hty : (ty, instObj 118 dty) ∈ news) (hc : getL (Str.ofString "counter") es = some (some (.int c tc))) (hall : ∀ k, (getL k es).isSome = true) (hz : es.length ≤ Bd) (hB : Bd < 800)
    (ret : ∀ a da ea na pl es' n' t1 t2 tc' h' tk', Fr h₀ L h' m → News h₀ L h' ((pl, listOf ([] : List Value).toArray 0) :: (a, instObj 61 da) :: (da, dictOf ea na) :: g (dictOf es' n')) → getL (Str.ofString "number") ea = some (some (.int (c + 1) t1)) → getL (Str.ofString "form") ea = some (some (.str fm t2)) →
      getL (Str.ofString "params") ea = some (some (.ref pl)) → (∀ k, Str.ofString "base" = k → (getL k ea).isSome = true) → ea.length < 900 → getL (Str.ofString "counter") es' = some (some (.int (c + 1) tc')) → (∀ k, Str.ofString "counter" ≠ k → getL k es' = getL k es) → es'.length ≤ Bd + 1 → (∀ k, (getL k es').isSome = true) →
      @LT.lt Nat _ da a → @LT.lt Nat _ a pl → (∀ p ∈ g (dictOf es' n'), p.1 < da) → Q (.ref a) { s with heap := h', toks := tk' }) :
    wpAny (model PROG w) (ktrTop dp un gd cn cs L a' ccd cl outer) (call (.ref 108) [.ref ty, .str fm tf, .int sz ts]) Q E s := by
  obtain ⟨hin, hout⟩ := updF_in U
  have hne : ty ≠ dty := by
    intro e
    have h1 := (N _ hty).1
    have h2 := (N _ hin).1
    rw [← e] at h2
    rw [h1] at h2
    exact absurd (congrArg Obj.data (Option.some.inj h2)) (by intro e; cases e)
  have N2 : News h₀ L s.heap ((dty, dictOf es n) :: Rest dty news) := by
    intro p hp
    rcases List.mem_cons.mp hp with rfl | hp
    · exact N _ hin
    · exact N _ (Rest.sub p hp)
  refine use_new B F X N2 T hk hd hu (List.mem_filter.mpr ⟨hty, by simpa using hne⟩) Rest.off hc (by omega) ?_
  intro a da ea na pl es' n' t1 t2 tc' h' tk' F' N' q1 q2 q3 q4 q5 q6 q7 q8 q9 q10 q11 q12
  refine ret a da ea na pl es' n' t1 t2 tc' h' tk' F' (fun p hp => ?_) q1 q2 q3 (fun k e => e ▸ q4) ?_ q6 q7 (by omega) (all_upd q6 q7 hall) q10 q11 (fun p hp => ?_)
  · rcases List.mem_cons.mp hp with rfl | hp
    · exact N' _ (.head _)
    · rcases List.mem_cons.mp hp with rfl | hp
      · exact N' _ (.tail _ (.head _))
      · rcases List.mem_cons.mp hp with rfl | hp
        · exact N' _ (.tail _ (.tail _ (.head _)))
        · exact N' _ (.tail _ (.tail _ (.tail _ (hout _ p hp))))
  · exact q5
  · rcases List.mem_cons.mp (hout _ p hp) with rfl | hp
    · exact q9
    · exact q12 p hp
theorem use_takeU {st row : Addr} {t0 : Tok} {n0 nr : Nat} {i most : Int} {tm : Tok} {rvs : List Value} {rns : List Int}
    (B : Below A₀ base outer h₀) (F : Fr h₀ L s.heap m) (X : (hd.heap_39 w.params).In h₀) (N : News h₀ L s.heap news) (U : UpdF st (listOf [Value.ref row, Value.int i t0].toArray n0) news g) (T : Top p loose mean mg mb h₀) (hk : cs.kind = .function)
    (hd : dp + 20 < recursionLimit) (hu : un + 8 * 20 < cLine) (hrow : (row, listOf rvs.toArray nr) ∈ news) (hne : row ≠ st) (hi : IntsAre rvs rns) (hl : rvs.length ≤ 40) (h0 : 0 ≤ i) (h1 : i ≤ 1000) (hm : 0 < most)
    (ret : ∀ v t t' n' h' tk', 0 ≤ v → v < most → Fr h₀ L h' m → News h₀ L h' (g (listOf [Value.ref row, Value.int (i + 1) t'].toArray n')) → Q (.int v t) { s with heap := h', toks := tk' }) :
    wpAny (model PROG w) (ktrTop dp un gd cn cs L a' ccd cl outer) (call (.ref 129) [.ref st, .int most tm]) Q E s := by
  obtain ⟨hin, hout⟩ := updF_in U
  refine tell_use (law_take ⟨t0, n0, hin⟩ hrow hne hi hl h0 h1 hm) B F X N T hk hd hu ?_
  rintro r news' h' tk' F' N' ⟨v, t, rfl, v0, v1, sub, t', n', hst⟩
  refine ret v t t' n' h' tk' v0 v1 F' fun p hp => ?_
  rcases List.mem_cons.mp (hout _ p hp) with rfl | hp
  · exact N' _ hst
  · exact N' _ (sub p hp)
end
local macro_rules | `(tactic| ktr_units) => `(tactic| ((have hcL9 := cLine_is); (simp only [units_under_make, units_in1, units_deeper, Around.mark_units, units_caller]); (try dsimp only [ktrTop]); omega))
local macro_rules | `(tactic| ktr_room) => `(tactic| ((simp only [depth_under_make, depth_under_kw, depth_in1, depth_deeper, depth_caller]); (try dsimp only [ktrTop]); omega))
local macro_rules | `(tactic| walk_at "setAttr ref") => `(tactic| (k_here; k_dflt (refine' set_abs ?k1 ?k2 ?k3 ?k4 ?k5 ?k6 ?k7 ?k8 ?k9 ?k10 ?k11 ?_; (case k1 => k_asm); (case k2 => k_asm); (case k3 => k_asm); (case k4 => k_mem); (case k5 => k_updF); (case k6 => k_is); (case k7 => k_is); (case k8 => k_is); (case k9 => k_is); (case k10 => exact (by assumption : ∀ k, (getL k _).isSome = true) _); (case k11 => first | exact Nat.lt_of_le_of_lt (by assumption) (Nat.le_of_ble_eq_true rfl) | omega)); intro h' es' n' tk' g1' g2' z' F' N'; (try (replace z' := Nat.le_trans z' (Nat.succ_le_succ (by assumption)))); (have hall' := all_upd g1' g2' (by assumption)); (try have fc' := (g2' (Str.ofString "counter") (by decide)).trans (by assumption : getL (Str.ofString "counter") _ = some (some _))); (try have fn' := (g2' (Str.ofString "new") (by decide)).trans (by assumption : getL (Str.ofString "new") _ = some none)); (try have fi' := (g2' (Str.ofString "integer") (by decide)).trans (by assumption : getL (Str.ofString "integer") _ = some (some _))); (try have fo' := (g2' (Str.ofString "none") (by decide)).trans (by assumption : getL (Str.ofString "none") _ = some (some _))); (try dsimp only at N'); (try k_sweep)))
theorem news_drop {h₀ h : Heap} {L : Addr} {q : Addr × Obj} {news : Led} (N : News h₀ L h (q :: news)) : News h₀ L h news := fun p hp => N p (.tail _ hp)
theorem len20 {es es' : List DictEntry} {k : Nat} (h : es'.length ≤ es.length + 1) (h2 : es.length + 1 ≤ k) : es'.length ≤ k := Nat.le_trans h h2
local macro_rules | `(tactic| walk_at "call ref") => `(tactic| (k_here; (with_reducible show wpAny _ _ (call (Value.ref 108) _) _ _ _); k_dflt (refine' use_newU (Bd := _) ?k1 ?k2 ?k3 ?k4 ?k13 ?k5 ?k6 ?k7 ?k8 ?k9 ?k10 ?k11 ?k12 ?k14 ?_; (case k4 => k_asm); (case k1 => k_asm); (case k2 => k_asm); (case k3 => k_asm); (case k5 => k_asm); (case k9 => k_mem); (case k13 => k_updF); (case k12 => first | assumption | exact Nat.le_refl _); (case k6 => first | exact rfl | assumption); (case k7 => first | exact Nat.le_of_ble_eq_true rfl | ktr_room); (case k8 => first | exact Nat.le_of_ble_eq_true rfl | ktr_units); (case k10 => first | assumption | k_get); (case k11 => first | assumption | exact all_str (by rfl)); (case k14 => first | exact Nat.le_of_ble_eq_true rfl | omega)); intro a' da' ea' na' pl' es' n' t1' t2' tc' h' tk' F' N' q1' q2' q3' q4' q5' q6' q7' q8' q9' q10' q11' q12'; (try dsimp only at N'); (try dsimp only at q12'); (try k_lt q12'); (try (replace q8' := len20 (k := 20) q8' (Nat.le_of_ble_eq_true rfl))); (first | ((have kp' : getL (Str.ofString "form") _ = some (some (Value.str (Str.ofString "integer") _)) := q2'); (replace N' := news_drop N')) | ((have kp' : getL (Str.ofString "form") _ = some (some (Value.str (Str.ofString "none") _)) := q2'); (replace N' := news_drop N')) | (replace N' := news_drop (news_drop (news_drop N')))); (have fn' := (q7' (Str.ofString "new") (by decide)).trans (by first | assumption | k_get)); (try have fi' := (q7' (Str.ofString "integer") (by decide)).trans (by assumption : getL (Str.ofString "integer") _ = some (some _))); (try have fo' := (q7' (Str.ofString "none") (by decide)).trans (by assumption : getL (Str.ofString "none") _ = some (some _))); (try k_sweep)))
local macro_rules | `(tactic| walk_at "getMethod ref") => `(tactic| (k_here; k_dflt (refine' method_inst ?k1 ?k2 ?k3 ?k4 ?k5 ?k6 ?k7 ?_; (case k1 => k_asm); (case k2 => k_asm); (case k3 => k_inst); (case k4 => k_is); (case k5 => k_is); (case k6 => k_is); (case k7 => assumption); k_whole)))
def OutTypes (news news' : Led) (r : Value) : Prop :=
  ∃ ty dty es n na ia T tc, r = .ref ty ∧ Sub ((dty, dictOf es n) :: (ty, instObj 118 dty) :: (T ++ news)) news' ∧ TyIn T na (.non 7) ∧ TyIn T ia (.itg 4) ∧ getL (Str.ofString "counter") es = some (some (.int 7 tc)) ∧ getL (Str.ofString "none") es = some (some (.ref na)) ∧ getL (Str.ofString "integer") es = some (some (.ref ia)) ∧
    getL (Str.ofString "new") es = some none ∧ (∀ k, (getL k es).isSome = true) ∧ es.length ≤ 100 ∧ @LT.lt Nat _ dty ty ∧ (∀ q ∈ T, @LT.lt Nat _ ty q.1) ∧ (∀ p ∈ news, @LT.lt Nat _ p.1 dty)
theorem types_out {ty dty a7 d7 a4 d4 : Addr} {p1 : Addr × Obj} {news : Led} {es ea7 ea4 : List DictEntry} {n n7 n4 : Nat} {t1 t2 t3 t4 tc : Tok} (h7 : getL (Str.ofString "number") ea7 = some (some (.int 7 t1))) (f7 : getL (Str.ofString "form") ea7 = some (some (.str (Str.ofString "none") t2)))
    (h4 : getL (Str.ofString "number") ea4 = some (some (.int 4 t3))) (f4 : getL (Str.ofString "form") ea4 = some (some (.str (Str.ofString "integer") t4))) (hc : getL (Str.ofString "counter") es = some (some (.int 7 tc))) (hn : getL (Str.ofString "none") es = some (some (.ref a7))) (hi : getL (Str.ofString "integer") es = some (some (.ref a4)))
    (hw : getL (Str.ofString "new") es = some none) (hall : ∀ k, (getL k es).isSome = true) (hlen : es.length ≤ 100) (o1 : @LT.lt Nat _ dty ty) (o2 : @LT.lt Nat _ ty a7) (o3 : @LT.lt Nat _ ty d7) (o4 : @LT.lt Nat _ ty a4) (o5 : @LT.lt Nat _ ty d4) (olt : ∀ p ∈ news, p.1 < dty) :
    OutTypes news ((a7, instObj 61 d7) :: (d7, dictOf ea7 n7) :: (a4, instObj 61 d4) :: (d4, dictOf ea4 n4) :: p1 :: (ty, instObj 118 dty) :: (dty, dictOf es n) :: news) (.ref ty) := by
  refine ⟨ty, dty, es, n, a7, a4, [(a7, instObj 61 d7), (d7, dictOf ea7 n7), (a4, instObj 61 d4), (d4, dictOf ea4 n4)], tc, rfl, ?_, ?_, ?_, hc, hn, hi, hw, hall, hlen, o1, ?_, olt⟩
  · intro p hp
    simp only [List.cons_append, List.nil_append, List.mem_cons] at hp ⊢
    rcases hp with h | h | h | h | h | h | h <;> simp [h]
  · exact ⟨ea7, d7, n7, t1, t2, .head _, .tail _ (.head _), h7, f7⟩
  · exact ⟨ea4, d4, n4, t3, t4, .tail _ (.tail _ (.head _)), .tail _ (.tail _ (.tail _ (.head _))), h4, f4⟩
  · intro q hq
    simp only [List.mem_cons, List.not_mem_nil, or_false] at hq
    rcases hq with rfl | rfl | rfl | rfl <;> assumption
theorem tell_types {w : World} {news : Led} : Tell w 118 [] news 80 (OutTypes news) := by
  intro p loose mean mg mb dp un gd cn cs a ccd cl outer A₀ base h₀ L m s Q E B F X N T hk hd hu hret
  k_dflt (refine' call_cls ?k1 ?k2 ?k3 ?k4 ?k5 ?k6 ?_; (case k1 => k_asm); (case k2 => k_asm); (case k3 => k_asm); (case k4 => k_is); (case k5 => k_is); (case k6 => k_is))
  intro ty dty h' F' N' l1 l2
  replace l2 := ltN l2
  k_sweep
  k_dflt tb_rel
  ktr_unf
  refine hret _ _ _ _ (by assumption) (by assumption) (types_out (by assumption) (by assumption) (by assumption) (by assumption) (by assumption) (by assumption) (by assumption) (by assumption) (by assumption) ?_ l2 ?_ ?_ ?_ ?_ l1)
  all_goals first | lcg_off | omega
end
def baseOf (r : Int) (t : Ty) : Ty := if r = 0 then .non 7 else if r = 1 then .itg 4 else t
theorem eqT_refl (t : Ty) : eqT t t = true := eqT_num (by simp)
theorem eqP_refl : ∀ {t : Ty}, t.isProc = true → eqP t t = true
  | .proc _ ks u b, _ => by simp [eqP, eqT_refl]
  | .non _, h => nomatch h
  | .itg _, h => nomatch h
theorem Fine.mono {gm gm' : Int → Ty} {c : Int} (h : ∀ x, x ≤ c → gm' x = gm x) : ∀ {t : Ty}, Fine gm t → t.num ≤ c → Fine gm' t
  | .non n, hf, hc => ⟨(h n hc).trans hf.1, hf.2⟩
  | .itg n, hf, hc => ⟨(h n hc).trans hf.1, hf.2⟩
  | .proc n ks u b, ⟨h1, h2, h3, h4, h5, h6⟩, hc => by
    have hc' : n ≤ c := hc
    exact ⟨(h n hc).trans h1, h2, h3, h4, Fine.mono h h5 (by omega), Fine.mono h h6 (by omega)⟩
/-- what stands at one height -/
structure Lvl (gm : Int → Ty) (c : Int) (k : Nat) (f s : Ty) (d : Bool) : Prop where
  ff : Fine gm f
  fs : Fine gm s
  pf : f.isProc = true
  ps : s.isProc = true
  hf : f.ht ≤ k + 1
  hs : s.ht ≤ k + 1
  nf : 8 ≤ f.num ∧ f.num ≤ c
  ns : 8 ≤ s.num ∧ s.num ≤ c
  e1 : eqP f s = d
  e2 : eqT s f = d
  e3 : eqT f s = d
theorem Lvl.mono {gm gm' : Int → Ty} {c c' : Int} {k : Nat} {f s : Ty} {d : Bool} (h : ∀ x, x ≤ c → gm' x = gm x) (hc : c ≤ c') (l : Lvl gm c k f s d) : Lvl gm' c' k f s d :=
  { ff := l.ff.mono h l.nf.2, fs := l.fs.mono h l.ns.2, pf := l.pf, ps := l.ps, hf := l.hf, hs := l.hs, nf := ⟨l.nf.1, Int.le_trans l.nf.2 hc⟩, ns := ⟨l.ns.1, Int.le_trans l.ns.2 hc⟩, e1 := l.e1, e2 := l.e2, e3 := l.e3 }
theorem Lvl.start {gm : Int → Ty} (h7 : gm 7 = .non 7) (h8 : gm 8 = .proc 8 [] (.non 7) (.non 7)) (h9 : gm 9 = .proc 9 [] (.non 7) (.non 7)) : Lvl gm 9 0 (.proc 8 [] (.non 7) (.non 7)) (.proc 9 [] (.non 7) (.non 7)) true :=
  { ff := ⟨h8, by decide, by decide, by decide, ⟨h7, by decide, by decide⟩, ⟨h7, by decide, by decide⟩⟩, fs := ⟨h9, by decide, by decide, by decide, ⟨h7, by decide, by decide⟩, ⟨h7, by decide, by decide⟩⟩, pf := rfl, ps := rfl, hf := by decide, hs := by decide, nf := by decide, ns := by decide, e1 := by decide, e2 := by decide, e3 := by decide }
def gmAdd (gm : Int → Ty) (n : Int) (t : Ty) : Int → Ty := fun x => if x = n then t else gm x
theorem gmAdd_old {gm : Int → Ty} {c n : Int} {t : Ty} (h : c < n) : ∀ x, x ≤ c → gmAdd gm n t x = gm x := fun x hx => by
  unfold gmAdd; rw [if_neg (by omega)]
theorem gmAdd_new {gm : Int → Ty} {n : Int} {t : Ty} : gmAdd gm n t n = t := by unfold gmAdd; rw [if_pos rfl]
theorem baseOf_fine {gm : Int → Ty} {c r : Int} {k : Nat} {f s : Ty} {d : Bool} (h7 : gm 7 = .non 7) (h4 : gm 4 = .itg 4) (l : Lvl gm c k f s d) : Fine gm (baseOf r f) ∧ (baseOf r f).num ≤ c ∧ (baseOf r f).ht ≤ k + 1 ∧ Fine gm (baseOf r s) ∧ (baseOf r s).num ≤ c ∧ (baseOf r s).ht ≤ k + 1 := by
  have h8 := l.nf
  unfold baseOf
  split
  · exact ⟨⟨h7, by decide, by decide⟩, by simp only [Ty.num]; omega, Nat.zero_le _, ⟨h7, by decide, by decide⟩, by simp only [Ty.num]; omega, Nat.zero_le _⟩
  · split
    · exact ⟨⟨h4, by decide, by decide⟩, by simp only [Ty.num]; omega, Nat.zero_le _, ⟨h4, by decide, by decide⟩, by simp only [Ty.num]; omega, Nat.zero_le _⟩
    · exact ⟨l.ff, l.nf.2, l.hf, l.fs, l.ns.2, l.hs⟩
/-- one type that both towers share from here on -/
theorem Lvl.share {gm : Int → Ty} {c r : Int} {k : Nat} {f s : Ty} {d : Bool} {ks : List Nat} (h7 : gm 7 = .non 7) (h4 : gm 4 = .itg 4) (hc : c < 90) (hk : ks.length ≤ 3 ∧ ∀ x ∈ ks, x < 3) (l : Lvl gm c k f s d) :
    Lvl (gmAdd gm (c + 1) (.proc (c + 1) ks f (baseOf r f))) (c + 1) (k + 1) (.proc (c + 1) ks f (baseOf r f)) (.proc (c + 1) ks f (baseOf r f)) true := by
  have hb := baseOf_fine (r := r) h7 h4 l
  have h8 := l.nf
  have old := gmAdd_old (gm := gm) (t := .proc (c + 1) ks f (baseOf r f)) (show c < c + 1 by omega)
  have hF : Fine (gmAdd gm (c + 1) (.proc (c + 1) ks f (baseOf r f))) (.proc (c + 1) ks f (baseOf r f)) :=
    ⟨gmAdd_new, by omega, by omega, hk, l.ff.mono old l.nf.2, hb.1.mono old hb.2.1⟩
  have hh : (Ty.proc (c + 1) ks f (baseOf r f)).ht ≤ k + 1 + 1 := by have := l.hf; have := hb.2.2.1; simp only [Ty.ht]; omega
  have hn : 8 ≤ (Ty.proc (c + 1) ks f (baseOf r f)).num ∧ (Ty.proc (c + 1) ks f (baseOf r f)).num ≤ c + 1 := by simp only [Ty.num]; omega
  exact { ff := hF, fs := hF, pf := rfl, ps := rfl, hf := hh, hs := hh, nf := hn, ns := hn, e1 := eqP_refl rfl, e2 := eqT_refl _, e3 := eqT_refl _ }
theorem base_eq {gm : Int → Ty} {c r r' : Int} {k : Nat} {f s : Ty} {d : Bool} (hr : 0 ≤ r ∧ r < 3) (hr' : 0 ≤ r' ∧ r' < 3) (l : Lvl gm c k f s d) : eqT (baseOf r f) (baseOf r' s) = (r == r' && (decide (r < 2) || d)) ∧ eqT (baseOf r' s) (baseOf r f) = (r == r' && (decide (r < 2) || d)) := by
  have h8 := l.nf
  have h9 := l.ns
  have c1 : ∀ x : Int, x < 8 → (x == f.num) = false ∧ (f.num == x) = false ∧ (x == s.num) = false ∧ (s.num == x) = false := by
    intro x hx
    refine ⟨?_, ?_, ?_, ?_⟩ <;> rw [beq_eq_false_iff_ne] <;> omega
  have d7 := c1 7 (by decide)
  have d4 := c1 4 (by decide)
  have a1 : r = 0 ∨ r = 1 ∨ r = 2 := by omega
  have a2 : r' = 0 ∨ r' = 1 ∨ r' = 2 := by omega
  rcases a1 with rfl | rfl | rfl <;> rcases a2 with rfl | rfl | rfl
  · exact ⟨rfl, rfl⟩
  · exact ⟨rfl, rfl⟩
  · exact ⟨(eqT_left rfl).trans d7.2.2.1, (eqT_right rfl).trans d7.2.2.2⟩
  · exact ⟨rfl, rfl⟩
  · exact ⟨rfl, rfl⟩
  · exact ⟨(eqT_left rfl).trans d4.2.2.1, (eqT_right rfl).trans d4.2.2.2⟩
  · exact ⟨(eqT_right rfl).trans d7.2.1, (eqT_left rfl).trans d7.1⟩
  · exact ⟨(eqT_right rfl).trans d4.2.1, (eqT_left rfl).trans d4.1⟩
  · exact ⟨l.e3, l.e2⟩
theorem Lvl.step {gm : Int → Ty} {c r r' : Int} {k : Nat} {f s : Ty} {d : Bool} {ks ks' : List Nat} (h7 : gm 7 = .non 7) (h4 : gm 4 = .itg 4) (hc : c < 90) (hk : ks.length ≤ 3 ∧ ∀ x ∈ ks, x < 3) (hk' : ks'.length ≤ 3 ∧ ∀ x ∈ ks', x < 3) (hr : 0 ≤ r ∧ r < 3) (hr' : 0 ≤ r' ∧ r' < 3) (hne : ks ≠ []) (l : Lvl gm c k f s d) :
    Lvl (gmAdd (gmAdd gm (c + 1) (.proc (c + 1) ks f (baseOf r f))) (c + 2) (.proc (c + 2) ks' s (baseOf r' s))) (c + 2) (k + 1) (.proc (c + 1) ks f (baseOf r f)) (.proc (c + 2) ks' s (baseOf r' s))
      (decide (ks' = ks) && d && (r == r' && (decide (r < 2) || d))) := by
  have hb := baseOf_fine (r := r) h7 h4 l
  have hb' := baseOf_fine (r := r') h7 h4 l
  have h8 := l.nf
  have h9 := l.ns
  have be := base_eq hr hr' l
  have o1 := gmAdd_old (gm := gm) (t := .proc (c + 1) ks f (baseOf r f)) (show c < c + 1 by omega)
  have o2 := gmAdd_old (gm := gmAdd gm (c + 1) (.proc (c + 1) ks f (baseOf r f))) (t := .proc (c + 2) ks' s (baseOf r' s)) (show c + 1 < c + 2 by omega)
  have o3 : ∀ x, x ≤ c → gmAdd (gmAdd gm (c + 1) (.proc (c + 1) ks f (baseOf r f))) (c + 2) (.proc (c + 2) ks' s (baseOf r' s)) x = gm x := fun x hx => (o2 x (by omega)).trans (o1 x hx)
  have hn0 : ((c + 1) == (c + 2)) = false := by rw [beq_eq_false_iff_ne]; omega
  have hn1 : ((c + 2) == (c + 1)) = false := by rw [beq_eq_false_iff_ne]; omega
  have hE1 : eqP (.proc (c + 1) ks f (baseOf r f)) (.proc (c + 2) ks' s (baseOf r' s)) = (decide (ks' = ks) && d && (r == r' && (decide (r < 2) || d))) := by
    have hnil : (ks == []) = false := by rw [beq_eq_false_iff_ne]; exact hne
    simp only [eqP, be.1, l.e3, hnil, Bool.false_or]
    by_cases h : ks' = ks
    · subst h; simp
    · have h' : (ks == ks') = false := by rw [beq_eq_false_iff_ne]; exact fun e => h e.symm
      simp [h, h']
  have hE2 : eqP (.proc (c + 2) ks' s (baseOf r' s)) (.proc (c + 1) ks f (baseOf r f)) = (decide (ks' = ks) && d && (r == r' && (decide (r < 2) || d))) := by
    simp only [eqP, be.2, l.e2]
    by_cases h : ks' = ks
    · subst h
      have hnil : (ks' == []) = false := by rw [beq_eq_false_iff_ne]; exact hne
      simp [hnil]
    · have h' : (ks' == ks) = false := by rw [beq_eq_false_iff_ne]; exact h
      simp [h, h']
  refine { ff := ⟨(o2 _ (by omega)).trans gmAdd_new, by omega, by omega, hk, l.ff.mono o3 l.nf.2, hb.1.mono o3 hb.2.1⟩, fs := ⟨gmAdd_new, by omega, by omega, hk', l.fs.mono o3 l.ns.2, hb'.2.2.2.1.mono o3 hb'.2.2.2.2.1⟩, pf := rfl, ps := rfl, hf := ?_, hs := ?_, nf := ?_, ns := ?_, e1 := hE1, e2 := (eqT_both (a := .proc (c + 2) ks' s (baseOf r' s)) (b := .proc (c + 1) ks f (baseOf r f)) rfl rfl hn1).trans hE2, e3 := (eqT_both (a := .proc (c + 1) ks f (baseOf r f)) (b := .proc (c + 2) ks' s (baseOf r' s)) rfl rfl hn0).trans hE1 }
  · have := l.hf; have := hb.2.2.1; simp only [Ty.ht]; omega
  · have := l.hs; have := hb'.2.2.2.2.2; simp only [Ty.ht]; omega
  · simp only [Ty.num]; omega
  · simp only [Ty.num]; omega
def lawParts : List Stmt × Scope := match PROG.main.body.getLast? with
  | some (.FunctionDef _ _ b _ _ _ sc _ _ _) => (b, sc)
  | _ => ([], { kind := .function, names := [], isGenerator := false, isCoroutine := false, more := [] })
def lawScope : Scope := lawParts.2
def loopOf (n : Nat) : List Stmt := match lawParts.1[n]? with
  | some (.For _ _ b _ _) => b
  | _ => []
abbrev lawEnv (L fa : Addr) (ccd : Value) : Env := envOfC (Str.ofString "law") lawScope L fa ccd
theorem if_join {M : Model} {A : Around} {E : Value → Shared → Prop} {s : Shared} {env : Env} {st : Stmt} {rest : List Stmt} {Q : Flow → Shared → Prop} (P : Shared → Prop)
    (h1 : wpAny M A (exec st env) (fun f s' => f = .next ∧ P s') E s) (h2 : ∀ s', P s' → wpAny M A (execs rest env) Q E s') : wpAny M A (execs (st :: rest) env) Q E s :=
  wpAny_execs_cons (wpAny_mono h1 (fun f s' hh => by obtain ⟨e, p⟩ := hh; subst e; exact h2 s' p) fun _ _ e => e)
def natInts (ks : List Nat) : List Int := ks.map (Int.ofNat ·)
def Kinds (vs : List Value) (ks : List Nat) : Prop := IntsAre vs (natInts ks) ∧ ks.length ≤ 3 ∧ ∀ k ∈ ks, k < 3
theorem Kinds.len {vs : List Value} {ks : List Nat} (h : Kinds vs ks) : vs.length = ks.length := by
  have := h.1.length; simp only [natInts, List.length_map] at this; omega
theorem IntsAre.snoc {t : Tok} {k : Int} : ∀ {vs : List Value} {ns : List Int}, IntsAre vs ns → IntsAre (vs ++ [.int k t]) (ns ++ [k])
  | _, _, .nil => .cons k t .nil
  | _, _, .cons z u r => .cons z u (IntsAre.snoc r)
def KindsN (n : Nat) (vs : List Value) (ks : List Nat) : Prop := IntsAre vs (natInts ks) ∧ ks.length = n ∧ ∀ k ∈ ks, k < 3
theorem KindsN.snoc {n : Nat} {vs : List Value} {ks : List Nat} {v : Int} {t : Tok} (h : KindsN n vs ks) (h0 : 0 ≤ v) (h1 : v < 3) : KindsN (n + 1) (vs ++ [.int v t]) (ks ++ [v.toNat]) := by
  refine ⟨?_, ?_, ?_⟩
  · have e : natInts (ks ++ [v.toNat]) = natInts ks ++ [v] := by
      simp only [natInts, List.map_append, List.map_cons, List.map_nil]
      congr 2
      exact Int.toNat_of_nonneg h0
    rw [e]; exact IntsAre.snoc h.1
  · simp [h.2.1]
  · intro k hk
    rcases List.mem_append.mp hk with hk | hk
    · exact h.2.2 k hk
    · rw [List.mem_singleton.mp hk]; omega
section
variable {prog : Program} {w : World} {A : Around} {h₀ : Heap} {L : Addr} {m : Str → Option Value} {env : Env} {elt : Expr} {x : Str} {scope : Scope} {cl : List (Str × Addr)} {s : Shared} {S : List (Addr × Obj) → Prop} {P : Nat → Value → Prop} {Fin : List Value → List (Addr × Obj) → Prop}
def TakeOut (st row : Addr) (a0 : Int) (tl : Led) (y : Value) (news' : Led) : Prop := ∃ (t' : Tok) (n' : Nat) (v : Int) (tv : Tok), y = .int v tv ∧ 0 ≤ v ∧ v < 3 ∧ news' = (st, listOf [Value.ref row, Value.int (a0 + 1) t'].toArray n') :: tl
theorem comp_rest {n : Nat} {st row : Addr} {a0 : Int} {t0 : Tok} {n0 : Nat} {tl : Led} (h0 : 0 ≤ a0) (hS : ∀ l, S l)
    (turn : ∀ (a1 : Int) (t1 : Tok) (n1 : Nat) I oI C oC D m₂ ys h tk (E' : Value → Shared → Prop), 0 ≤ a1 → a1 ≤ a0 + n → LCg.NsObj oC m₂ → Fr h₀ L h m → News h₀ L h ((I, oI) :: (C, oC) :: (D, LCg.lst ys) :: (st, listOf [Value.ref row, Value.int a1 t1].toArray n1) :: tl) →
      LCg.Off3 I C D ((st, listOf [Value.ref row, Value.int a1 t1].toArray n1) :: tl) → ((@Ne Nat I C) ∧ (@Ne Nat I D) ∧ (@Ne Nat C D)) →
      wpAny (model prog w) A (eval elt (compEnvC scope cl C env)) (LCg.CompEnd h₀ L m { s with heap := h, toks := tk } I oI C oC D (LCg.lst ys) S (TakeOut st row a1 tl)) E' { s with heap := h, toks := tk })
    (fin : ∀ ys ks t1 n1, KindsN n ys ks → Fin ys ((st, listOf [Value.ref row, Value.int (a0 + n) t1].toArray n1) :: tl)) :
    LCg.CompRest prog w A h₀ L m env elt x scope cl s S P Fin n 0 [] ((st, listOf [Value.ref row, Value.int a0 t0].toArray n0) :: tl) := by
  have key : ∀ (j i : Nat) (ys : List Value) (ks : List Nat) (t1 : Tok) (n1 : Nat), i + j = n → KindsN i ys ks → LCg.CompRest prog w A h₀ L m env elt x scope cl s S P Fin j i ys ((st, listOf [Value.ref row, Value.int (a0 + i) t1].toArray n1) :: tl) := by
    intro j
    induction j with
    | zero =>
      intro i ys ks t1 n1 hi hk
      have e : i = n := by omega
      subst e
      exact LCg.CompRest.zero (fin ys ks t1 n1 hk)
    | succ j ih =>
      intro i ys ks t1 n1 hi hk
      refine LCg.CompRest.succ ?_
      intro v I oI C oC D m₂ h tk E' hv hC hx F N off ne
      refine wpAny_mono (turn (a0 + i) t1 n1 I oI C oC D m₂ ys h tk E' (by omega) (by omega) hC F N off ne) (fun y s₂ hq => ?_) fun _ _ e => e
      obtain ⟨h', tk', nw, e, F', N', off', hS', t', n', v', tv, rfl, v0, v1, rfl⟩ := hq
      refine ⟨h', tk', _, e, F', N', off', hS', ?_⟩
      have h2 := ih (i + 1) (ys ++ [.int v' tv]) (ks ++ [v'.toNat]) t' n' (by omega) (hk.snoc v0 v1)
      have e2 : a0 + ((i + 1 : Nat) : Int) = a0 + (i : Int) + 1 := by omega
      rw [e2] at h2
      exact h2
  have h1 := key n 0 [] [] t0 n0 (by omega) ⟨.nil, rfl, fun _ h => nomatch h⟩
  have e : a0 + ((0 : Nat) : Int) = a0 := by omega
  rw [e] at h1
  exact h1
end
section
variable {w : World} {p : Program} {loose : List Str} {mean : ExcName → Option Value} {mg mb : Str → Option Value} {dp un : Nat} {gd : Option (List Code)} {cn : Str} {cs : Scope} {a' : Addr} {ccd : Value}
    {cl : List (Str × Addr)} {outer : List Env} {A₀ : Around} {base h₀ : Heap} {L : Addr} {m : Str → Option Value} {s : Shared} {Q E : Value → Shared → Prop} {news : Led} {g : Obj → Led}
theorem rest_in {d : Addr} {o o' : Obj} {l : Led} (U : UpdF d o l g) : ∀ p ∈ g o', p = (d, o') ∨ p ∈ Rest d l := fun p hp => List.mem_cons.mp ((updF_in U).2 o' p hp)
theorem mem_rest {d : Addr} {q : Addr × Obj} {l : Led} (h : q ∈ l) (hn : q.1 ≠ d) : q ∈ Rest d l := List.mem_filter.mpr ⟨h, by simpa using hn⟩
/-- the call of the builder of types, upon a written ledger -/
theorem use_tower {ty dty u na' ia kl : Addr} {es : List DictEntry} {n nk : Nat} {c : Int} {tc tr : Tok} {ks : List Nat} {kvs : List Value} {tu : Ty} {res : Int} {R : Led}
    (B : Below A₀ base outer h₀) (F : Fr h₀ L s.heap m) (X : (hd.heap_39 w.params).In h₀) (N : News h₀ L s.heap news) (U : UpdF dty (dictOf es n) news g) (T : Top p loose mean mg mb h₀) (hk : cs.kind = .function)
    (hd : dp + 40 < recursionLimit) (hu : un + 8 * 40 < cLine) (offR : ∀ p ∈ R, p.1 ≠ dty) (sR : ∀ p ∈ R, p ∈ news) (hty : (ty, instObj 118 dty) ∈ R) (hc : getL (Str.ofString "counter") es = some (some (.int c tc))) (hz : es.length < 900) (hnew : getL (Str.ofString "new") es = some none)
    (hnon : getL (Str.ofString "none") es = some (some (.ref na'))) (hitg : getL (Str.ofString "integer") es = some (some (.ref ia))) (tu' : TyIn R u tu) (tn' : TyIn R na' (.non 7)) (ti' : TyIn R ia (.itg 4)) (hkl : (kl, listOf kvs.toArray nk) ∈ news) (hkld : kl ≠ dty) (hkv : Kinds kvs ks)
    (h0 : 0 ≤ res) (h1 : res < 3)
    (ret : ∀ a es' n' T tc' h' tk', Fr h₀ L h' m → News h₀ L h' (T ++ g (dictOf es' n')) → (∀ R', Sub T R' → Sub R R' → TyIn R' a (.proc (c + 1) ks tu (baseOf res tu))) → (∀ q ∈ T, ∀ p ∈ news, p.1 ≠ q.1) →
      getL (Str.ofString "counter") es' = some (some (.int (c + 1) tc')) → (∀ k, Str.ofString "counter" ≠ k → getL k es' = getL k es) → es'.length ≤ es.length + 1 → Q (.ref a) { s with heap := h', toks := tk' }) :
    wpAny (model PROG w) (ktrTop dp un gd cn cs L a' ccd cl outer) (call (.ref 136) [.ref ty, .ref u, .ref kl, .int res tr]) Q E s := by
  have hin := (updF_in U).1
  have hsR : Sub R (Rest dty news) := fun p hp => mem_rest (sR p hp) (offR p hp)
  have N2 : News h₀ L s.heap ((dty, dictOf es n) :: Rest dty news) := by
    intro p hp
    rcases List.mem_cons.mp hp with rfl | hp
    · exact N _ hin
    · exact N _ (Rest.sub p hp)
  refine tell_use (tell_tower (rest := Rest dty news) (Rb := R) (na' := na') (ia := ia) (hsR _ hty) Rest.off hc hz hnew hnon hitg tu' tn' ti' (mem_rest hkl hkld) hkv.1 hkv.2.1 hkv.2.2 h0 h1) B F X N2 T hk hd hu ?_
  rintro r news' h' tk' F' N' ⟨a, es', n', T', tc', rfl, sub, hT, l1, l2, q1, q2, q3⟩
  refine ret a es' n' T' tc' h' tk' F' (fun p hp => ?_) (fun R' s1 s2 => ?_) (fun q hq p hp => ?_) q1 q2 q3
  · rcases List.mem_append.mp hp with hp | hp
    · exact N' _ (sub _ (.tail _ (List.mem_append.mpr (.inl hp))))
    · rcases rest_in U p hp with rfl | hp
      · exact N' _ (sub _ (.head _))
      · exact N' _ (sub _ (.tail _ (List.mem_append.mpr (.inr hp))))
  · exact hT.mono fun p hp => (List.mem_append.mp hp).elim (s1 p) (s2 p)
  · by_cases e : p.1 = dty
    · rw [e]; exact Nat.ne_of_lt (l2 q hq)
    · exact Nat.ne_of_lt (l1 q hq p (mem_rest hp e))
end
section
variable {w : World} {A : Around} {E : Value → Shared → Prop} {s : Shared} {h₀ : Heap} {L : Addr} {m : Str → Option Value} {news : Led} {g : Obj → Led}
theorem set_zero {D : Addr} {vs : List Value} {n : Nat} {x : Int} {u tk : Tok} {Q : Unit → Shared → Prop} (F : Fr h₀ L s.heap m) (N : News h₀ L s.heap news) (U : UpdF D (listOf vs.toArray n) news g) (h0 : 0 < vs.length)
    (h : ∀ h', Fr h₀ L h' m → News h₀ L h' (g (listOf (vs.set 0 (.int x u)).toArray n)) → Q () { s with heap := h' }) : wpAny (model PROG w) A (setItem (.ref D) (.int 0 tk) (.int x u)) Q E s := by
  obtain ⟨pre, post, rfl, hg, a, b⟩ := U.split
  have z := N (D, listOf _ n) (List.mem_append.mpr (.inr (.head _)))
  rw [hg] at h
  refine ki_setAt z.1 (by decide) (by decide) (by simpa using h0) (h _ (F.change (Heap.SameBut.update ..) z.2.1 z.2.2) (ki_turn _ N a b ?_ ?_))
  · show vs.toArray.setIfInBounds 0 (Value.int x u) = _
    simp
  · simp
theorem natInts_set {x : Int} (h0 : 0 ≤ x) (ks : List Nat) : natInts (ks.set 0 x.toNat) = (natInts ks).set 0 x := by
  cases ks with
  | nil => rfl
  | cons k r => simp only [natInts, List.set_cons_zero, List.map_cons]; congr 1; exact Int.toNat_of_nonneg h0
theorem Kinds.set0 {vs : List Value} {ks : List Nat} {x : Int} {u : Tok} (h : Kinds vs ks) (h0 : 0 ≤ x) (h1 : x < 3) : Kinds (vs.set 0 (.int x u)) (ks.set 0 x.toNat) := by
  refine ⟨?_, ?_, ?_⟩
  · rw [natInts_set h0]
    have hi := h.1
    revert hi
    generalize natInts ks = ns
    intro hi
    cases hi with
    | nil => exact .nil
    | cons z t r => exact .cons x u r
  · rw [List.length_set]; exact h.2.1
  · intro k hk
    rcases List.mem_or_eq_of_mem_set hk with hk | hk
    · exact h.2.2 k hk
    · rw [hk]; omega
theorem Kinds.take {vs zs : List Value} {ks : List Nat} {n : Nat} (h : Kinds vs ks) (hz : IntsAre zs ((natInts ks).take n)) : Kinds zs (ks.take n) := by
  refine ⟨?_, ?_, ?_⟩
  · simpa only [natInts, List.map_take] using hz
  · have := h.2.1; simp only [List.length_take]; omega
  · exact fun k hk => h.2.2 k (List.mem_of_mem_take hk)
theorem KindsN.kinds {n : Nat} {vs : List Value} {ks : List Nat} (h : KindsN n vs ks) (hn : n ≤ 3) : Kinds vs ks := ⟨h.1, by rw [h.2.1]; exact hn, h.2.2⟩
theorem Fr.eqm {h : Heap} {m' : Str → Option Value} (F : Fr h₀ L h m) (e : ∀ y, m y = m' y) : Fr h₀ L h m' := (funext e : m = m') ▸ F
theorem off1_of {D : Addr} : ∀ {l : Led}, LCg.Off1 D l → ∀ p ∈ l, p.1 ≠ D
  | [], _, _, h => nomatch h
  | q :: r, x, p, h => by
    rcases List.mem_cons.mp h with rfl | h
    · exact x.1
    · exact off1_of x.2 p h
end
theorem nat_pred {i : Nat} : ((i + 1 : Nat) : Int) - 1 = (i : Int) := by omega
theorem nn_bnds {a0 : Int} {nn i : Nat} (h0 : 0 ≤ a0) (h1 : a0 ≤ 1 + 6 * i) (hi : i < 16) (hn : nn ≤ 3) : (0 ≤ a0 + 1 + nn ∧ a0 + 1 + nn ≤ 1000) ∧ (0 ≤ a0 + 1 + nn + 1 ∧ a0 + 1 + nn + 1 ≤ 1000) ∧ (0 ≤ a0 + 1 + nn + 1 + 1 ∧ a0 + 1 + nn + 1 + 1 ≤ 1 + 6 * ((i : Int) + 1)) := by omega
theorem len_bnds {f i : Nat} (h : f = i + 1) (hi : i < 16) : f ≤ 1000 := by omega
theorem i_bnds {i : Nat} (hi : i < 16) : i ≤ 1000 ∧ i + 1 ≤ 1000 := by omega
theorem es_bnds {e e1 e2 i : Nat} (h : e ≤ 102 + 2 * i) (hi : i < 16) (h1 : e1 ≤ e + 1) : e < 900 ∧ e1 < 900 ∧ e1 ≤ 102 + 2 * (i + 1) ∧ (e2 ≤ e1 + 1 → e2 ≤ 102 + 2 * (i + 1)) := by omega
theorem c_bnds {c : Int} {i : Nat} (h0 : 9 ≤ c) (h1 : c ≤ 9 + 2 * i) (hi : i < 16) : (9 ≤ c + 1 ∧ c + 1 ≤ 9 + 2 * ((i : Int) + 1)) ∧ (9 ≤ c + 2 ∧ c + 2 ≤ 9 + 2 * ((i : Int) + 1)) ∧ c < 90 ∧ c ≤ c + 1 ∧ c ≤ c + 2 ∧ c < c + 1 := by omega
theorem nn_of {v : Int} (h0 : 0 ≤ v) (h1 : v < 3) : ∃ nn : Nat, 1 + v = (nn : Int) ∧ 1 ≤ nn ∧ nn ≤ 3 := ⟨(1 + v).toNat, by omega, by omega, by omega⟩
theorem six {v : Int} (h0 : 0 ≤ v) (h1 : v < 6) : v = 1 ∨ v = 2 ∨ v = 3 ∨ ((v == 1) = false ∧ (v == 2) = false ∧ (v == 3) = false) := by
  have h : v = 1 ∨ v = 2 ∨ v = 3 ∨ v = 0 ∨ v = 4 ∨ v = 5 := by omega
  rcases h with rfl | rfl | rfl | rfl | rfl | rfl
  · exact .inl rfl
  · exact .inr (.inl rfl)
  · exact .inr (.inr (.inl rfl))
  · exact .inr (.inr (.inr ⟨rfl, rfl, rfl⟩))
  · exact .inr (.inr (.inr ⟨rfl, rfl, rfl⟩))
  · exact .inr (.inr (.inr ⟨rfl, rfl, rfl⟩))
theorem size_small {n : Nat} (h : n ≤ 3) : n ≤ sizeLine := by rw [sizeLine_eq]; omega
theorem c11 {c : Int} : c + 1 + 1 = c + 2 := by omega
theorem le_one {a : Int} (h : 0 ≤ a) : 0 ≤ a + 1 := by omega
theorem gm_old2 {gm : Int → Ty} {c : Int} {tA tB : Ty} : ∀ x, x ≤ c → gmAdd (gmAdd gm (c + 1) tA) (c + 2) tB x = gm x := fun x hx =>
  (gmAdd_old (c := c + 1) (by omega) x (by omega)).trans (gmAdd_old (c := c) (by omega) x hx)
def lawM (el sl fl ty : Addr) (mr : Str → Option Value) : Str → Option Value := fun y => if y = Str.ofString "equal_at" then some (.ref el) else if y = Str.ofString "second" then some (.ref sl) else if y = Str.ofString "first" then some (.ref fl) else
  if y = Str.ofString "types" then some (.ref ty) else mr y
abbrev storedL : List Str := [Str.ofString "kinds", Str.ofString "result", Str.ofString "change", Str.ofString "changed", Str.ofString "result_too", Str.ofString "made", Str.ofString "under", Str.ofString "same_results"]
def LvlsIn (gm : Int → Ty) (c : Int) (R : Led) (n : Nat) (fs ss bs : List Value) : Prop := fs.length = n ∧ ss.length = n ∧ bs.length = n ∧
  ∀ j, j < n → ∃ a b f s' d, fs[j]? = some (.ref a) ∧ ss[j]? = some (.ref b) ∧ bs[j]? = some (.bool d) ∧ TyIn R a f ∧ TyIn R b s' ∧ Lvl gm c j f s' d
def Inv (st dty fl sl el row na ia : Addr) (R0 : Led) (i : Nat) (nx : Led) : Prop :=
  ∃ (a0 : Int) (ts : Tok) (nst : Nat) (es : List DictEntry) (nes : Nat) (fs ss bs : List Value) (n1 n2 n3 : Nat) (R : Led) (gm : Int → Ty) (c : Int) (tc : Tok),
    nx = (st, listOf [Value.ref row, Value.int a0 ts].toArray nst) :: (dty, dictOf es nes) :: (fl, listOf fs.toArray n1) :: (sl, listOf ss.toArray n2) :: (el, listOf bs.toArray n3) :: R ∧
    Sub R0 R ∧ (∀ p ∈ R, p.1 ≠ st ∧ p.1 ≠ dty ∧ p.1 ≠ fl ∧ p.1 ≠ sl ∧ p.1 ≠ el) ∧ (0 ≤ a0 ∧ a0 ≤ 1 + 6 * i) ∧ (9 ≤ c ∧ c ≤ 9 + 2 * i) ∧ getL (Str.ofString "counter") es = some (some (.int c tc)) ∧ getL (Str.ofString "none") es = some (some (.ref na)) ∧
    getL (Str.ofString "integer") es = some (some (.ref ia)) ∧ getL (Str.ofString "new") es = some none ∧ (∀ k, (getL k es).isSome = true) ∧ es.length ≤ 102 + 2 * i ∧ gm 7 = .non 7 ∧ gm 4 = .itg 4 ∧ LvlsIn gm c R (i + 1) fs ss bs
theorem LvlsIn.snoc {gm gm' : Int → Ty} {c c' : Int} {R R' : Led} {n : Nat} {fs ss bs : List Value} {a b : Addr} {f s' : Ty} {d : Bool} (h : LvlsIn gm c R n fs ss bs) (hg : ∀ x, x ≤ c → gm' x = gm x) (hc : c ≤ c') (sR : ∀ p ∈ R, p ∈ R') (ta : TyIn R' a f) (tb : TyIn R' b s') (l : Lvl gm' c' n f s' d) :
    LvlsIn gm' c' R' (n + 1) (fs ++ [.ref a]) (ss ++ [.ref b]) (bs ++ [.bool d]) := by
  obtain ⟨h1, h2, h3, h4⟩ := h
  refine ⟨by simp [h1], by simp [h2], by simp [h3], fun j hj => ?_⟩
  by_cases e : j = n
  · subst e
    refine ⟨a, b, f, s', d, ?_, ?_, ?_, ta, tb, l⟩
    · rw [List.getElem?_append_right (by omega), h1]; simp
    · rw [List.getElem?_append_right (by omega), h2]; simp
    · rw [List.getElem?_append_right (by omega), h3]; simp
  · obtain ⟨a', b', f', s'', d', k1, k2, k3, k4, k5, k6⟩ := h4 j (by omega)
    refine ⟨a', b', f', s'', d', ?_, ?_, ?_, k4.mono sR, k5.mono sR, k6.mono hg hc⟩
    · rw [List.getElem?_append_left (by omega)]; exact k1
    · rw [List.getElem?_append_left (by omega)]; exact k2
    · rw [List.getElem?_append_left (by omega)]; exact k3
theorem mv7 {h₀ h : Heap} {L : Addr} {T R : Led} {q1 q2 q3 q4 q5 q6 q7 : Addr × Obj} (N : News h₀ L h (T ++ (q1 :: q2 :: q3 :: q4 :: q5 :: q6 :: q7 :: R))) : News h₀ L h (q1 :: q2 :: q3 :: q4 :: q5 :: q6 :: q7 :: (T ++ R)) := by
  intro p hp
  refine N p ?_
  simp only [List.mem_cons, List.mem_append] at hp ⊢
  rcases hp with h | h | h | h | h | h | h | h | h <;> simp [h]
theorem off_app {T news R : Led} {d : Addr} {o : Obj} (h : ∀ q ∈ T, ∀ p ∈ news, p.1 ≠ q.1) (hd : (d, o) ∈ news) (hR : ∀ p ∈ R, p.1 ≠ d) : ∀ p ∈ T ++ R, p.1 ≠ d := fun p hp =>
  (List.mem_append.mp hp).elim (fun hp => Ne.symm (h p hp (d, o) hd)) (hR p)
theorem tbOff_app {T news R own : Led} (h : ∀ q ∈ T, ∀ p ∈ news, p.1 ≠ q.1) (ho : ∀ p ∈ own, p ∈ news) (hR : TbOff own R) : TbOff own (T ++ R) := fun p hp q hq =>
  (List.mem_append.mp hq).elim (fun hq => h q hq p (ho p hp)) (hR p hp q)
theorem turn_end {st dty fl sl el row na ia : Addr} {R0 R R3 own news' : Led} {h₀ h' : Heap} {L : Addr} {m' : Str → Option Value} {s1 : Shared} {tk' i : Nat} {a' : Int} {ts' : Tok} {nst' nes' n1 n2 n3 : Nat} {es' : List DictEntry} {fs ss bs : List Value} {o1 o2 o3 o4 o5 : Obj} {gm' : Int → Ty} {c' : Int} {tc' : Tok} (P : (Str → Option Value) → Prop)
    (F : Fr h₀ L h' m') (N : News h₀ L h' news') (hP : P m') (k1 : (st, listOf [Value.ref row, Value.int a' ts'].toArray nst') ∈ news') (k2 : (dty, dictOf es' nes') ∈ news') (k3 : (fl, listOf fs.toArray n1) ∈ news') (k4 : (sl, listOf ss.toArray n2) ∈ news') (k5 : (el, listOf bs.toArray n3) ∈ news')
    (k6 : ∀ p ∈ R3, p ∈ news') (k7 : ∀ p ∈ own, p ∈ news') (hoff : TbOff own ((st, o1) :: (dty, o2) :: (fl, o3) :: (sl, o4) :: (el, o5) :: R)) (hoff3 : TbOff own R3) (j1 : Sub R0 R3) (j2 : ∀ p ∈ R3, p.1 ≠ st ∧ p.1 ≠ dty ∧ p.1 ≠ fl ∧ p.1 ≠ sl ∧ p.1 ≠ el)
    (j3 : 0 ≤ a' ∧ a' ≤ 1 + 6 * ((i : Int) + 1)) (j4 : 9 ≤ c' ∧ c' ≤ 9 + 2 * ((i : Int) + 1)) (j5 : getL (Str.ofString "counter") es' = some (some (.int c' tc'))) (j6 : getL (Str.ofString "none") es' = some (some (.ref na))) (j7 : getL (Str.ofString "integer") es' = some (some (.ref ia))) (j8 : getL (Str.ofString "new") es' = some none)
    (j9 : ∀ k, (getL k es').isSome = true) (j10 : es'.length ≤ 102 + 2 * (i + 1)) (j11 : gm' 7 = .non 7) (j12 : gm' 4 = .itg 4) (lv : LvlsIn gm' c' R3 (i + 1 + 1) fs ss bs) :
    TbEnd h₀ L (fun m' nx => P m' ∧ Inv st dty fl sl el row na ia R0 (i + 1) nx) own s1 { s1 with heap := h', toks := tk' } := by
  refine ⟨h', tk', m', news', _, rfl, F, N, ?_, k7, ?_, hP, a', ts', nst', es', nes', fs, ss, bs, n1, n2, n3, R3, gm', c', tc', rfl, j1, j2, ⟨j3.1, by omega⟩, ⟨j4.1, by omega⟩, j5, j6, j7, j8, j9, j10, j11, j12, lv⟩
  · intro p hp
    simp only [List.mem_cons] at hp
    rcases hp with rfl | rfl | rfl | rfl | rfl | hp
    · exact k1
    · exact k2
    · exact k3
    · exact k4
    · exact k5
    · exact k6 p hp
  · intro p hp q hq
    have ho := hoff p hp
    simp only [List.mem_cons] at hq
    rcases hq with rfl | rfl | rfl | rfl | rfl | hq
    · exact ho (st, o1) (.head _)
    · exact ho (dty, o2) (.tail _ (.head _))
    · exact ho (fl, o3) (.tail _ (.tail _ (.head _)))
    · exact ho (sl, o4) (.tail _ (.tail _ (.tail _ (.head _))))
    · exact ho (el, o5) (.tail _ (.tail _ (.tail _ (.tail _ (.head _)))))
    · exact hoff3 p hp q hq
theorem gm_low {gm : Int → Ty} {c : Int} {t : Ty} {x : Int} {r : Ty} (hx : gm x = r) (hc : 9 ≤ c) (hx9 : x ≤ 9) : gmAdd gm (c + 1) t x = r := (gmAdd_old (c := c) (by omega) x (by omega)).trans hx
theorem map_rt {a b : Option Value} {f : Str → Option Value} : ∀ y, (if y = Str.ofString "result_too" then a else if y = Str.ofString "result_too" then b else f y) = if y = Str.ofString "result_too" then a else f y := fun y => by
  by_cases h : y = Str.ofString "result_too"
  · rw [if_pos h, if_pos h]
  · rw [if_neg h, if_neg h, if_neg h]
theorem map_ch {a b c : Option Value} {f : Str → Option Value} : ∀ y, (if y = Str.ofString "changed" then a else if y = Str.ofString "result_too" then b else if y = Str.ofString "changed" then c else f y) = if y = Str.ofString "result_too" then b else if y = Str.ofString "changed" then a else f y := fun y => by
  by_cases h : y = Str.ofString "changed"
  · have h1 : ¬ y = Str.ofString "result_too" := by rw [h]; decide
    rw [if_pos h, if_neg h1, if_pos h]
  · by_cases h2 : y = Str.ofString "result_too"
    · rw [if_neg h, if_pos h2, if_pos h2]
    · rw [if_neg h, if_neg h2, if_neg h, if_neg h2, if_neg h]
theorem natInts_inj : ∀ {a b : List Nat}, natInts a = natInts b → a = b
  | [], [], _ => rfl
  | [], _ :: _, h => by simp [natInts] at h
  | _ :: _, [], h => by simp [natInts] at h
  | x :: a, y :: b, h => by
    simp only [natInts, List.map_cons, List.cons.injEq] at h
    rw [Int.ofNat.inj h.1, natInts_inj (a := a) (b := b) h.2]
theorem natInts_dec (a b : List Nat) : decide (natInts a = natInts b) = decide (a = b) := by
  by_cases h : a = b
  · subst h; simp
  · have : ¬ natInts a = natInts b := fun e => h (natInts_inj e)
    simp [h, this]
section
theorem fill10 (P : Params) : (PySem.Challenge.rw_pq0743_01 = PySem.Challenge.rw_pq0743_01) ∧ (hd.heap_39 P = hd.heap_39 P) := by
  w_top off
  k_fill
  exact ⟨rfl, rfl⟩
theorem gt_all {d e : Addr} {T : Led} (h : ∀ q ∈ T, @LT.lt Nat _ e q.1) (k : @LE.le Nat _ d e) : ∀ q ∈ T, q.1 ≠ d := fun q hq => Nat.ne_of_gt (Nat.lt_of_le_of_lt k (h q hq))
theorem use_types {w : World} {p : Program} {loose : List Str} {mean : ExcName → Option Value} {mg mb : Str → Option Value} {dp un : Nat} {gd : Option (List Code)} {cn : Str} {cs : Scope} {a' : Addr} {ccd : Value}
    {cl : List (Str × Addr)} {outer : List Env} {A₀ : Around} {base h₀ : Heap} {L : Addr} {m : Str → Option Value} {s : Shared} {Q E : Value → Shared → Prop} {news : Led}
    (B : Below A₀ base outer h₀) (F : Fr h₀ L s.heap m) (X : (hd.heap_39 w.params).In h₀) (N : News h₀ L s.heap news) (T : Top p loose mean mg mb h₀) (hk : cs.kind = .function)
    (hd : dp + 80 < recursionLimit) (hu : un + 8 * 80 < cLine)
    (ret : ∀ ty dty es n na ia T tc h' tk', Fr h₀ L h' m → News h₀ L h' ((dty, dictOf es n) :: (ty, instObj 118 dty) :: (news ++ T)) → TyIn T na (.non 7) → TyIn T ia (.itg 4) → getL (Str.ofString "counter") es = some (some (.int 7 tc)) → getL (Str.ofString "none") es = some (some (.ref na)) → getL (Str.ofString "integer") es = some (some (.ref ia)) →
      getL (Str.ofString "new") es = some none → (∀ k, (getL k es).isSome = true) → es.length ≤ 100 → @LT.lt Nat _ dty ty → (∀ q ∈ T, @LT.lt Nat _ ty q.1) → (∀ p ∈ news, p.1 < dty) → Q (.ref ty) { s with heap := h', toks := tk' }) :
    wpAny (model PROG w) (ktrTop dp un gd cn cs L a' ccd cl outer) (call (.ref 118) []) Q E s := by
  refine tell_use tell_types B F X N T hk hd hu ?_
  rintro r news' h' tk' F' N' ⟨ty, dty, es, n, na, ia, T, tc, rfl, sub, x1, x2, x3, x4, x5, x6, x7, x8, x9, x10, x11⟩
  refine ret ty dty es n na ia T tc h' tk' F' (fun p hp => N' p (sub p ?_)) x1 x2 x3 x4 x5 x6 x7 x8 x9 x10 x11
  simp only [List.mem_cons, List.mem_append] at hp ⊢
  rcases hp with h | h | h | h <;> simp [h]
theorem nn16 {v : Int} (h0 : 0 ≤ v) (h1 : v < 16) : ∃ nn : Nat, v = (nn : Int) ∧ nn < 16 := ⟨v.toNat, by omega, by omega⟩
theorem ht20 {h n : Nat} (a : h ≤ n + 1) (b : n < 16) : h ≤ 20 := by omega
local macro_rules | `(tactic| walk_at "getMethod ref") => `(tactic| (k_here; k_dflt (refine' method_inst ?k1 ?k2 ?k3 ?k4 ?k5 ?k6 ?k7 ?_; (case k1 => k_asm); (case k2 => k_asm); (case k3 => k_inst); (case k4 => k_is); (case k5 => k_is); (case k6 => k_is); (case k7 => assumption); k_whole)))
local macro_rules | `(tactic| k_all) => `(tactic| first | assumption | exact allNe_lt (by assumption) | exact gt_all (by assumption) (by omega) | exact allNe_of (by assumption) | exact allNe_of (And.right (by assumption)) | exact allNe_of (And.right (And.right (by assumption))) | exact allNe_of (And.right (And.right (And.right (by assumption)))) | exact allNe_of (And.right (And.right (And.right (And.right (by assumption))))) | exact allNe_of (And.right (And.right (And.right (And.right (And.right (by assumption)))))) | exact allNe_of (And.right (And.right (And.right (And.right (And.right (And.right (by assumption))))))) | exact allNe_of (And.right (And.right (And.right (And.right (And.right (And.right (And.right (by assumption)))))))) | exact allNe_of (And.right (And.right (And.right (And.right (And.right (And.right (And.right (And.right (by assumption))))))))) | exact allNe_of (And.right (And.right (And.right (And.right (And.right (And.right (And.right (And.right (And.right (by assumption)))))))))) | exact allNe_of (And.right (And.right (And.right (And.right (And.right (And.right (And.right (And.right (And.right (And.right (by assumption))))))))))) | exact allNe_of (And.right (And.right (And.right (And.right (And.right (And.right (And.right (And.right (And.right (And.right (And.right (by assumption)))))))))))) | exact allNe_of (And.right (And.right (And.right (And.right (And.right (And.right (And.right (And.right (And.right (And.right (And.right (And.right (by assumption))))))))))))) | exact allNe_of (And.right (And.right (And.right (And.right (And.right (And.right (And.right (And.right (And.right (And.right (And.right (And.right (And.right (by assumption)))))))))))))) | exact allNe_of (And.right (And.right (And.right (And.right (And.right (And.right (And.right (And.right (And.right (And.right (And.right (And.right (And.right (And.right (by assumption))))))))))))))) | exact allNe_of (And.right (And.right (And.right (And.right (And.right (And.right (And.right (And.right (And.right (And.right (And.right (And.right (And.right (And.right (And.right (by assumption)))))))))))))))))
local macro_rules | `(tactic| walk_at "call builtin:len") => `(tactic| (k_here; (with_reducible show wpAny _ _ (call (Value.builtin "len") [Value.ref _]) _ _ _); k_dflt (refine' len_news ?k1 ?k2 ?k3 ?k4 ?_; (case k1 => k_asm); (case k2 => k_mem); (case k3 => assumption); (case k4 => first | assumption | omega)); intro tk'))
local macro_rules | `(tactic| walk_at "call type:range") => `(tactic| (k_here; (rename Fr _ _ _ _ => F'); (rename News _ _ _ _ => N'); (with_unfolding_all refine range1_rows F' N' ?_); intro _ _ _ _ _ _ _ _ _))
local macro_rules | `(tactic| ktr_units) => `(tactic| ((have hcL9 := cLine_is); (simp only [units_under_make, units_in1, units_deeper, Around.mark_units, units_caller]); (try dsimp only [ktrTop]); omega))
local macro_rules | `(tactic| ktr_room) => `(tactic| ((simp only [depth_under_make, depth_under_kw, depth_in1, depth_deeper, depth_caller]); (try dsimp only [ktrTop]); omega))
local macro_rules | `(tactic| walk_at "compareOp Eq ref ref") => `(tactic| (k_here; k_dflt (refine' eq_lists ?k1 ?k2 ?k3 ?k4 ?k5 ?k6 ?k7 ?_; (case k1 => k_asm); (case k2 => k_mem); (case k3 => k_mem); (case k4 => first | assumption | exact IntsAre.nil); (case k5 => first | assumption | exact IntsAre.nil); (case k6 => ktr_units); (case k7 => assumption))))
local macro_rules | `(tactic| walk_at "binaryOp Mod int int") => `(tactic| (k_here; (refine' mod_pos ?h ?_; (case h => first | decide | omega)); intro x' tk' n' l1' l2'))
local macro_rules | `(tactic| walk_at "subscriptTail") => `(tactic| (k_here; (with_reducible show wpAny _ _ (subscriptTail _ _ (Value.ref _) (Value.int _ _)) _ _ _); k_dflt (refine' at_ints ?k1 ?k2 ?k3 ?k4 ?k5 ?k6 ?_; (case k1 => k_asm); (case k2 => k_mem); (case k3 => assumption); (case k4 => first | assumption | decide | omega); (case k5 => first | assumption | omega); (case k6 => first | assumption | omega)); intro x' t'))
local macro_rules | `(tactic| walk_at "subscriptTail") => `(tactic| (k_here; (with_reducible show wpAny _ _ (subscriptTail _ _ (Value.ref _) (Value.int _ _)) _ _ _); k_dflt (refine' at_val ?k1 ?k2 ?k3 ?k4 ?k5 ?_; (case k1 => k_asm); (case k2 => k_mem); (case k3 => assumption); (case k4 => first | exact rfl | exact nat_pred | omega); (case k5 => first | assumption | omega))))
local macro_rules | `(tactic| walk_at "setItem ref int") => `(tactic| (k_here; k_dflt (refine' set_zero ?k1 ?k2 ?k3 ?k4 ?_; (case k1 => k_asm); (case k2 => k_asm); (case k3 => k_updF); (case k4 => first | assumption | omega)); intro h' F' N'; (try dsimp only at N'); (try k_sweep)))
local macro_rules | `(tactic| walk_at "call builtin:list.append") => `(tactic| (k_here; (with_reducible show wpAny _ _ (call (Value.builtin _) [Value.ref _, _]) _ _ _); k_dflt (refine' app_news ?k1 ?k2 ?k3 ?k4 ?_; (case k1 => k_asm); (case k2 => k_asm); (case k3 => k_updF); (case k4 => first | assumption | omega)); intro h' F' N'; (try dsimp only at N'); (try k_sweep)))
section
local macro_rules | `(tactic| ktr_unf) => `(tactic| repeat' ((fail_if_success (with_reducible show wpAny _ _ (pyIter (Value.ref _)) _ _ _)); (fail_if_success (with_reducible show wpAny _ _ (call (Value.ref 136) _) _ _ _)); (fail_if_success (with_reducible show wpAny _ _ (call (Value.ref 129) _) _ _ _)); (fail_if_success (with_reducible show wpAny _ _ (call (Value.type "list") [Value.ref _]) _ _ _)); (fail_if_success (with_reducible show wpAny _ _ (execs (Stmt.If _ _ _ _ :: _) _) _ _ _)); (fail_if_success (with_reducible show wpAny _ _ (exec (Stmt.Assign _ (Expr.ListComp _ _ _ _) _) _) _ _ _)); (fail_if_success (with_reducible show LCg.CompSrc _ _ _ _ _ _ _ _ _ _ _ _ _ _)); (fail_if_success (with_reducible show LCg.CompEnd _ _ _ _ _ _ _ _ _ _ _ _ _ _)); first | (k_unfold; (try dsimp only)) | (k_end; wrow_close) | walk1 | (dsimp only; walk1) | fail "no step"))
local macro_rules | `(tactic| tb_start) => `(tactic| repeat' ((fail_if_success (with_reducible show wpAny _ _ (call (Value.ref 136) _) _ _ _)); (fail_if_success (with_reducible show (_ = _) ∧ _)); (fail_if_success (with_reducible show TbEnd _ _ _ _ _ _)); (fail_if_success (with_reducible show wpAny _ _ (execs (Stmt.Assign _ (Expr.BoolOp _ _ _) _ :: _) _) _ _ _)); first | (k_unfold; (try dsimp only)) | walk1 | (dsimp only; walk1) | fail "no step"))
local macro_rules | `(tactic| ktr_rel) => `(tactic| repeat' ((fail_if_success (with_reducible show TbEnd _ _ _ _ _ _)); (fail_if_success (with_reducible show (_ = _) ∧ _)); first | (k_unfold; (try dsimp only)) | walk1 | (dsimp only; walk1) | fail "no step"))
theorem turn {w : World} {p : Program} {loose : List Str} {mean : ExcName → Option Value} {mg mb : Str → Option Value} {h₀ h : Heap} {L fa : Addr} {ccd : Value} {tk i : Nat} {t : Tok} {u mr : Str → Option Value} {nx own R0 : Led} {st dty fl sl el row ty na ia : Addr} {rvs : List Value} {rns : List Int} {nr : Nat} {oc : Obj} {Q : Flow → Shared → Prop} {E : Value → Shared → Prop} {s : Shared}
    (B : Below callerA h₀ [] h₀) (X : (hd.heap_39 w.params).In h₀) (T : Top p loose mean mg mb h₀) (hi : i < 16) (hoff : TbOff own nx) (J : Inv st dty fl sl el row na ia R0 i nx)
    (c1 : (L + 1, oc) ∈ R0) (c2 : oc.data = .cell (some (.ref st))) (c3 : (row, listOf rvs.toArray nr) ∈ R0) (c4 : IntsAre rvs rns) (c5 : rvs.length ≤ 40) (c6 : (ty, instObj 118 dty) ∈ R0) (c7 : TyIn R0 na (.non 7)) (c8 : TyIn R0 ia (.itg 4))
    (o1 : @LT.lt Nat _ st dty) (o2 : @LT.lt Nat _ dty fl) (o3 : @LT.lt Nat _ fl sl) (o4 : @LT.lt Nat _ sl el) (o5 : row ≠ st)
    (F : Fr h₀ L h (fun y => if y = Str.ofString "go_of" then some (.int (i : Nat) t) else if storedL.contains y then u y else lawM el sl fl ty mr y)) (N : News h₀ L h (nx ++ own)) :
    wpAny (model PROG w) (callerA.deeper (lawEnv L fa ccd)) (execs (loopOf 9) (lawEnv L fa ccd))
      (TbPost h₀ L (fun m' nx => (∀ z, z ≠ Str.ofString "go_of" → storedL.contains z = false → m' z = lawM el sl fl ty mr z) ∧ Inv st dty fl sl el row na ia R0 (i + 1) nx) own { s with heap := h, toks := tk } Q) E { s with heap := h, toks := tk } := by
  obtain ⟨a0, ts, nst, es, nes, fs, ss, bs, n1, n2, n3, R, gm, c, tc, rfl, jS, jO, ⟨ja0, ja1⟩, ⟨jc0, jc1⟩, jc, jn, ji, jw, jall, jz, jg7, jg4, jF, jG, jH, jL⟩ := J
  simp only [List.cons_append] at N
  obtain ⟨Rq, eRq⟩ : ∃ Rq, Rq = R ++ own := ⟨_, rfl⟩
  rw [← eRq] at N
  have sR : ∀ p ∈ R, p ∈ Rq := fun p hp => by rw [eRq]; exact List.mem_append.mpr (.inl hp)
  have s0 : Sub Rq Rq := Sub.refl
  have d1 := sR _ (jS _ c1)
  have d3 := sR _ (jS _ c3)
  have d6 := sR _ (jS _ c6)
  have offs : ∀ p ∈ Rq, p.1 ≠ st ∧ p.1 ≠ dty ∧ p.1 ≠ fl ∧ p.1 ≠ sl ∧ p.1 ≠ el := by
    intro p hp
    rw [eRq] at hp
    rcases List.mem_append.mp hp with hp | hp
    · exact jO p hp
    · have ho := hoff p hp
      exact ⟨ho _ (.head _), ho _ (.tail _ (.head _)), ho _ (.tail _ (.tail _ (.head _))), ho _ (.tail _ (.tail _ (.tail _ (.head _)))), ho _ (.tail _ (.tail _ (.tail _ (.tail _ (.head _)))))⟩
  have of1 : ∀ p ∈ Rq, p.1 ≠ st := fun p hp => (offs p hp).1
  have of2 : ∀ p ∈ Rq, p.1 ≠ dty := fun p hp => (offs p hp).2.1
  have of3 : ∀ p ∈ Rq, p.1 ≠ fl := fun p hp => (offs p hp).2.2.1
  have of4 : ∀ p ∈ Rq, p.1 ≠ sl := fun p hp => (offs p hp).2.2.2.1
  have of5 : ∀ p ∈ Rq, p.1 ≠ el := fun p hp => (offs p hp).2.2.2.2
  obtain ⟨la, lb, lf, ls, ld, g1, g2, g3, g4, g5, g6⟩ := jL i (Nat.lt_succ_self i)
  have e1 : loopOf 9 = loopOf 9 := rfl
  conv at e1 => rhs; whnf
  have e2 : lawScope = lawScope := rfl
  conv at e2 => rhs; whnf
  rw [e1]
  simp only [lawEnv]
  rw [e2]
  clear e1 e2
  have ja2 : a0 ≤ 1000 := by omega
  have hi1 := (i_bnds hi).1
  have hi2 := (i_bnds hi).2
  have jF2 : fs.length ≤ 1000 := len_bnds jF hi
  have jG2 : ss.length ≤ 1000 := len_bnds jG hi
  have jH2 : bs.length ≤ 1000 := len_bnds jH hi
  (with_reducible show wpAny _ _ _ _ _ _)
  k_fold
  ktr_unf
  k_dflt (refine LCg.Assign_ListComp_U (F₀ := by k_asm) (by rfl) (by with_unfolding_all rfl) (by with_unfolding_all rfl) (by decide) (by rfl) (by decide) (by rfl) (by rfl) (by rfl) ?_)
  ktr_unf
  k_dflt (refine' use_takeU ?t0k1 ?t0k2 ?t0k3 ?t0k4 ?t0k13 ?t0k5 ?t0k6 ?t0k7 ?t0k8 ?t0k9 ?t0k10 ?t0k11 ?t0k12 ?t0k14 ?t0k15 ?t0k16 ?_; (case t0k4 => k_asm); (case t0k1 => k_asm); (case t0k2 => k_asm); (case t0k3 => k_asm); (case t0k5 => k_asm); (case t0k6 => first | exact rfl | assumption); (case t0k7 => exact Nat.le_of_ble_eq_true rfl); (case t0k8 => exact Nat.le_of_ble_eq_true rfl); (case t0k13 => k_updF); (case t0k9 => k_mem); (case t0k10 => exact o5); (case t0k11 => exact c4); (case t0k12 => exact c5); (case t0k14 => first | assumption | omega); (case t0k15 => first | assumption | omega); (case t0k16 => decide))
  intro v0 tv0 tt0 nst0 ht0 tkt0 v0l v0h FT0 NT0
  (try dsimp only at NT0); k_sweep
  ktr_unf
  (rename IsRange _ _ _ _ _ _ _ _ => hr)
  (rename Fr _ _ _ _ => F1)
  (rename News _ _ _ _ => N1)
  obtain ⟨nn, enn, nn1, nn3⟩ := nn_of v0l v0h
  obtain ⟨⟨bA1, bA2⟩, ⟨bB1, bB2⟩, bC⟩ := nn_bnds ja0 ja1 hi nn3
  rw [enn] at hr
  k_dflt (refine LCg.CompSrc.range (n := nn) (by rfl) F1 N1 hr (small_low nn3).1 (small_low nn3).2 (size_small nn3) ?_)
  intro g'
  k_dflt (refine comp_rest (a0 := a0 + 1) (le_one ja0) (fun _ => trivial) ?cT ?cF)
  case cT =>
    clear F1 N1 hr
    intro a1 t1 nn1 I oI C oC D m2 ys hh tkk E' l1 l2 hC F2 N2 off2 ne2
    obtain ⟨ne2a, ne2b, ne2c⟩ := ne2
    have q1 : @Ne Nat st I := off2.1.1
    have q2 : @Ne Nat st C := off2.1.2.1
    have q3 : @Ne Nat st D := off2.1.2.2
    have ja3 : a1 ≤ 1000 := Int.le_trans l2 bA2
    (with_reducible show wpAny _ _ _ _ _ _)
    k_fold
    ktr_unf
    k_dflt (refine' use_takeU ?t1k1 ?t1k2 ?t1k3 ?t1k4 ?t1k13 ?t1k5 ?t1k6 ?t1k7 ?t1k8 ?t1k9 ?t1k10 ?t1k11 ?t1k12 ?t1k14 ?t1k15 ?t1k16 ?_; (case t1k4 => k_asm); (case t1k1 => k_asm); (case t1k2 => k_asm); (case t1k3 => k_asm); (case t1k5 => k_asm); (case t1k6 => first | exact rfl | assumption); (case t1k7 => exact Nat.le_of_ble_eq_true rfl); (case t1k8 => exact Nat.le_of_ble_eq_true rfl); (case t1k13 => k_updF); (case t1k9 => k_mem); (case t1k10 => exact o5); (case t1k11 => exact c4); (case t1k12 => exact c5); (case t1k14 => first | assumption | omega); (case t1k15 => first | assumption | omega); (case t1k16 => decide))
    intro v1 tv1 tt1 nst1 ht1 tkt1 v1l v1h FT1 NT1
    (try dsimp only at NT1); k_sweep
    ktr_unf
    exact ⟨_, _, _, rfl, FT1, NT1, ⟨off2.1, off2.2⟩, trivial, _, _, _, _, rfl, v1l, v1h, rfl⟩
  case cF =>
    clear F1 N1 hr
    intro ys ks t1 nst1 hK
    have hKi := hK.1
    have hKl : ys.length = nn := (hK.kinds nn3).len.trans hK.2.1
    unfold LCg.FinA
    intro D hD tkD FD ND oD
    obtain ⟨oD1, oD2, oD3, oD4, oD5, oD6⟩ := oD
    replace oD6 := off1_of oD6
    replace ND : News h₀ L hD ((D, listOf ys.toArray ys.length) :: _) := ND
    dsimp only at oD1 oD2 oD3 oD4 oD5
    replace oD1 := neN oD1
    replace oD2 := neN oD2
    replace oD3 := neN oD3
    replace oD4 := neN oD4
    replace oD5 := neN oD5
    dsimp only
    have hy0 : 0 < ys.length := by rw [hKl]; exact nn1
    have hyk : ys.length ≤ 1000 := by rw [hKl]; exact Nat.le_trans nn3 (by decide)
    have hyn : nn ≤ 1000 := Nat.le_trans nn3 (by decide)
    ktr_unf
    k_dflt (refine' use_takeU ?t2k1 ?t2k2 ?t2k3 ?t2k4 ?t2k13 ?t2k5 ?t2k6 ?t2k7 ?t2k8 ?t2k9 ?t2k10 ?t2k11 ?t2k12 ?t2k14 ?t2k15 ?t2k16 ?_; (case t2k4 => k_asm); (case t2k1 => k_asm); (case t2k2 => k_asm); (case t2k3 => k_asm); (case t2k5 => k_asm); (case t2k6 => first | exact rfl | assumption); (case t2k7 => exact Nat.le_of_ble_eq_true rfl); (case t2k8 => exact Nat.le_of_ble_eq_true rfl); (case t2k13 => k_updF); (case t2k9 => k_mem); (case t2k10 => exact o5); (case t2k11 => exact c4); (case t2k12 => exact c5); (case t2k14 => first | assumption | omega); (case t2k15 => first | assumption | omega); (case t2k16 => decide))
    intro v2 tv2 tt2 nst2 ht2 tkt2 v2l v2h FT2 NT2
    (try dsimp only at NT2); k_sweep
    ktr_unf
    k_dflt (refine' use_takeU ?t3k1 ?t3k2 ?t3k3 ?t3k4 ?t3k13 ?t3k5 ?t3k6 ?t3k7 ?t3k8 ?t3k9 ?t3k10 ?t3k11 ?t3k12 ?t3k14 ?t3k15 ?t3k16 ?_; (case t3k4 => k_asm); (case t3k1 => k_asm); (case t3k2 => k_asm); (case t3k3 => k_asm); (case t3k5 => k_asm); (case t3k6 => first | exact rfl | assumption); (case t3k7 => exact Nat.le_of_ble_eq_true rfl); (case t3k8 => exact Nat.le_of_ble_eq_true rfl); (case t3k13 => k_updF); (case t3k9 => k_mem); (case t3k10 => exact o5); (case t3k11 => exact c4); (case t3k12 => exact c5); (case t3k14 => first | assumption | omega); (case t3k15 => first | assumption | omega); (case t3k16 => decide))
    intro v3 tv3 tt3 nst3 ht3 tkt3 v3l v3h FT3 NT3
    (try dsimp only at NT3); k_sweep
    ktr_unf
    (rename Fr _ _ _ _ => F3)
    (rename News _ _ _ _ => N3)
    k_dflt (refine list_copyK F3 N3 (News.isList N3 (.head _)) ?lc1 (by rw [List.size_toArray, sizeLine_eq]; omega))
    intro D2 cap2 h3 F4 N4 l4
    clear F3 N3
    k_lt l4
    ktr_unf
    (rename Fr _ _ _ _ => F5)
    (rename News _ _ _ _ => N5)
    k_dflt (refine if_join (fun s' => ∃ h' tk' cv nc kvs' ks' r' tr', s' = { s with heap := h', toks := tk' } ∧ Fr h₀ L h' (fun y => if y = Str.ofString "result_too" then some (.int r' tr') else if y = Str.ofString "changed" then some (.ref cv) else
        if y = Str.ofString "change" then some (.int v3 tv3) else if y = Str.ofString "result" then some (.int v2 tv2) else if y = Str.ofString "kinds" then some (.ref D) else if y = Str.ofString "go_of" then some (.int (i : Nat) t) else if storedL.contains y then u y else lawM el sl fl ty mr y) ∧
        News h₀ L h' ((cv, listOf (kvs' : List Value).toArray nc) :: (D, listOf ys.toArray ys.length) :: (st, listOf [Value.ref row, Value.int (a0 + 1 + nn + 1 + 1) tt3].toArray nst3) :: (dty, dictOf es nes) :: (fl, listOf fs.toArray n1) :: (sl, listOf ss.toArray n2) :: (el, listOf bs.toArray n3) :: Rq) ∧
        Kinds kvs' ks' ∧ (0 ≤ r' ∧ r' < 3) ∧ (@Ne Nat cv D ∧ @Ne Nat cv st ∧ @Ne Nat cv dty ∧ @Ne Nat cv fl ∧ @Ne Nat cv sl ∧ @Ne Nat cv el) ∧ ∀ p ∈ Rq, p.1 ≠ cv) ?ifA ?ifB)
    case ifA =>
      have wD2 : ∀ p ∈ Rq, p.1 ≠ D2 := by k_all
      have hv3 := six v3l v3h
      rcases hv3 with rfl | rfl | rfl | ⟨hv31, hv32, hv33⟩
      · tb_start
        (rename Fr _ _ _ _ => F6)
        (rename News _ _ _ _ => N6)
        exact ⟨rfl, _, _, D2, _, _, _, _, _, rfl, F6, N6, (hK.kinds nn3).set0 (by assumption) (by assumption), ⟨v2l, v2h⟩, ⟨by k_ne, by k_ne, by k_ne, by k_ne, by k_ne, by k_ne⟩, wD2⟩
      · tb_start
        (rename Fr _ _ _ _ => F6)
        (rename News _ _ _ _ => N6)
        exact ⟨rfl, _, _, _, _, _, _, v2, tv2, rfl, Fr.eqm F6 map_ch, (fun p hp => N6 p (by rcases List.mem_cons.mp hp with rfl | hp; exact .head _; exact .tail _ (.tail _ hp))), (hK.kinds nn3).take (by assumption), ⟨v2l, v2h⟩, ⟨by k_ne, by k_ne, by k_ne, by k_ne, by k_ne, by k_ne⟩, by k_all⟩
      · tb_start
        (rename Fr _ _ _ _ => F6)
        (rename News _ _ _ _ => N6)
        exact ⟨rfl, _, _, D2, _, _, ks, _, _, rfl, Fr.eqm F6 map_rt, N6, hK.kinds nn3, ⟨by assumption, by assumption⟩, ⟨by k_ne, by k_ne, by k_ne, by k_ne, by k_ne, by k_ne⟩, wD2⟩
      · tb_start
        (rename Fr _ _ _ _ => F6)
        (rename News _ _ _ _ => N6)
        exact ⟨rfl, _, _, D2, _, _, ks, _, _, rfl, F6, N6, hK.kinds nn3, ⟨v2l, v2h⟩, ⟨by k_ne, by k_ne, by k_ne, by k_ne, by k_ne, by k_ne⟩, wD2⟩
    case ifB =>
      clear F5 N5
      rintro s' ⟨h6, tk6, cv, nc, kvs', ks', r', tr', rfl, F6, N6, hK', ⟨hr1, hr2⟩, ⟨w1, w2, w3, w4, w5, w6⟩, w7⟩
      have jS' := jS
      ktr_unf
      k_dflt (refine' use_tower (R := R) ?wAk1 ?wAk2 ?wAk3 ?wAk4 ?wAk13 ?wAk5 ?wAk6 ?wAk7 ?wAk8 (fun p hp => (jO p hp).2.1) ?wAs (jS _ c6) jc (es_bnds (e2 := 0) jz hi (Nat.le_refl _)).1 jw jn ji g4 (c7.mono jS) (c8.mono jS) ?wAl (Ne.symm oD2) (hK.kinds nn3) v2l v2h ?_; (case wAk4 => k_asm); (case wAk1 => k_asm); (case wAk2 => k_asm); (case wAk3 => k_asm); (case wAk5 => k_asm); (case wAk13 => k_updF); (case wAs => exact (fun p hp => .tail _ (.tail _ (.tail _ (.tail _ (.tail _ (.tail _ (.tail _ (sR p hp))))))))); (case wAl => exact .tail _ (.head _)); (case wAk6 => first | exact rfl | assumption); (case wAk7 => exact Nat.le_of_ble_eq_true rfl); (case wAk8 => exact Nat.le_of_ble_eq_true rfl))
      intro aA esA nesA TA tcA hTA tkTA FTA NTA htyA hofA hctA hgetA hlenA
      (try dsimp only at NTA)
      replace NTA := mv7 NTA
      obtain ⟨Ra, eRa⟩ : ∃ Ra, Ra = TA ++ Rq := ⟨_, rfl⟩
      rw [← eRa] at NTA
      have s1 : Sub Ra Ra := Sub.refl
      have oa1 : ∀ p ∈ Ra, p.1 ≠ st := by rw [eRa]; exact off_app hofA (.tail _ (.tail _ (.head _))) of1
      have oa2 : ∀ p ∈ Ra, p.1 ≠ dty := by rw [eRa]; exact off_app hofA (.tail _ (.tail _ (.tail _ (.head _)))) of2
      have oa3 : ∀ p ∈ Ra, p.1 ≠ fl := by rw [eRa]; exact off_app hofA (.tail _ (.tail _ (.tail _ (.tail _ (.head _))))) of3
      have oa4 : ∀ p ∈ Ra, p.1 ≠ sl := by rw [eRa]; exact off_app hofA (.tail _ (.tail _ (.tail _ (.tail _ (.tail _ (.head _)))))) of4
      have oa5 : ∀ p ∈ Ra, p.1 ≠ el := by rw [eRa]; exact off_app hofA (.tail _ (.tail _ (.tail _ (.tail _ (.tail _ (.tail _ (.head _))))))) of5
      have tyA := htyA (TA ++ R) (fun p hp => List.mem_append.mpr (.inl hp)) (fun p hp => List.mem_append.mpr (.inr hp))
      have jallA := all_upd hctA hgetA jall
      have jnA := (hgetA (Str.ofString "none") (by decide)).trans jn
      have jiA := (hgetA (Str.ofString "integer") (by decide)).trans ji
      have jwA := (hgetA (Str.ofString "new") (by decide)).trans jw
      clear F6 N6
      (with_reducible show wpAny _ _ _ _ _ _)
      ktr_unf
      have ownRq : ∀ p ∈ own, p ∈ Rq := fun p hp => by rw [eRq]; exact List.mem_append.mpr (.inr hp)
      have offR : TbOff own R := fun p hp q hq => hoff p hp q (.tail _ (.tail _ (.tail _ (.tail _ (.tail _ hq)))))
      have offA : TbOff own (TA ++ R) := tbOff_app hofA (fun p hp => .tail _ (.tail _ (.tail _ (.tail _ (.tail _ (.tail _ (.tail _ (ownRq p hp)))))))) offR
      have sA : ∀ p ∈ TA ++ R, p ∈ Ra := fun p hp => by
        rw [eRa]; exact (List.mem_append.mp hp).elim (fun h => List.mem_append.mpr (.inl h)) (fun h => List.mem_append.mpr (.inr (sR p h)))
      have iA : ∀ p ∈ R, p ∈ TA ++ R := fun p hp => List.mem_append.mpr (.inr hp)
      have ownRa : ∀ p ∈ own, p ∈ Ra := fun p hp => by rw [eRa]; exact List.mem_append.mpr (.inr (ownRq p hp))
      by_cases h4 : v3 = 4
      · subst h4
        tb_start
        (rename Fr _ _ _ _ => Fz)
        (rename News _ _ _ _ => Nz)
        refine turn_end (R := R) (R3 := TA ++ R) (i := i) (gm' := gmAdd gm (c + 1) (.proc (c + 1) ks lf (baseOf v2 lf))) (c' := c + 1) _ Fz Nz ?e1 (.tail _ (.tail _ (.head _))) (.tail _ (.tail _ (.tail _ (.head _)))) (.tail _ (.tail _ (.tail _ (.tail _ (.head _))))) (.tail _ (.tail _ (.tail _ (.tail _ (.tail _ (.head _)))))) (.tail _ (.tail _ (.tail _ (.tail _ (.tail _ (.tail _ (.head _))))))) (fun p hp => .tail _ (.tail _ (.tail _ (.tail _ (.tail _ (.tail _ (.tail _ (sA p hp)))))))) (fun p hp => .tail _ (.tail _ (.tail _ (.tail _ (.tail _ (.tail _ (.tail _ (ownRa p hp)))))))) hoff offA (fun p hp => iA p (jS p hp)) (fun p hp => ⟨oa1 p (sA p hp), oa2 p (sA p hp), oa3 p (sA p hp), oa4 p (sA p hp), oa5 p (sA p hp)⟩)
          bC (c_bnds jc0 jc1 hi).1 hctA jnA jiA jwA jallA (es_bnds (e2 := 0) jz hi hlenA).2.2.1 (gm_low jg7 jc0 (by decide)) (gm_low jg4 jc0 (by decide)) (LvlsIn.snoc ⟨jF, jG, jH, jL⟩ (gmAdd_old (c_bnds jc0 jc1 hi).2.2.2.2.2) (c_bnds jc0 jc1 hi).2.2.2.1 iA tyA tyA (Lvl.share jg7 jg4 (c_bnds jc0 jc1 hi).2.2.1 ⟨by rw [hK.2.1]; exact nn3, hK.2.2⟩ g6))
        exact (by
          intro z h1 h2
          have h3 := h2
          simp only [storedL, List.contains_cons, List.contains_nil, Bool.or_false, Bool.or_eq_false_iff, beq_eq_false_iff_ne, ne_eq] at h3
          simp [h1, h2, h3]; done)
      · have h4b : (v3 == 4) = false := by rw [beq_eq_false_iff_ne]; exact h4
        tb_start
        k_dflt (refine' use_tower (R := TA ++ R) ?wBk1 ?wBk2 ?wBk3 ?wBk4 ?wBk13 ?wBk5 ?wBk6 ?wBk7 ?wBk8 (fun p hp => oa2 p (sA p hp)) ?wBs (iA _ (jS _ c6)) hctA (es_bnds (e2 := 0) jz hi hlenA).2.1 jwA jnA jiA (g5.mono iA) ((c7.mono jS).mono iA) ((c8.mono jS).mono iA) ?wBl w3 hK' hr1 hr2 ?_; (case wBk4 => k_asm); (case wBk1 => k_asm); (case wBk2 => k_asm); (case wBk3 => k_asm); (case wBk5 => k_asm); (case wBk13 => k_updF); (case wBs => exact (fun p hp => .tail _ (.tail _ (.tail _ (.tail _ (.tail _ (.tail _ (.tail _ (sA p hp))))))))); (case wBl => exact (.head _)); (case wBk6 => first | exact rfl | assumption); (case wBk7 => exact Nat.le_of_ble_eq_true rfl); (case wBk8 => exact Nat.le_of_ble_eq_true rfl))
        intro aB esB nesB TB tcB hTB tkTB FTB NTB htyB hofB hctB hgetB hlenB
        (try dsimp only at NTB)
        replace NTB := mv7 NTB
        obtain ⟨Rb, eRb⟩ : ∃ Rb, Rb = TB ++ Ra := ⟨_, rfl⟩
        rw [← eRb] at NTB
        have s2 : Sub Rb Rb := Sub.refl
        have ob1 : ∀ p ∈ Rb, p.1 ≠ st := by rw [eRb]; exact off_app hofB (.tail _ (.tail _ (.head _))) oa1
        have ob2 : ∀ p ∈ Rb, p.1 ≠ dty := by rw [eRb]; exact off_app hofB (.tail _ (.tail _ (.tail _ (.head _)))) oa2
        have ob3 : ∀ p ∈ Rb, p.1 ≠ fl := by rw [eRb]; exact off_app hofB (.tail _ (.tail _ (.tail _ (.tail _ (.head _))))) oa3
        have ob4 : ∀ p ∈ Rb, p.1 ≠ sl := by rw [eRb]; exact off_app hofB (.tail _ (.tail _ (.tail _ (.tail _ (.tail _ (.head _)))))) oa4
        have ob5 : ∀ p ∈ Rb, p.1 ≠ el := by rw [eRb]; exact off_app hofB (.tail _ (.tail _ (.tail _ (.tail _ (.tail _ (.tail _ (.head _))))))) oa5
        have tyB := htyB (TB ++ (TA ++ R)) (fun p hp => List.mem_append.mpr (.inl hp)) (fun p hp => List.mem_append.mpr (.inr hp))
        have jallB := all_upd hctB hgetB jallA
        have jnB := (hgetB (Str.ofString "none") (by decide)).trans jnA
        have jiB := (hgetB (Str.ofString "integer") (by decide)).trans jiA
        have jwB := (hgetB (Str.ofString "new") (by decide)).trans jwA
        have ec2 : c + 1 + 1 = c + 2 := c11
        rw [ec2] at tyB hctB
        have offB : TbOff own (TB ++ (TA ++ R)) := tbOff_app hofB (fun p hp => .tail _ (.tail _ (.tail _ (.tail _ (.tail _ (.tail _ (.tail _ (ownRa p hp)))))))) offA
        have sB : ∀ p ∈ TB ++ (TA ++ R), p ∈ Rb := fun p hp => by
          rw [eRb]; exact (List.mem_append.mp hp).elim (fun h => List.mem_append.mpr (.inl h)) (fun h => List.mem_append.mpr (.inr (sA p h)))
        have iB : ∀ p ∈ R, p ∈ TB ++ (TA ++ R) := fun p hp => List.mem_append.mpr (.inr (iA p hp))
        have ownRb : ∀ p ∈ own, p ∈ Rb := fun p hp => by rw [eRb]; exact List.mem_append.mpr (.inr (ownRa p hp))
        have hKi' := hK'.1
        have hKl' : kvs'.length ≤ 1000 := Nat.le_trans (hK'.len ▸ hK'.2.1) (by decide)
        have hNil : decide (natInts ks = []) = false := by
          have h1 := hK.2.1
          cases ks with
          | nil => simp at h1; omega
          | cons _ _ => simp [natInts]
        have fin : ∀ (s1 : Shared) (h' : Heap) (m' : Str → Option Value) (news' : Led) (tk' : Nat) (e : Bool) (n3' : Nat), Fr h₀ L h' m' → News h₀ L h' news' → (∀ z, z ≠ Str.ofString "go_of" → storedL.contains z = false → m' z = lawM el sl fl ty mr z) →
            (∀ p ∈ (st, listOf [Value.ref row, Value.int (a0 + 1 + nn + 1 + 1) tt3].toArray nst3) :: (dty, dictOf esB nesB) :: (fl, listOf (fs ++ [Value.ref aA]).toArray (n1 + 1)) :: (sl, listOf (ss ++ [Value.ref aB]).toArray (n2 + 1)) :: (el, listOf (bs ++ [Value.bool e]).toArray n3') :: Rb, p ∈ news') →
            (decide (ks' = ks) && ld && (v2 == r' && (decide (v2 < 2) || ld))) = e →
            TbEnd h₀ L (fun m' nx => (∀ z, z ≠ Str.ofString "go_of" → storedL.contains z = false → m' z = lawM el sl fl ty mr z) ∧ Inv st dty fl sl el row na ia R0 (i + 1) nx) own s1 { s1 with heap := h', toks := tk' } := by
          intro s1 h' m' news' tk' e n3' Fz Nz hP hsub he
          have hk3 : ks.length ≤ 3 ∧ ∀ x ∈ ks, x < 3 := ⟨by rw [hK.2.1]; exact nn3, hK.2.2⟩
          have hne : ks ≠ [] := by intro e; rw [e] at hNil; simp [natInts] at hNil
          have hl := Lvl.step (ks := ks) (ks' := ks') (r := v2) (r' := r') jg7 jg4 (c_bnds jc0 jc1 hi).2.2.1 hk3 hK'.2 ⟨v2l, v2h⟩ ⟨hr1, hr2⟩ hne g6
          rw [he] at hl
          have old := @gm_old2 gm c (.proc (c + 1) ks lf (baseOf v2 lf)) (.proc (c + 2) ks' ls (baseOf r' ls))
          exact turn_end (R := R) (R3 := TB ++ (TA ++ R)) (i := i) (c' := c + 2) (fun m' => ∀ z, z ≠ Str.ofString "go_of" → storedL.contains z = false → m' z = lawM el sl fl ty mr z) Fz Nz hP (hsub _ (.head _)) (hsub _ (.tail _ (.head _))) (hsub _ (.tail _ (.tail _ (.head _)))) (hsub _ (.tail _ (.tail _ (.tail _ (.head _))))) (hsub _ (.tail _ (.tail _ (.tail _ (.tail _ (.head _))))))
            (fun p hp => hsub _ (.tail _ (.tail _ (.tail _ (.tail _ (.tail _ (sB p hp))))))) (fun p hp => hsub _ (.tail _ (.tail _ (.tail _ (.tail _ (.tail _ (ownRb p hp))))))) hoff offB (fun p hp => iB p (jS p hp)) (fun p hp => ⟨ob1 p (sB p hp), ob2 p (sB p hp), ob3 p (sB p hp), ob4 p (sB p hp), ob5 p (sB p hp)⟩)
            bC (c_bnds jc0 jc1 hi).2.1 hctB jnB jiB jwB jallB ((es_bnds jz hi hlenA).2.2.2 hlenB) ((old 7 (Int.le_trans (by decide) jc0)).trans jg7) ((old 4 (Int.le_trans (by decide) jc0)).trans jg4) (LvlsIn.snoc ⟨jF, jG, jH, jL⟩ old (c_bnds jc0 jc1 hi).2.2.2.2.1 iB (tyA.mono fun p hp => List.mem_append.mpr (.inr hp)) tyB hl)
        k_sweep
        (with_reducible show wpAny _ _ _ _ _ _)
        tb_start
        k_dflt (refine if_join (fun s' => ∃ h' tk' sr, s' = { s with heap := h', toks := tk' } ∧ Fr h₀ L h' (fun y => if y = Str.ofString "same_results" then some (.bool sr) else if y = Str.ofString "under" then some (.bool ld) else if y = Str.ofString "made" then some (.ref aA) else
            if y = Str.ofString "result_too" then some (.int r' tr') else if y = Str.ofString "changed" then some (.ref cv) else
            if y = Str.ofString "change" then some (.int v3 tv3) else if y = Str.ofString "result" then some (.int v2 tv2) else if y = Str.ofString "kinds" then some (.ref D) else if y = Str.ofString "go_of" then some (.int (i : Nat) t) else if storedL.contains y then u y else lawM el sl fl ty mr y) ∧
            News h₀ L h' ((cv, listOf kvs'.toArray nc) :: (D, listOf ys.toArray ys.length) :: (st, listOf [Value.ref row, Value.int (a0 + 1 + nn + 1 + 1) tt3].toArray nst3) :: (dty, dictOf esB nesB) :: (fl, listOf (fs ++ [Value.ref aA]).toArray (n1 + 1)) :: (sl, listOf (ss ++ [Value.ref aB]).toArray (n2 + 1)) :: (el, listOf bs.toArray n3) :: Rb) ∧
            (v2 == r' && (decide (v2 < 2) || ld)) = sr) ?sA ?sB)
        case sA =>
          cases hrr : (v2 == r') with
          | false =>
            ktr_rel
            (rename Fr _ _ _ _ => Fz)
            (rename News _ _ _ _ => Nz)
            exact ⟨rfl, _, _, _, rfl, Fz, Nz, (by first | rfl | (simp [hrr]; done))⟩
          | true =>
            cases hr3 : decide (v2 < 2) with
            | false =>
              ktr_rel
              (rename Fr _ _ _ _ => Fz)
              (rename News _ _ _ _ => Nz)
              exact ⟨rfl, _, _, _, rfl, Fz, Nz, (by first | rfl | (simp [hrr, hr3]; done))⟩
            | true =>
              ktr_rel
              (rename Fr _ _ _ _ => Fz)
              (rename News _ _ _ _ => Nz)
              exact ⟨rfl, _, _, _, rfl, Fz, Nz, (by first | rfl | (simp [hrr, hr3]; done))⟩
        case sB =>
          rintro s' ⟨h7, tk7, sr, rfl, F7, N7, hsr⟩
          k_sweep
          (with_reducible show wpAny _ _ _ _ _ _)
          cases hE : decide (natInts ks' = natInts ks) with
          | false =>
            ktr_rel
            (rename Fr _ _ _ _ => Fz)
            (rename News _ _ _ _ => Nz)
            exact fin _ _ _ _ _ _ _ Fz Nz (by intro z h1 h2; have h3 := h2; simp only [storedL, List.contains_cons, List.contains_nil, Bool.or_false, Bool.or_eq_false_iff, beq_eq_false_iff_ne, ne_eq] at h3; simp [h1, h2, h3]; done) (fun p hp => .tail _ (.tail _ hp)) (by rw [← natInts_dec, hE]; first | rfl | (simp; done))
          | true =>
            cases ld with
            | false =>
              ktr_rel
              (rename Fr _ _ _ _ => Fz)
              (rename News _ _ _ _ => Nz)
              exact fin _ _ _ _ _ _ _ Fz Nz (by intro z h1 h2; have h3 := h2; simp only [storedL, List.contains_cons, List.contains_nil, Bool.or_false, Bool.or_eq_false_iff, beq_eq_false_iff_ne, ne_eq] at h3; simp [h1, h2, h3]; done) (fun p hp => .tail _ (.tail _ (.tail _ hp))) (by rw [← natInts_dec, hE]; first | rfl | (simp; done))
            | true =>
              ktr_rel
              (rename Fr _ _ _ _ => Fz)
              (rename News _ _ _ _ => Nz)
              exact fin _ _ _ _ _ _ _ Fz Nz (by intro z h1 h2; have h3 := h2; simp only [storedL, List.contains_cons, List.contains_nil, Bool.or_false, Bool.or_eq_false_iff, beq_eq_false_iff_ne, ne_eq] at h3; simp [h1, h2, h3]; done) (fun p hp => .tail _ (.tail _ (.tail _ hp))) (by rw [← natInts_dec, hE]; (first | exact hsr | (simpa using hsr)))
end
section
theorem fill11 (P : Params) : (PySem.Challenge.rw_pq0743_01 = PySem.Challenge.rw_pq0743_01) ∧ (hd.heap_39 P = hd.heap_39 P) := by
  w_top off
  k_fill
  exact ⟨rfl, rfl⟩
local macro_rules | `(tactic| ktr_unf) => `(tactic| repeat' ((fail_if_success (with_reducible show wpAny _ _ (pyIter (Value.ref _)) _ _ _)); (fail_if_success (with_reducible show wpAny _ _ (call (Value.ref 44) _) _ _ _)); (fail_if_success (with_reducible show wpAny _ _ (call (Value.ref 36) _) _ _ _)); (fail_if_success (with_reducible show TbEnd _ _ _ _ _ _)); first | (k_unfold; (try dsimp only)) | walk1 | (dsimp only; walk1) | fail "no step"))
abbrev lawM2 (u : Str → Option Value) (el sl fl ty : Addr) (mr : Str → Option Value) : Str → Option Value := fun y => if y = Str.ofString "go_of" then u y else if storedL.contains y then u y else lawM el sl fl ty mr y
theorem check {w : World} {p : Program} {loose : List Str} {mean : ExcName → Option Value} {mg mb : Str → Option Value} {h₀ h : Heap} {L fa : Addr} {ccd : Value} {tk i n : Nat} {t : Tok} {u u0 mr : Str → Option Value} {nx own W R : Led} {fl sl el ty : Addr} {fs ss bs : List Value} {n1 n2 n3 : Nat} {gm : Int → Ty} {c : Int} {Q : Flow → Shared → Prop} {E : Value → Shared → Prop} {s : Shared}
    (B : Below callerA h₀ [] h₀) (X : (hd.heap_39 w.params).In h₀) (T : Top p loose mean mg mb h₀) (hi : i < n) (hn : n ≤ 17) (hoff : TbOff own nx) (J : Sub W nx) (k3 : (fl, listOf fs.toArray n1) ∈ W) (k4 : (sl, listOf ss.toArray n2) ∈ W) (k5 : (el, listOf bs.toArray n3) ∈ W) (sR : Sub R W) (lv : LvlsIn gm c R n fs ss bs)
    (F : Fr h₀ L h (fun y => if y = Str.ofString "at" then some (.int (i : Nat) t) else if [Str.ofString "due"].contains y then u y else lawM2 u0 el sl fl ty mr y)) (N : News h₀ L h (nx ++ own)) :
    wpAny (model PROG w) (callerA.deeper (lawEnv L fa ccd)) (execs (loopOf 10) (lawEnv L fa ccd))
      (TbPost h₀ L (fun m' nx => (∀ z, z ≠ Str.ofString "at" → [Str.ofString "due"].contains z = false → m' z = lawM2 u0 el sl fl ty mr z) ∧ Sub W nx) own { s with heap := h, toks := tk } Q) E { s with heap := h, toks := tk } := by
  obtain ⟨jF, jG, jH, jL⟩ := lv
  obtain ⟨la, lb, lf, ls, ld, g1, g2, g3, g4, g5, g6⟩ := jL i hi
  obtain ⟨N0, eN0⟩ : ∃ N0, N0 = nx ++ own := ⟨_, rfl⟩
  rw [← eN0] at N
  have i0 : ∀ p ∈ W, p ∈ N0 := fun p hp => by rw [eN0]; exact List.mem_append.mpr (.inl (J p hp))
  have s0 : Sub N0 N0 := Sub.refl
  have d3 := i0 _ k3
  have d4 := i0 _ k4
  have d5 := i0 _ k5
  have hi2 : i ≤ 1000 := by omega
  have cA : C0 gm R N0 la lb lf ls := { ra := g4, rb := g5, sub := fun p hp => i0 p (sR p hp), fa := g6.ff, fb := g6.fs }
  have tA := law_eqP (w := w) cA (by have := g6.hf; omega) g6.pf g6.ps g6.e1
  have e1 : loopOf 10 = loopOf 10 := rfl
  conv at e1 => rhs; whnf
  have e2 : lawScope = lawScope := rfl
  conv at e2 => rhs; whnf
  rw [e1]
  simp only [lawEnv]
  rw [e2]
  clear e1 e2
  (with_reducible show wpAny _ _ _ _ _ _)
  k_fold
  ktr_unf
  k_dflt (refine' tell_use tA ?ak1 ?ak2 ?ak3 ?ak4 ?ak5 ?ak6 ?ak7 ?ak8 ?_; (case ak4 => k_asm); (case ak1 => k_asm); (case ak2 => k_asm); (case ak3 => k_asm); (case ak5 => k_asm); (case ak6 => first | exact rfl | assumption); (case ak7 => exact Nat.le_of_ble_eq_true rfl); (case ak8 => exact Nat.le_of_ble_eq_true rfl))
  intro r' NA hA tkA FA NA' oA
  obtain ⟨e1', subA⟩ := oA
  subst e1'
  clear tA cA
  k_sweep
  have sA : Sub NA NA := Sub.refl
  have a3 := subA _ d3
  have a4 := subA _ d4
  have a5 := subA _ d5
  have cB : C0 gm R NA lb la ls lf := { ra := g5, rb := g4, sub := fun p hp => subA _ (i0 p (sR p hp)), fa := g6.fs, fb := g6.ff }
  have tB := law_eqT (w := w) cB (by have := g6.hs; omega) g6.e2
  cases ld with
  | false =>
    ktr_unf
    k_dflt (refine' tell_use tB ?fk1 ?fk2 ?fk3 ?fk4 ?fk5 ?fk6 ?fk7 ?fk8 ?_; (case fk4 => k_asm); (case fk1 => k_asm); (case fk2 => k_asm); (case fk3 => k_asm); (case fk5 => k_asm); (case fk6 => first | exact rfl | assumption); (case fk7 => exact Nat.le_of_ble_eq_true rfl); (case fk8 => exact Nat.le_of_ble_eq_true rfl))
    intro r2 NB hB tkB FB NB' oB
    obtain ⟨e2', subB⟩ := oB
    subst e2'
    k_sweep
    ktr_unf
    (rename Fr _ _ _ _ => Fz)
    (rename News _ _ _ _ => Nz)
    refine ⟨_, _, _, NB, nx, rfl, Fz, Nz, fun p hp => subB _ (subA _ (by rw [eN0]; exact List.mem_append.mpr (.inl hp))), fun p hp => subB _ (subA _ (by rw [eN0]; exact List.mem_append.mpr (.inr hp))), hoff, ?_, J⟩
    intro z h1 h2
    have h3 := h2
    simp only [List.contains_cons, List.contains_nil, Bool.or_false, beq_eq_false_iff_ne, ne_eq] at h3
    simp [h1, h3]
  | true =>
    ktr_unf
    k_dflt (refine' tell_use tB ?gk1 ?gk2 ?gk3 ?gk4 ?gk5 ?gk6 ?gk7 ?gk8 ?_; (case gk4 => k_asm); (case gk1 => k_asm); (case gk2 => k_asm); (case gk3 => k_asm); (case gk5 => k_asm); (case gk6 => first | exact rfl | assumption); (case gk7 => exact Nat.le_of_ble_eq_true rfl); (case gk8 => exact Nat.le_of_ble_eq_true rfl))
    intro r2 NB hB tkB FB NB' oB
    obtain ⟨e2', subB⟩ := oB
    subst e2'
    k_sweep
    ktr_unf
    (rename Fr _ _ _ _ => Fz)
    (rename News _ _ _ _ => Nz)
    refine ⟨_, _, _, NB, nx, rfl, Fz, Nz, fun p hp => subB _ (subA _ (by rw [eN0]; exact List.mem_append.mpr (.inl hp))), fun p hp => subB _ (subA _ (by rw [eN0]; exact List.mem_append.mpr (.inr hp))), hoff, ?_, J⟩
    intro z h1 h2
    have h3 := h2
    simp only [List.contains_cons, List.contains_nil, Bool.or_false, beq_eq_false_iff_ne, ne_eq] at h3
    simp [h1, h3]
end
section
theorem fill12 (P : Params) : (PySem.Challenge.rw_pq0743_01 = PySem.Challenge.rw_pq0743_01) ∧ (hd.heap_39 P = hd.heap_39 P) := by
  w_top off
  k_fill
  exact ⟨rfl, rfl⟩
theorem lawM_of {el sl fl ty : Addr} {b2 b1 : Option Value} {f : Str → Option Value} : ∀ y, (if y = Str.ofString "equal_at" then some (Value.ref el) else if y = Str.ofString "second" then some (.ref sl) else if y = Str.ofString "first" then some (.ref fl) else if y = Str.ofString "other" then b2 else if y = Str.ofString "start" then b1 else
    if y = Str.ofString "types" then some (.ref ty) else f y) = lawM el sl fl ty (fun y => if y = Str.ofString "other" then b2 else if y = Str.ofString "start" then b1 else f y) y := fun y => by
  unfold lawM
  by_cases h1 : y = Str.ofString "equal_at"
  · rw [if_pos h1, if_pos h1]
  rw [if_neg h1, if_neg h1]
  by_cases h2 : y = Str.ofString "second"
  · rw [if_pos h2, if_pos h2]
  rw [if_neg h2, if_neg h2]
  by_cases h3 : y = Str.ofString "first"
  · rw [if_pos h3, if_pos h3]
  rw [if_neg h3, if_neg h3]
  by_cases h4 : y = Str.ofString "types"
  · have h5 : ¬ y = Str.ofString "other" := by rw [h4]; decide
    have h6 : ¬ y = Str.ofString "start" := by rw [h4]; decide
    rw [if_neg h5, if_neg h6, if_pos h4, if_pos h4]
  · rw [if_neg h4, if_neg h4]
def gm0 : Int → Ty := fun x => if x = 8 then .proc 8 [] (.non 7) (.non 7) else if x = 9 then .proc 9 [] (.non 7) (.non 7) else if x = 4 then .itg 4 else .non 7
theorem start_ty {R : Led} {a da pl na : Addr} {eb ea : List DictEntry} {nb np : Nat} {num : Int} {t1 t2 : Tok} (h1 : (a, instObj 61 da) ∈ R) (h2 : (da, dictOf eb nb) ∈ R) (h3 : (pl, listOf ([] : List Value).toArray np) ∈ R) (q1 : getL (Str.ofString "number") ea = some (some (.int num t1))) (q2 : getL (Str.ofString "form") ea = some (some (.str (Str.ofString "proc") t2)))
    (q3 : getL (Str.ofString "params") ea = some (some (.ref pl))) (g1 : getL (Str.ofString "base") eb = some (some (.ref na))) (g2 : ∀ k, Str.ofString "base" ≠ k → getL k eb = getL k ea) (tn : TyIn R na (.non 7)) : TyIn R a (.proc num [] (.non 7) (.non 7)) := by
  simp only [TyIn]
  exact ⟨eb, na, na, pl, [], np, ⟨da, nb, t1, t2, h1, h2, (g2 _ (by decide)).trans q1, (g2 _ (by decide)).trans q2⟩, g1, (g2 _ (by decide)).trans q3, h3, trivial, tn, tn⟩
theorem inv_start {st dty fl sl el row na ia a1 a2 : Addr} {R0 : Led} {ts tc : Tok} {nst nes n1 n2 n3 : Nat} {es : List DictEntry} {a0 : Int} (ha : a0 = 1) (hR : ∀ p ∈ R0, p.1 ≠ st ∧ p.1 ≠ dty ∧ p.1 ≠ fl ∧ p.1 ≠ sl ∧ p.1 ≠ el) (h5 : getL (Str.ofString "counter") es = some (some (.int 9 tc))) (h6 : getL (Str.ofString "none") es = some (some (.ref na)))
    (h7 : getL (Str.ofString "integer") es = some (some (.ref ia))) (h8 : getL (Str.ofString "new") es = some none) (h9 : ∀ k, (getL k es).isSome = true) (h10 : es.length ≤ 102) (t1 : TyIn R0 a1 (.proc 8 [] (.non 7) (.non 7))) (t2 : TyIn R0 a2 (.proc 9 [] (.non 7) (.non 7))) :
    Inv st dty fl sl el row na ia R0 0 ((st, listOf [Value.ref row, Value.int a0 ts].toArray nst) :: (dty, dictOf es nes) :: (fl, listOf [Value.ref a1].toArray n1) :: (sl, listOf [Value.ref a2].toArray n2) :: (el, listOf [Value.bool true].toArray n3) :: R0) := by
  refine ⟨a0, ts, nst, es, nes, [.ref a1], [.ref a2], [.bool true], n1, n2, n3, R0, gm0, 9, tc, rfl, Sub.refl, hR, ⟨by omega, by omega⟩, ⟨by decide, by decide⟩, h5, h6, h7, h8, h9, by omega, rfl, rfl, rfl, rfl, rfl, ?_⟩
  intro j hj
  have : j = 0 := by omega
  subst this
  exact ⟨a1, a2, _, _, true, rfl, rfl, rfl, t1, t2, Lvl.start rfl rfl rfl⟩
theorem mvS {h₀ h : Heap} {L : Addr} {q1 q2 q3 q4 q5 q6 q7 q8 q9 q10 q11 q12 q13 q14 : Addr × Obj} {T : Led} (N : News h₀ L h (q1 :: q2 :: q3 :: q4 :: q5 :: q6 :: q7 :: q8 :: q9 :: q10 :: q11 :: q12 :: q13 :: q14 :: T)) :
    ∃ R0, R0 = q4 :: q5 :: q6 :: q7 :: q8 :: q9 :: q11 :: q13 :: q14 :: T ∧ News h₀ L h (q12 :: q10 :: q3 :: q2 :: q1 :: R0) := by
  refine ⟨_, rfl, fun p hp => N p ?_⟩
  simp only [List.mem_cons] at hp ⊢
  rcases hp with h | h | h | h | h | h | h | h | h | h | h | h | h | h | h <;> simp [h]
theorem ofInv {st dty fl sl el row na ia : Addr} {R0 nx : Led} {i : Nat} (J : Inv st dty fl sl el row na ia R0 i nx) : ∃ (es : List DictEntry) (nes : Nat) (fs ss bs : List Value) (n1 n2 n3 : Nat) (R : Led) (gm : Int → Ty) (c : Int),
    (dty, dictOf es nes) ∈ nx ∧ (fl, listOf fs.toArray n1) ∈ nx ∧ (sl, listOf ss.toArray n2) ∈ nx ∧ (el, listOf bs.toArray n3) ∈ nx ∧ Sub R nx ∧ Sub R0 nx ∧ getL (Str.ofString "integer") es = some (some (.ref ia)) ∧ gm 4 = .itg 4 ∧ LvlsIn gm c R (i + 1) fs ss bs := by
  obtain ⟨a0, ts, nst, es, nes, fs, ss, bs, n1, n2, n3, R, gm, c, tc, rfl, jS, jO, ja, jc', jc, jn, ji, jw, jall, jz, jg7, jg4, lv⟩ := J
  exact ⟨es, nes, fs, ss, bs, n1, n2, n3, R, gm, c, .tail _ (.head _), .tail _ (.tail _ (.head _)), .tail _ (.tail _ (.tail _ (.head _))), .tail _ (.tail _ (.tail _ (.tail _ (.head _)))), fun p hp => .tail _ (.tail _ (.tail _ (.tail _ (.tail _ hp)))), fun p hp => .tail _ (.tail _ (.tail _ (.tail _ (.tail _ (jS p hp))))), ji, jg4, lv⟩
local macro_rules | `(tactic| ktr_unf) => `(tactic| repeat' ((fail_if_success (with_reducible show wpAny _ _ (pyIter (Value.ref _)) _ _ _)); (fail_if_success (with_reducible show wpAny _ _ (call (Value.ref 118) _) _ _ _)); (fail_if_success (with_reducible show wpAny _ _ (call (Value.ref 129) _) _ _ _)); (fail_if_success (with_reducible show wpAny _ _ (call (Value.ref 108) _) _ _ _)); (fail_if_success (with_reducible show wpAny _ _ (setAttr (Value.ref _) _ _) _ _ _)); first | (k_unfold; (try dsimp only)) | (k_end; wrow_close) | walk1 | (dsimp only; walk1) | fail "no step"))
local macro_rules | `(tactic| tb_start) => `(tactic| repeat' ((fail_if_success (with_reducible show wpAny _ _ (pyIter (Value.ref _)) _ _ _)); (fail_if_success (with_reducible show wpAny _ _ (call (Value.ref 44) _) _ _ _)); (fail_if_success (with_reducible show wpAny _ _ (call (Value.ref 36) _) _ _ _)); first | (k_unfold; (try dsimp only)) | (k_end; wrow_close) | walk1 | (dsimp only; walk1) | (leave1; walk_say "STEP leave1"; try dsimp only) | fail "no step"))
theorem holds : PySem.Challenge.rw_pq0743_01.Holds := hd (by
  k_go0; (all_goals try k_fold)
  ktr_unf
  rename World => w
  rename_i row rws hx1 hI hC hLr l1r st hx2 l1s hx3 oc Fpre Npre dc
  have hIl : rws.length ≤ 40 := by have h1 := hI.length; rw [List.length_take] at h1; omega
  k_dflt (refine' use_types ?tk1 ?tk2 ?tk3 ?tk4 ?tk5 ?tk6 ?tk7 ?tk8 ?_; (case tk4 => k_asm); (case tk1 => k_asm); (case tk2 => k_asm); (case tk3 => k_asm); (case tk5 => k_asm); (case tk6 => first | exact rfl | assumption); (case tk7 => exact Nat.le_of_ble_eq_true rfl); (case tk8 => exact Nat.le_of_ble_eq_true rfl))
  intro ty dty es n na ia T0 tc h0 tk0 F0 N0 tn ti xc xn xi xw xall xlen o1 oT olt
  k_lt olt
  (try simp only [List.cons_append, List.nil_append] at N0)
  k_sweep
  ktr_unf
  k_dflt (refine' use_newU (Bd := _) ?n1k1 ?n1k2 ?n1k3 ?n1k4 ?n1k13 ?n1k5 ?n1k6 ?n1k7 ?n1k8 ?n1k9 xc xall xlen ?n1k14 ?_; (case n1k4 => k_asm); (case n1k9 => k_mem); (case n1k13 => k_updF); (case n1k14 => decide); (case n1k1 => k_asm); (case n1k2 => k_asm); (case n1k3 => k_asm); (case n1k5 => k_asm); (case n1k6 => first | exact rfl | assumption); (case n1k7 => exact Nat.le_of_ble_eq_true rfl); (case n1k8 => exact Nat.le_of_ble_eq_true rfl))
  intro a1 da1 ea1 nea1 pl1 es1 n1 t11 t21 tc1 h1 tk1 F1 N1 q11 q21 q31 q41 q51 q61 q71 q81 q91 q101 q111 q121
  (try dsimp only at N1); (try dsimp only at q121); k_lt q121; k_sweep
  have nw1 := (q71 (Str.ofString "new") (by decide)).trans xw
  have xn1 := (q71 (Str.ofString "none") (by decide)).trans xn
  have xi1 := (q71 (Str.ofString "integer") (by decide)).trans xi
  ktr_unf
  k_dflt (refine' set_abs ?s1k1 ?s1k2 ?s1k3 ?s1k4 ?s1k5 ?s1k6 ?s1k7 ?s1k8 ?s1k9 (q41 _ rfl) q51 ?_; (case s1k1 => k_asm); (case s1k2 => k_asm); (case s1k3 => k_asm); (case s1k4 => k_mem); (case s1k5 => k_updF); (case s1k6 => k_is); (case s1k7 => k_is); (case s1k8 => k_is); (case s1k9 => k_is))
  intro hs1 eb1 nb1 tks1 g11 g21 z1 F1 N1
  (try dsimp only at N1); k_sweep
  ktr_unf
  k_dflt (refine' use_newU (Bd := _) ?n2k1 ?n2k2 ?n2k3 ?n2k4 ?n2k13 ?n2k5 ?n2k6 ?n2k7 ?n2k8 ?n2k9 q61 q91 q81 ?n2k14 ?_; (case n2k4 => k_asm); (case n2k9 => k_mem); (case n2k13 => k_updF); (case n2k14 => decide); (case n2k1 => k_asm); (case n2k2 => k_asm); (case n2k3 => k_asm); (case n2k5 => k_asm); (case n2k6 => first | exact rfl | assumption); (case n2k7 => exact Nat.le_of_ble_eq_true rfl); (case n2k8 => exact Nat.le_of_ble_eq_true rfl))
  intro a2 da2 ea2 nea2 pl2 es2 n2 t12 t22 tc2 h2 tk2 F2 N2 q12 q22 q32 q42 q52 q62 q72 q82 q92 q102 q112 q122
  (try dsimp only at N2); (try dsimp only at q122); k_lt q122; k_sweep
  have nw2 := (q72 (Str.ofString "new") (by decide)).trans nw1
  have xn2 := (q72 (Str.ofString "none") (by decide)).trans xn1
  have xi2 := (q72 (Str.ofString "integer") (by decide)).trans xi1
  ktr_unf
  k_dflt (refine' set_abs ?s2k1 ?s2k2 ?s2k3 ?s2k4 ?s2k5 ?s2k6 ?s2k7 ?s2k8 ?s2k9 (q42 _ rfl) q52 ?_; (case s2k1 => k_asm); (case s2k2 => k_asm); (case s2k3 => k_asm); (case s2k4 => k_mem); (case s2k5 => k_updF); (case s2k6 => k_is); (case s2k7 => k_is); (case s2k8 => k_is); (case s2k9 => k_is))
  intro hs2 eb2 nb2 tks2 g12 g22 z2 F2 N2
  (try dsimp only at N2); k_sweep
  ktr_unf
  rename_i fl hx4 lfl hx5 tkx1 sl hx6 lsl hx7 tkx2 el hx8 lel hx9 FX NX
  k_dflt (refine' use_takeU ?t0k1 ?t0k2 ?t0k3 ?t0k4 ?t0k13 ?t0k5 ?t0k6 ?t0k7 ?t0k8 ?t0k9 ?t0k10 ?t0k11 ?t0k12 ?t0k14 ?t0k15 ?t0k16 ?_; (case t0k4 => k_asm); (case t0k1 => k_asm); (case t0k2 => k_asm); (case t0k3 => k_asm); (case t0k5 => k_asm); (case t0k6 => first | exact rfl | assumption); (case t0k7 => exact Nat.le_of_ble_eq_true rfl); (case t0k8 => exact Nat.le_of_ble_eq_true rfl); (case t0k13 => k_updF); (case t0k9 => k_mem); (case t0k10 => k_ne); (case t0k11 => exact hI); (case t0k12 => exact hIl); (case t0k14 => decide); (case t0k15 => decide); (case t0k16 => decide))
  intro v0 tv0 tt0 nst0 ht0 tkt0 v0l v0h FT0 NT0
  (try dsimp only at NT0); k_sweep
  ktr_unf
  (rename Fr _ _ _ _ => lF)
  (rename News _ _ _ _ => lN)
  (rename IsRange _ _ _ _ _ _ _ _ => rgX)
  obtain ⟨nn, enn, nn1⟩ := nn16 v0l v0h
  have hnn := (i_bnds nn1).1
  have hnn2 := (i_bnds nn1).2
  rw [enn] at rgX
  have lF2 := Fr.eqm lF lawM_of
  obtain ⟨R0, eR0, lN2⟩ := mvS lN
  clear lF lN
  have mrow : (row, listOf rws.toArray 0) ∈ R0 := by rw [eR0]; exact .tail _ (.tail _ (.tail _ (.tail _ (.tail _ (.tail _ (.tail _ (.head _)))))))
  have mty : (ty, instObj 118 dty) ∈ R0 := by rw [eR0]; exact .tail _ (.tail _ (.tail _ (.tail _ (.tail _ (.tail _ (.head _))))))
  have sT : ∀ p ∈ T0, p ∈ R0 := by rw [eR0]; exact fun p hp => .tail _ (.tail _ (.tail _ (.tail _ (.tail _ (.tail _ (.tail _ (.tail _ (.tail _ (hp)))))))))
  have tnR := tn.mono sT
  have tiR := ti.mono sT
  have tyA : TyIn R0 a1 (.proc 8 [] (.non 7) (.non 7)) := start_ty (by rw [eR0]; exact .tail _ (.tail _ (.tail _ (.tail _ (.head _))))) (by rw [eR0]; exact .tail _ (.tail _ (.tail _ (.tail _ (.tail _ (.head _)))))) (by rw [eR0]; exact .tail _ (.tail _ (.tail _ (.head _)))) q11 q21 q31 g11 g21 tnR
  have tyB : TyIn R0 a2 (.proc 9 [] (.non 7) (.non 7)) := start_ty (by rw [eR0]; exact .tail _ (.head _)) (by rw [eR0]; exact .tail _ (.tail _ (.head _))) (by rw [eR0]; exact .head _) q12 q22 q32 g12 g22 tnR
  have hR : ∀ p ∈ R0, p.1 ≠ st ∧ p.1 ≠ dty ∧ p.1 ≠ fl ∧ p.1 ≠ sl ∧ p.1 ≠ el := by
    rw [eR0]
    intro p hp
    simp only [List.mem_cons] at hp
    rcases hp with rfl | rfl | rfl | rfl | rfl | rfl | rfl | rfl | rfl | hp
    iterate 9 exact ⟨by k_ne, by k_ne, by k_ne, by k_ne, by k_ne⟩
    have h1 := oT p hp
    have h2 : @LT.lt Nat _ p.1 fl := tb_ltOf lfl.2.2.2.2.2.2.2.2.2.2.2 p hp
    exact ⟨by k_ne, by k_ne, by k_ne, by k_ne, by k_ne⟩
  have o2 : @LT.lt Nat _ st dty := by lcg_off
  have o3 : @LT.lt Nat _ dty fl := by lcg_off
  have o4 : @LT.lt Nat _ fl sl := by lcg_off
  have o5 : @LT.lt Nat _ sl el := by lcg_off
  have o6 : row ≠ st := by k_ne
  have xc2 : getL (Str.ofString "counter") es2 = some (some (.int 9 tc2)) := q62
  have hInv := inv_start (st := st) (dty := dty) (fl := fl) (sl := sl) (el := el) (row := row) (na := na) (ia := ia) (a0 := 0 + 1) (ts := tt0) (nst := nst0) (n1 := 0) (n2 := 0) (n3 := 0) (nes := n2) rfl hR xc2 xn2 xi2 nw2 q92 (by omega) tyA tyB
  (with_unfolding_all refine' rg_law (n := nn) storedL (fun q nx => Inv st dty fl sl el row na ia R0 q nx) (by rfl) rgX (small_low40 hnn).1 (small_low40 hnn).2 lF2 lN2 hInv ?lturn ?ldone)
  case lturn =>
    intro q tq uq nx hx tkq own hq hoff hcls hJ F' N'
    exact turn (by assumption) (by assumption) (by assumption) (Nat.lt_trans hq nn1) hoff hJ (by rw [eR0]; exact .tail _ (.tail _ (.tail _ (.tail _ (.tail _ (.tail _ (.tail _ (.tail _ (.head _))))))))) dc mrow hI hIl mty tnR tiR o2 o3 o4 o5 o6 F' N'
  case ldone =>
    intro uq nx hx tkq hJ F' N'
    obtain ⟨es', nes', fs, ss, bs, m1, m2, m3, R, gm, c, k2, k3, k4, k5, sR, sR0, ki, kg4, lv⟩ := ofInv hJ
    clear hJ
    have jF := lv.1
    have s0 : Sub nx nx := Sub.refl
    dsimp only
    tb_start
    (rename Fr _ _ _ _ => lF)
    (rename News _ _ _ _ => lN)
    (rename IsRange _ _ _ _ _ _ _ _ => rgY)
    (with_unfolding_all refine' rg_law (n := nn + 1) [Str.ofString "due"] (fun _ nx' => Sub nx nx') (by rfl) rgY (small_low40 hnn2).1 (small_low40 hnn2).2 lF lN s0 ?cturn ?cdone)
    case cturn =>
      intro q tq uq nx hx tkq own hq hoff hcls hJ F' N'
      exact check (by assumption) (by assumption) (by assumption) hq (Nat.succ_le_succ (Nat.le_of_lt nn1)) hoff hJ k3 k4 k5 sR lv F' N'
    case cdone =>
      clear lF lN rgY rgX
      intro uq2 nx2 hx2 tkq2 hJ2 F2 N2
      have s2 : Sub nx2 nx2 := Sub.refl
      have e2 := hJ2 _ k2
      have e3 := hJ2 _ k3
      have mty2 := hJ2 _ (sR0 _ mty)
      obtain ⟨la, lb, lf, ls, ld, g1, g2, g3, g4, g5, g6⟩ := lv.2.2.2 nn (Nat.lt_succ_self nn)
      dsimp only
      tb_start
      have cA : C0 gm R nx2 la la lf lf := { ra := g4, rb := g4, sub := fun p hp => hJ2 _ (sR p hp), fa := g6.ff, fb := g6.ff }
      have tA := law_eqP (w := w) cA (ht20 g6.hf nn1) g6.pf g6.pf (eqP_refl g6.pf)
      k_dflt (refine' tell_use tA ?fak1 ?fak2 ?fak3 ?fak4 ?fak5 ?fak6 ?fak7 ?fak8 ?_; (case fak4 => k_asm); (case fak1 => k_asm); (case fak2 => k_asm); (case fak3 => k_asm); (case fak5 => k_asm); (case fak6 => first | exact rfl | assumption); (case fak7 => exact Nat.le_of_ble_eq_true rfl); (case fak8 => exact Nat.le_of_ble_eq_true rfl))
      intro r3 NC hC tkC FC NC' oC
      obtain ⟨e3', subC⟩ := oC
      subst e3'
      clear tA cA
      k_sweep
      have sC : Sub NC NC := Sub.refl
      have e4 := subC _ e2
      have mty3 := subC _ mty2
      tb_start
      have cB : C0 gm R0 NC ia ia (.itg 4) (.itg 4) := { ra := tiR, rb := tiR, sub := fun p hp => subC _ (hJ2 _ (sR0 p hp)), fa := ⟨kg4, by decide, by decide⟩, fb := ⟨kg4, by decide, by decide⟩ }
      have tB := law_eqT (w := w) cB (by decide) (eqT_refl _)
      k_dflt (refine' tell_use tB ?fbk1 ?fbk2 ?fbk3 ?fbk4 ?fbk5 ?fbk6 ?fbk7 ?fbk8 ?_; (case fbk4 => k_asm); (case fbk1 => k_asm); (case fbk2 => k_asm); (case fbk3 => k_asm); (case fbk5 => k_asm); (case fbk6 => first | exact rfl | assumption); (case fbk7 => exact Nat.le_of_ble_eq_true rfl); (case fbk8 => exact Nat.le_of_ble_eq_true rfl))
      intro r4 ND hD tkD FD ND' oD
      obtain ⟨e4', subD⟩ := oD
      subst e4'
      clear tB cB
      k_sweep
      tb_start)
end
end
end Mine
theorem PySem.Challenge.cw_pq0743_01_holds : PySem.Challenge.rw_pq0743_01.Holds :=
  Mine.holds
