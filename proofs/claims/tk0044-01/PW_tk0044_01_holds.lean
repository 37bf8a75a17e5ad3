import PyProof.Rows.All
import Wide.All
import OpenK.AllK
import Wide.FinOn
import PySem.Challenge.RW_tk0044_01
open PySem PySem.W PyProof.Rows
set_option Elab.async false
set_option maxRecDepth 100000
set_option maxHeartbeats 8000000
set_option rowWalk.seconds 0
namespace Mine
open_top hd for PySem.Challenge.rw_tk0044_01
open PySem.Spec PySem.Calls
theorem fresh_Ba : True := by
  k_with_none
  w_top off
  trivial
abbrev Prg : Program := PySem.Challenge.rw_tk0044_01.row.prog
/-- a call that hands back a new list of ints, all else as it was -/
def RetL (s : Shared) (P : List Int → Prop) (Q : Value → Shared → Prop) : Prop :=
  ∀ (r : Addr) (vs : List Value) (n : Nat) (ns : List Int) (h' : Heap) (tk' : Nat), (∀ b o, s.heap.get? b = some o → h'.get? b = some o) → s.heap.get? r = none →
    h'.get? r = some (listOf vs.toArray n) → IntsAre vs ns → P ns → Q (.ref r) { s with heap := h', toks := tk' }
/-- a call that hands back a value, all else as it was -/
def RetV (s : Shared) (P : Value → Prop) (Q : Value → Shared → Prop) : Prop :=
  ∀ (v : Value) (h' : Heap) (tk' : Nat), (∀ b o, s.heap.get? b = some o → h'.get? b = some o) → P v → Q v { s with heap := h', toks := tk' }

/-- the ground under a call -/
abbrev Call (w : World) (f : Addr) (D U : Nat) (vs : List Value) (pre : Heap → Prop) (ret : Shared → (Value → Shared → Prop) → Prop) : Prop :=
  ∀ (mean : ExcName → Option Value) (mg mb : Str → Option Value) (dp un : Nat) (gd : Option (List Code)) (cn : Str) (cs : Scope) (a : Addr) (ccd : Value) (cl : List (Str × Addr)) (outer : List Env) (A₀ : Around) (base h₀ : Heap) (L : Addr) (m : Str → Option Value) (s : Shared) (Q E : Value → Shared → Prop),
    Below A₀ base outer h₀ → Fr h₀ L s.heap m → (hd.heap_39 w.params).In h₀ → Top hd.view_39 (looseW hd.view_39 []) mean mg mb h₀ → cs.kind = .function → dp + D < recursionLimit → un + U < cLine → pre s.heap → ret s Q →
    wpAny (model PySem.Challenge.rw_tk0044_01.row.prog w) (ktrTop dp un gd cn cs L a ccd cl outer) (call (.ref f) vs) Q E s
/-- where the walk is to stand still -/
def Stop (P : Prop) : Prop := P
theorem Stop.out {P : Prop} (h : Stop P) : P := h
theorem gsub_up {s g : Heap} (G : GSub s g (List.map (fun x : Addr × Obj => x.1) [])) : ∀ b o, s.get? b = some o → g.get? b = some o := fun b o e => G b o e (by simp)
theorem RetL.of {s : Shared} {P : List Int → Prop} {Q : Value → Shared → Prop} (hret : RetL s P Q) {g h' : Heap} {L' D : Addr} {m' : Str → Option Value} {ws : List Value} {n tk : Nat} {ns : List Int} {news : List (Addr × Obj)}
    (G : GSub s.heap g (List.map (fun x : Addr × Obj => x.1) [])) (F : Fr g L' h' m') (N : News g L' h' news) (hm : (D, listOf ws.toArray n) ∈ news) (I : IntsAre ws ns) (hP : P ns) : Q (.ref D) { s with heap := h', toks := tk } := by
  have Nm := N _ hm
  refine hret D ws n ns h' tk (fun b o e => F.keep b o (gsub_up G b o e)) ?_ Nm.1 I hP
  cases e : s.heap.get? D with
  | none => rfl
  | some o => have := gsub_up G D o e; rw [Nm.2.2] at this; cases this
theorem RetV.of {s : Shared} {P : Value → Prop} {Q : Value → Shared → Prop} (hret : RetV s P Q) {g h' : Heap} {L' : Addr} {m' : Str → Option Value} {tk : Nat} {v : Value}
    (G : GSub s.heap g (List.map (fun x : Addr × Obj => x.1) [])) (F : Fr g L' h' m') (hP : P v) : Q v { s with heap := h', toks := tk } :=
  hret v h' tk (fun b o e => F.keep b o (gsub_up G b o e)) hP

/-- the number that limbs mean, b the base -/
def val (b : Int) : List Int → Int
  | [] => 0
  | x :: r => x + b * val b r
def Limbs (b : Int) (ns : List Int) : Prop := ∀ x ∈ ns, 0 ≤ x ∧ x < b
theorem val_append (b : Int) (xs ys : List Int) : val b (xs ++ ys) = val b xs + b ^ xs.length * val b ys := by
  induction xs with
  | nil => simp [val]
  | cons x r ih => simp only [List.cons_append, val, ih, List.length_cons, Int.pow_succ]; rw [Int.mul_add, Int.add_assoc, Int.mul_comm (b ^ r.length) b, Int.mul_assoc]
theorem val_zeros (b : Int) (n : Nat) : val b (List.replicate n 0) = 0 := by
  induction n with
  | zero => rfl
  | succ n ih => simp [List.replicate_succ, val, ih]
theorem val_nonneg {b : Int} (hb : 0 ≤ b) {ns : List Int} (h : Limbs b ns) : 0 ≤ val b ns := by
  induction ns with
  | nil => simp [val]
  | cons x r ih =>
    have h1 := h x (by simp)
    have h2 := ih fun y hy => h y (by simp [hy])
    have h3 := Int.mul_nonneg hb h2
    simp only [val]; omega
theorem base_gt {wd : Int} (h0 : 4 ≤ wd) (h1 : wd ≤ 8) : (15:Int) < 2 ^ wd.toNat ∧ (2:Int) ^ wd.toNat ≤ 256 := by
  have : wd.toNat = 4 ∨ wd.toNat = 5 ∨ wd.toNat = 6 ∨ wd.toNat = 7 ∨ wd.toNat = 8 := by omega
  rcases this with h | h | h | h | h <;> rw [h] <;> decide
theorem mulok_small {a b : Int} (h0 : 0 ≤ a) (h1 : a < 1152921504606846976) : IntMulOk a b :=
  IntMulOk.of_left (intBits_le_iff.mpr (Nat.lt_of_lt_of_le (show a.natAbs < 1152921504606846976 by omega) (by decide)))
theorem fresh_Bb : True := by
  k_with_none
  w_top off
  trivial
section
variable {prog : Program} {w : World} {A : Around} {E : Value → Shared → Prop} {s : Shared} {env : Env} {h₀ : Heap} {body : List Stmt} {Q : Flow → Shared → Prop}
theorem enum3 {xi xc : Str} {l : Addr} {vs : List Value} {m₀ : Str → Option Value} {news : List (Addr × Obj)} (J : Nat → (Str → Option Value) → List (Addr × Obj) → Prop)
    (hh : A.handled = none) (hl : h₀.IsList l vs.toArray) (F : Fr h₀ env.locals s.heap m₀) (N : News h₀ env.locals s.heap news) (hj : J 0 m₀ news)
    (turn : ∀ (i : Nat) v t m₁ news₁ h tk own, vs[i]? = some v → news₁.map (·.1) = news.map (·.1) → OwnOff own (news.map (·.1)) → J i m₁ news₁ → Fr h₀ env.locals h (fun y => if y = xc then some v else if y = xi then some (.int (i : Int) t) else m₁ y) → News h₀ env.locals h (news₁ ++ own) →
      wpAny (model prog w) A (execs body env) (InvPostN h₀ env.locals (J (i + 1)) own (news.map (·.1)) { s with heap := h, toks := tk } Q) E { s with heap := h, toks := tk })
    (done : ∀ m₁ news₁ h tk, J vs.length m₁ news₁ → Fr h₀ env.locals h m₁ → News h₀ env.locals h news₁ → Q .next { s with heap := h, toks := tk }) :
    wpAny (model prog w) A (call (.type "enumerate") [.ref l]) (fun xv s₁ => wpAny (model prog w) A (pyIter xv) (fun it s₂ => PairAt3 prog w A h₀ env xi xc body Q E it s₂) E s₁) E s := by
  have hls : s.heap.IsList l vs.toArray := hl.at fun o e => F.keep l o e
  obtain ⟨ol, hol, _⟩ := id hl
  have hlt : l < s.heap.objs.size := Heap.lt_size (F.keep _ _ hol)
  have hLs : env.locals < s.heap.objs.size := F.ns.lt
  have hl0 : l < h₀.objs.size := Heap.lt_size hol
  refine call_enumerate_list hls fun h' hE hI hsz hk => ?_
  refine wpAny_pyIter_enum hE ?_
  have W := WalksT.enumerate (prog := prog) (w := w) hh (s.heap.objs.size + 1) s.heap.objs.size l (Nat.succ_ne_self _) (ktu_ne 1 hlt) (Nat.ne_of_lt hlt) vs.toArray
  rw [List.size_toArray] at W
  refine ⟨s.heap.objs.size + 1, [s.heap.objs.size + 1, s.heap.objs.size, l], [s.heap.objs.size + 1, s.heap.objs.size], vs.length, _, _, _, (fun i v0 v1 => ∃ t, v0 = .int (i : Int) t ∧ vs[i]? = some v1), m₀, news, J, rfl, W, ?_, ?_, ?_, ?_, ⟨⟨.none, hE⟩, hI, hls.at fun o e => hk l o e⟩, F.keeps hk, N.grown hk, hj, ?_, ?_⟩
  · rintro i vals ⟨t, x, hx, rfl⟩
    exact ⟨_, _, rfl, t, rfl, by simpa using hx⟩
  · intro hI'
    have hb' : env.locals = s.heap.objs.size + 1 ∨ env.locals = s.heap.objs.size ∨ env.locals = l := by simpa using hI'
    rcases hb' with e | e | e
    · exact ktu_ne 1 hLs e
    · exact Nat.ne_of_lt hLs e
    · exact absurd (Nat.lt_of_lt_of_le hl0 F.above) (e ▸ Nat.lt_irrefl _)
  · intro b hb
    have hb' : b = s.heap.objs.size + 1 ∨ b = s.heap.objs.size := by simpa using hb
    rcases hb' with rfl | rfl
    · exact ktu_new F (Nat.le_add_right _ _)
    · exact ktu_new F (Nat.le_refl _)
  · intro p hp hI'
    have hb' : p.1 = s.heap.objs.size + 1 ∨ p.1 = s.heap.objs.size := by simpa using hI'
    have hlp := Heap.lt_size (N p hp).1
    rcases hb' with e | e
    · exact ktu_ne 1 hlp e
    · exact Nat.ne_of_lt hlp e
  · rintro i v0 v1 m₁ news₁ s₁ own ⟨h₁, tk₁, rfl⟩ hin ⟨t, rfl, hx⟩ hJ hadr hown F₁ N₁
    have hsep : OwnOff own (news.map (·.1)) := by
      intro p hp b hb e
      obtain ⟨q, hq, rfl⟩ := List.mem_map.mp hb
      have hb' : p.1 = s.heap.objs.size + 1 ∨ p.1 = s.heap.objs.size ∨ p.1 = l := by simpa using hown p hp
      have hlq := Heap.lt_size (N q hq).1
      rcases hb' with e' | e' | e'
      · exact ktu_ne 1 hlq (e.symm.trans e')
      · exact Nat.ne_of_lt hlq (e.symm.trans e')
      · have h3 := (N q hq).2.2
        rw [← e, e', hol] at h3
        cases h3
    have N₂ : News h₀ env.locals h₁ (news₁ ++ own) := fun p hp => N₁ p ((List.mem_append.mp hp).elim (fun h => List.mem_append.mpr (.inr h)) fun h => List.mem_append.mpr (.inl h))
    refine wpAny_mono (turn i v1 t m₁ news₁ h₁ tk₁ own hx hadr hsep hJ F₁ N₂) (fun f s₂ p => ?_) fun _ _ e => e
    have fin : InvEndN h₀ env.locals (J (i + 1)) own (news.map (·.1)) { s with heap := h₁, toks := tk₁ } s₂ → ∃ h' tk m₂ news₂, s₂ = { s with heap := h', toks := tk } ∧ Fr h₀ env.locals h' m₂ ∧ News h₀ env.locals h' (own ++ news₂) ∧ news₂.map (·.1) = news₁.map (·.1) ∧ J (i + 1) m₂ news₂ := by
      rintro ⟨h', tk, m', news', nx, e, F', N', hn, ho, ha, hm⟩
      exact ⟨h', tk, m', nx, e, F', fun p hp => N' p ((List.mem_append.mp hp).elim (ho p) (hn p)), ha.trans hadr.symm, hm⟩
    cases f with
    | ret v => exact p
    | brk => exact p
    | next => exact ⟨rfl, fin p⟩
    | cont => exact ⟨rfl, fin p⟩
  · rintro h' tk m' news' F' N' _ hJ
    exact done m' news' h' tk hJ F' N'

def StEnd {σ : Type} (h₀ : Heap) (L : Addr) (s : Shared) (Led : σ → List (Addr × Obj)) (ps : σ → List (Str × Value)) (Facts : σ → Prop) (stored : List Str) (m₀ : Str → Option Value) (P : σ → Prop) (own : List (Addr × Obj)) (s₂ : Shared) : Prop :=
  ∃ (c' : σ) (h' : Heap) (tk : Nat) (m' : Str → Option Value) (news' : List (Addr × Obj)), s₂ = { s with heap := h', toks := tk } ∧ Fr h₀ L h' m' ∧ News h₀ L h' news' ∧ (∀ p ∈ Led c', p ∈ news') ∧ (∀ p ∈ own, p ∈ news') ∧ Facts c' ∧ (∀ p ∈ ps c', m' p.1 = some p.2) ∧ (∀ z, (∀ p ∈ ps c', z ≠ p.1) → stored.contains z = false → m' z = m₀ z) ∧ P c'
def StPost {σ : Type} (h₀ : Heap) (L : Addr) (s : Shared) (Led : σ → List (Addr × Obj)) (ps : σ → List (Str × Value)) (Facts : σ → Prop) (stored : List Str) (m₀ : Str → Option Value) (P : σ → Prop) (own : List (Addr × Obj)) (Q : Flow → Shared → Prop) (f : Flow) (s₂ : Shared) : Prop :=
  match f with
  | .ret v => Q (.ret v) s₂
  | .brk => Q .next s₂
  | _ => StEnd h₀ L s Led ps Facts stored m₀ P own s₂
theorem StEnd.intro {σ : Type} {h₀ : Heap} {L : Addr} {s : Shared} {Led : σ → List (Addr × Obj)} {ps : σ → List (Str × Value)} {Facts : σ → Prop} {stored : List Str} {m₀ m' : Str → Option Value} {P : σ → Prop} {own news' : List (Addr × Obj)} {h' : Heap} {tk : Nat} (c' : σ)
    (F : Fr h₀ L h' m') (N : News h₀ L h' news') (hn : ∀ p ∈ Led c', p ∈ news') (ho : ∀ p ∈ own, p ∈ news') (hf : Facts c') (hk : ∀ p ∈ ps c', m' p.1 = some p.2) (hr : ∀ z, (∀ p ∈ ps c', z ≠ p.1) → stored.contains z = false → m' z = m₀ z) (hp : P c') :
    StEnd h₀ L s Led ps Facts stored m₀ P own { s with heap := h', toks := tk } := ⟨c', h', tk, m', news', rfl, F, N, hn, ho, hf, hk, hr, hp⟩
theorem st_fr {ps : List (Str × Value)} {stored : List Str} {m₀ m₁ : Str → Option Value} (h1 : ∀ p ∈ ps, m₁ p.1 = some p.2) (h2 : ∀ z, (∀ p ∈ ps, z ≠ p.1) → stored.contains z = false → m₁ z = m₀ z) :
    kstB (fun z => if stored.contains z then m₁ z else m₀ z) ps = m₁ := by
  funext y
  refine kstB_eq h1 fun hn => ?_
  show (if stored.contains y = true then m₁ y else m₀ y) = m₁ y
  cases h3 : stored.contains y with
  | true => simp
  | false => simp only [Bool.false_eq_true, if_false]; exact (h2 y hn h3).symm
theorem enum_st {σ : Type} {xi xc : Str} {l : Addr} {vs : List Value} {m₀ : Str → Option Value} (Led : σ → List (Addr × Obj)) (ps : σ → List (Str × Value)) (Facts : σ → Prop) (stored : List Str) (P : Nat → σ → Prop) (c₀ : σ)
    (hh : A.handled = none) (hl : h₀.IsList l vs.toArray) (F : Fr h₀ env.locals s.heap m₀) (N : News h₀ env.locals s.heap (Led c₀)) (hadr : ∀ c, (Led c).map (·.1) = (Led c₀).map (·.1)) (hf : Facts c₀) (hk : ∀ p ∈ ps c₀, m₀ p.1 = some p.2) (hp : P 0 c₀)
    (turn : ∀ (c : σ) (i : Nat) v t (u : Str → Option Value) h tk own, vs[i]? = some v → OwnOff own ((Led c₀).map (·.1)) → Facts c → P i c →
      Fr h₀ env.locals h (fun y => if y = xc then some v else if y = xi then some (.int (i : Int) t) else kstB (fun z => if stored.contains z then u z else m₀ z) (ps c) y) → News h₀ env.locals h (Led c ++ own) →
      wpAny (model prog w) A (execs body env) (StPost h₀ env.locals { s with heap := h, toks := tk } Led ps Facts stored m₀ (P (i + 1)) own Q) E { s with heap := h, toks := tk })
    (done : ∀ (c : σ) (u : Str → Option Value) h tk, Facts c → P vs.length c → Fr h₀ env.locals h (kstB (fun z => if stored.contains z then u z else m₀ z) (ps c)) → News h₀ env.locals h (Led c) → Q .next { s with heap := h, toks := tk }) :
    wpAny (model prog w) A (call (.type "enumerate") [.ref l]) (fun xv s₁ => wpAny (model prog w) A (pyIter xv) (fun it s₂ => PairAt3 prog w A h₀ env xi xc body Q E it s₂) E s₁) E s := by
  refine enum3 (fun i m nx => ∃ c : σ, nx = Led c ∧ Facts c ∧ (∀ p ∈ ps c, m p.1 = some p.2) ∧ (∀ z, (∀ p ∈ ps c, z ≠ p.1) → stored.contains z = false → m z = m₀ z) ∧ P i c) hh hl F N ⟨c₀, rfl, hf, hk, fun _ _ _ => rfl, hp⟩ ?_ ?_
  · rintro i v t m₁ nx h tk own hv _ hoff ⟨c, rfl, hf', h1, h2, hp'⟩ F₁ N₁
    refine wpAny_mono (turn c i v t m₁ h tk own hv hoff hf' hp' (by rw [st_fr h1 h2]; exact F₁) N₁) (fun f s₂ p => ?_) fun _ _ x => x
    have up : StEnd h₀ env.locals { s with heap := h, toks := tk } Led ps Facts stored m₀ (P (i + 1)) own s₂ → InvEndN h₀ env.locals (fun m nx => ∃ c : σ, nx = Led c ∧ Facts c ∧ (∀ p ∈ ps c, m p.1 = some p.2) ∧ (∀ z, (∀ p ∈ ps c, z ≠ p.1) → stored.contains z = false → m z = m₀ z) ∧ P (i + 1) c) own ((Led c₀).map (·.1)) { s with heap := h, toks := tk } s₂ := by
      rintro ⟨c', h', tk', m', news', e, F', N', hn, ho, hf9, hk9, hr9, hp9⟩
      exact ⟨h', tk', m', news', Led c', e, F', N', hn, ho, hadr c', c', rfl, hf9, hk9, hr9, hp9⟩
    cases f with
    | ret v => exact p
    | brk => exact p
    | next => exact up p
    | cont => exact up p
  · rintro m₁ nx h tk ⟨c, rfl, hf', h1, h2, hp'⟩ F₁ N₁
    exact done c m₁ h tk hf' hp' (by rw [st_fr h1 h2]; exact F₁) N₁
end

theorem news_list {h₀ h : Heap} {L D : Addr} {news : List (Addr × Obj)} {vs : List Value} {n : Nat} (N : News h₀ L h news) (hm : (D, listOf vs.toArray n) ∈ news) : h.IsList D vs.toArray := ⟨_, (N _ hm).1, rfl, n, rfl⟩
theorem RetL.use {h₀ : Heap} {L : Addr} {s : Shared} {m : Str → Option Value} {news : List (Addr × Obj)} {P : List Int → Prop} {Q : Value → Shared → Prop} (F : Fr h₀ L s.heap m) (N : News h₀ L s.heap news)
    (h : ∀ (r : Addr) (vs : List Value) (n : Nat) (ns : List Int) (h' : Heap) (tk' : Nat), Fr h₀ L h' m → News h₀ L h' ((r, listOf vs.toArray n) :: news) → LCg.Off1 r news → IntsAre vs ns → P ns → Q (.ref r) { s with heap := h', toks := tk' }) : RetL s P Q := by
  intro r vs n ns h' tk' hk hf hr hi hP
  have hl := F.ns.lt
  obtain ⟨oL, eL, _⟩ := Heap.Ns.at F.ns fun o e => e
  refine h r vs n ns h' tk' (F.keeps hk) (fun p hp => ?_) ?_ hi hP
  · rcases List.mem_cons.mp hp with rfl | hp
    · refine ⟨hr, ?_, ?_⟩
      · intro e
        obtain ⟨o, _, _, e', _⟩ := F.ns
        have e2 : r = L := e
        rw [e2, e'] at hf
        cases hf
      · cases e : h₀.get? r with
        | none => rfl
        | some o => have := F.keep _ _ e; rw [hf] at this; cases this
    · exact ⟨hk _ _ (N p hp).1, (N p hp).2⟩
  · have key : ∀ l : List (Addr × Obj), (∀ p ∈ l, s.heap.get? p.1 = some p.2) → LCg.Off1 r l := by
      intro l
      induction l with
      | nil => intro _; trivial
      | cons p q ih =>
        intro hl
        refine ⟨fun e => ?_, ih fun x hx => hl x (List.mem_cons_of_mem _ hx)⟩
        have := hl p List.mem_cons_self
        have e2 : p.1 = r := e
        rw [e2, hf] at this
        cases this
    exact key _ fun p hp => (N p hp).1
theorem RetV.use {h₀ : Heap} {L : Addr} {s : Shared} {m : Str → Option Value} {news : List (Addr × Obj)} {P : Value → Prop} {Q : Value → Shared → Prop} (F : Fr h₀ L s.heap m) (N : News h₀ L s.heap news)
    (h : ∀ (v : Value) (h' : Heap) (tk' : Nat), Fr h₀ L h' m → News h₀ L h' news → P v → Q v { s with heap := h', toks := tk' }) : RetV s P Q :=
  fun v h' tk' hk hP => h v h' tk' (F.keeps hk) (N.grown hk) hP
theorem fresh_Bc : True := by
  k_with_none
  w_top off
  trivial
/-- references to pairs of ints -/
inductive PairsAre (h : Heap) : List Value → List (Int × Int) → Prop
  | nil : PairsAre h [] []
  | cons {T : Addr} {t1 t2 : Tok} {p : Int × Int} {vs : List Value} {ps : List (Int × Int)} : IsTup h T #[.int p.1 t1, .int p.2 t2] → PairsAre h vs ps → PairsAre h (.ref T :: vs) (p :: ps)
theorem PairsAre.mono {h h' : Heap} {vs : List Value} {ps : List (Int × Int)} (x : PairsAre h vs ps) (k : ∀ b o, h.get? b = some o → h'.get? b = some o) : PairsAre h' vs ps := by
  induction x with
  | nil => exact .nil
  | cons ht _ ih => exact .cons (by obtain ⟨o, e, r⟩ := ht; exact ⟨o, k _ _ e, r⟩) ih
theorem PairsAre.length {h : Heap} {vs : List Value} {ps : List (Int × Int)} (x : PairsAre h vs ps) : vs.length = ps.length := by
  induction x with
  | nil => rfl
  | cons _ _ ih => simp [ih]
theorem PairsAre.take {h : Heap} {vs : List Value} {ps : List (Int × Int)} (x : PairsAre h vs ps) : ∀ n, PairsAre h (vs.take n) (ps.take n) := by
  induction x with
  | nil => intro n; simpa using .nil
  | cons ht _ ih =>
    intro n
    cases n with
    | zero => exact .nil
    | succ n => exact .cons ht (ih n)
theorem PairsAre.drop {h : Heap} {vs : List Value} {ps : List (Int × Int)} (x : PairsAre h vs ps) : ∀ n, PairsAre h (vs.drop n) (ps.drop n) := by
  induction x with
  | nil => intro n; simpa using .nil
  | cons ht hr ih =>
    intro n
    cases n with
    | zero => exact .cons ht hr
    | succ n => exact ih n
theorem PairsAre.append {h : Heap} {vs us : List Value} {ps qs : List (Int × Int)} (x : PairsAre h vs ps) (y : PairsAre h us qs) : PairsAre h (vs ++ us) (ps ++ qs) := by
  induction x with
  | nil => exact y
  | cons ht _ ih => exact .cons ht ih
theorem PairsAre.at {h : Heap} {vs : List Value} {ps : List (Int × Int)} (x : PairsAre h vs ps) : ∀ (i : Nat) {v : Value}, vs[i]? = some v → ∃ T t1 t2 p, v = .ref T ∧ ps[i]? = some p ∧ IsTup h T #[.int p.1 t1, .int p.2 t2] := by
  induction x with
  | nil => intro i v hv; simp at hv
  | cons ht _ ih =>
    intro i v hv
    cases i with
    | zero => exact ⟨_, _, _, _, by simpa using hv.symm, rfl, ht⟩
    | succ i => exact ih i (by simpa using hv)
theorem pick_upto (vs : List Value) {y : Int} (h : 0 ≤ y) : slicePick vs.toArray none (some y) none = (vs.take y.toNat).toArray := by
  have e : sliceBounds none (some y) none vs.toArray.size = (((0 : Nat) : Int), ((min y.toNat vs.toArray.size : Nat) : Int), 1) := by
    simp only [sliceBounds, Option.getD_none, show (1 : Int) > 0 by decide, if_true, if_neg (show ¬ (y < 0) by omega)]
    congr 1
    congr 1
    omega
  rw [kmk_pick_nat _ e]
  show ((vs.drop 0).take (min y.toNat vs.toArray.size - 0)).toArray = _
  rw [List.drop_zero, List.size_toArray, Nat.sub_zero]
  congr 1
  by_cases hl : y.toNat ≤ vs.length
  · rw [Nat.min_eq_left hl]
  · rw [Nat.min_eq_right (by omega), List.take_of_length_le (Nat.le_refl _), List.take_of_length_le (by omega)]
theorem pick_from (vs : List Value) {x : Int} (h : 0 ≤ x) : slicePick vs.toArray (some x) none none = (vs.drop x.toNat).toArray := by
  have e : sliceBounds (some x) none none vs.toArray.size = (((min x.toNat vs.toArray.size : Nat) : Int), ((vs.toArray.size : Nat) : Int), 1) := by
    simp only [sliceBounds, Option.getD_none, show (1 : Int) > 0 by decide, if_true, if_neg (show ¬ (x < 0) by omega)]
    congr 1
    omega
  rw [kmk_pick_nat _ e]
  show ((vs.drop (min x.toNat vs.toArray.size)).take (vs.toArray.size - min x.toNat vs.toArray.size)).toArray = _
  rw [List.size_toArray, kmk_drop_min, List.take_of_length_le (by rw [List.length_drop]; omega)]
section
variable {prog : Program} {w : World} {A : Around} {E : Value → Shared → Prop} {s : Shared} {h₀ : Heap} {L : Addr} {m : Str → Option Value} {news : List (Addr × Obj)}
theorem sl_upto {value slice : Expr} {l : Addr} {vs : List Value} {y : Int} {ty : Tok} {Q : Value → Shared → Prop}
    (F : Fr h₀ L s.heap m) (N : News h₀ L s.heap news) (hl : s.heap.IsList l vs.toArray) (hy : 0 ≤ y)
    (h : ∀ D h', Fr h₀ L h' m → News h₀ L h' ((D, listOf (vs.take y.toNat).toArray 0) :: news) → (∀ p ∈ news, p.1 < D) → Q (.ref D) { s with heap := h' })
    (hs : subscripted slice false (.ref l) (.ref s.heap.objs.size) = operate [.ref s.heap.objs.size, .ref l] (getItem (.ref l) (.ref s.heap.objs.size))) (ht : ∀ r, letTemporaryGo value (.ref l) r = pure ())
    (hz : vs.length ≤ sizeLine) :
    wpAny (model prog w) A (subscriptTail value slice (.ref l) (.ref s.heap.objs.size)) Q E { s with heap := s.heap.push { cls := .type "slice", data := .fields #[.none, .int y ty, .none] } } := by
  refine slice_list F N hl .none (.int _ _) (fun h' F' N' => h _ h' F' ?_ fun p hp => Nat.lt_succ_of_lt (Heap.lt_size (N p hp).1)) hs ht (by rw [List.size_toArray]; exact hz)
  rw [pick_upto vs hy] at N'
  exact N'
theorem sl_from {value slice : Expr} {l : Addr} {vs : List Value} {y : Int} {ty : Tok} {Q : Value → Shared → Prop}
    (F : Fr h₀ L s.heap m) (N : News h₀ L s.heap news) (hl : s.heap.IsList l vs.toArray) (hy : 0 ≤ y)
    (h : ∀ D h', Fr h₀ L h' m → News h₀ L h' ((D, listOf (vs.drop y.toNat).toArray 0) :: news) → (∀ p ∈ news, p.1 < D) → Q (.ref D) { s with heap := h' })
    (hs : subscripted slice false (.ref l) (.ref s.heap.objs.size) = operate [.ref s.heap.objs.size, .ref l] (getItem (.ref l) (.ref s.heap.objs.size))) (ht : ∀ r, letTemporaryGo value (.ref l) r = pure ())
    (hz : vs.length ≤ sizeLine) :
    wpAny (model prog w) A (subscriptTail value slice (.ref l) (.ref s.heap.objs.size)) Q E { s with heap := s.heap.push { cls := .type "slice", data := .fields #[.int y ty, .none, .none] } } := by
  refine slice_list F N hl (.int _ _) .none (fun h' F' N' => h _ h' F' ?_ fun p hp => Nat.lt_succ_of_lt (Heap.lt_size (N p hp).1)) hs ht (by rw [List.size_toArray]; exact hz)
  rw [pick_from vs hy] at N'
  exact N'
end
theorem fresh_Bd : True := by
  k_with_none
  w_top off
  trivial
section
variable {prog : Program} {w : World} {A : Around} {E : Value → Shared → Prop} {s : Shared} {env : Env} {h₀ : Heap} {body : List Stmt} {Q : Flow → Shared → Prop} {x : Str}
theorem loop_st {σ : Type} {I : Addr} {fp wr : List Addr} {n : Nat} {Pv : Nat → Value → Prop} {St : Nat → Heap → Prop} {m₀ : Str → Option Value} (Led : σ → List (Addr × Obj)) (ps : σ → List (Str × Value)) (Facts : σ → Prop) (stored : List Str) (P : Nat → σ → Prop) (c₀ : σ)
    (W : Walks prog w A I fp wr n Pv St) (hLf : env.locals ∉ fp) (hwr : ∀ b ∈ wr, h₀.get? b = none) (hnw : ∀ p ∈ Led c₀, p.1 ∉ wr) (hfp : ∀ q ∈ Led c₀, q.1 ∉ fp) (hst : St 0 s.heap) (F : Fr h₀ env.locals s.heap m₀) (N : News h₀ env.locals s.heap (Led c₀)) (hadr : ∀ c, (Led c).map (·.1) = (Led c₀).map (·.1)) (hf : Facts c₀) (hk : ∀ p ∈ ps c₀, m₀ p.1 = some p.2) (hp : P 0 c₀)
    (turn : ∀ (c : σ) (i : Nat) v (u : Str → Option Value) h tk own, i < n → Pv i v → OwnOff own ((Led c₀).map (·.1)) → Facts c → P i c →
      Fr h₀ env.locals h (fun y => if y = x then some v else kstB (fun z => if stored.contains z then u z else m₀ z) (ps c) y) → News h₀ env.locals h (Led c ++ own) →
      wpAny (model prog w) A (execs body env) (StPost h₀ env.locals { s with heap := h, toks := tk } Led ps Facts stored m₀ (P (i + 1)) own Q) E { s with heap := h, toks := tk })
    (done : ∀ (c : σ) (u : Str → Option Value) h tk, Facts c → P n c → Fr h₀ env.locals h (kstB (fun z => if stored.contains z then u z else m₀ z) (ps c)) → News h₀ env.locals h (Led c) → Q .next { s with heap := h, toks := tk }) :
    LoopAtV prog w A h₀ env x body Q E (.ref I) s := by
  refine loop_invN (fun i m nx => ∃ c : σ, nx = Led c ∧ Facts c ∧ (∀ p ∈ ps c, m p.1 = some p.2) ∧ (∀ z, (∀ p ∈ ps c, z ≠ p.1) → stored.contains z = false → m z = m₀ z) ∧ P i c) W hLf hwr hnw hfp hst F N ⟨c₀, rfl, hf, hk, fun _ _ _ => rfl, hp⟩ ?_ ?_
  · rintro i v m₁ nx h tk own hi hv _ hoff ⟨c, rfl, hf', h1, h2, hp'⟩ F₁ N₁
    refine wpAny_mono (turn c i v m₁ h tk own hi hv hoff hf' hp' (by rw [st_fr h1 h2]; exact F₁) N₁) (fun f s₂ p => ?_) fun _ _ x => x
    have up : StEnd h₀ env.locals { s with heap := h, toks := tk } Led ps Facts stored m₀ (P (i + 1)) own s₂ → InvEndN h₀ env.locals (fun m nx => ∃ c : σ, nx = Led c ∧ Facts c ∧ (∀ p ∈ ps c, m p.1 = some p.2) ∧ (∀ z, (∀ p ∈ ps c, z ≠ p.1) → stored.contains z = false → m z = m₀ z) ∧ P (i + 1) c) own ((Led c₀).map (·.1)) { s with heap := h, toks := tk } s₂ := by
      rintro ⟨c', h', tk', m', news', e, F', N', hn, ho, hf9, hk9, hr9, hp9⟩
      exact ⟨h', tk', m', news', Led c', e, F', N', hn, ho, hadr c', c', rfl, hf9, hk9, hr9, hp9⟩
    cases f with
    | ret v => exact p
    | brk => exact p
    | next => exact up p
    | cont => exact up p
  · rintro m₁ nx h tk ⟨c, rfl, hf', h1, h2, hp'⟩ F₁ N₁
    exact done c m₁ h tk hf' hp' (by rw [st_fr h1 h2]; exact F₁) N₁
theorem range_st {σ : Type} {r : Addr} {a₀ b₀ cc : Int} {t₀ u₀ v₀ : Tok} {n : Nat} {m₀ : Str → Option Value} (Led : σ → List (Addr × Obj)) (ps : σ → List (Str × Value)) (Facts : σ → Prop) (stored : List Str) (P : Nat → σ → Prop) (c₀ : σ)
    (hh : A.handled = none) (hr : IsRange s.heap r a₀ b₀ cc t₀ u₀ v₀) (hsmall : Builtin.Range.small a₀ b₀ cc = true) (hn : Builtin.Range.rangeSize a₀ b₀ cc = (n : Int)) (F : Fr h₀ env.locals s.heap m₀) (N : News h₀ env.locals s.heap (Led c₀)) (hadr : ∀ c, (Led c).map (·.1) = (Led c₀).map (·.1)) (hf : Facts c₀) (hk : ∀ p ∈ ps c₀, m₀ p.1 = some p.2) (hp : P 0 c₀)
    (turn : ∀ (c : σ) (i : Nat) t (u : Str → Option Value) h tk own, i < n → OwnOff own ((Led c₀).map (·.1)) → Facts c → P i c →
      Fr h₀ env.locals h (fun y => if y = x then some (.int (a₀ + (i : Int) * cc) t) else kstB (fun z => if stored.contains z then u z else m₀ z) (ps c) y) → News h₀ env.locals h (Led c ++ own) →
      wpAny (model prog w) A (execs body env) (StPost h₀ env.locals { s with heap := h, toks := tk } Led ps Facts stored m₀ (P (i + 1)) own Q) E { s with heap := h, toks := tk })
    (done : ∀ (c : σ) (u : Str → Option Value) h tk, Facts c → P n c → Fr h₀ env.locals h (kstB (fun z => if stored.contains z then u z else m₀ z) (ps c)) → News h₀ env.locals h (Led c) → Q .next { s with heap := h, toks := tk }) :
    wpAny (model prog w) A (pyIter (.ref r)) (fun it s₂ => LoopAtV prog w A h₀ env x body Q E it s₂) E s := by
  refine wpAny_pyIter_range hr hsmall ?_
  have W : Walks prog w A s.heap.objs.size [s.heap.objs.size] [s.heap.objs.size] n (fun i v => ∃ t, v = .int (a₀ + i * cc) t)
      (fun i h => IsRangeIter h s.heap.objs.size (a₀ + (i : Nat) * cc) ((n : Int) - (i : Nat)) cc) := Walks.range hh _ a₀ cc n
  refine loop_st Led ps Facts stored P c₀ W ?_ ?_ ?_ ?_ (by show IsRangeIter _ _ _ _ _; rw [hn]; simpa using Heap.get?_push_size _ rfl) (F.push _) (fun p hp => ⟨Heap.get?_push_of_some _ (N p hp).1, (N p hp).2⟩) hadr hf hk hp ?_ ?_
  · intro hm
    exact absurd F.ns.lt ((List.mem_singleton.mp hm) ▸ Nat.lt_irrefl _)
  · intro b hb
    rw [List.mem_singleton.mp hb]
    exact next_is_new F
  · intro p hp hI
    exact absurd (Heap.lt_size (N p hp).1) ((List.mem_singleton.mp hI) ▸ Nat.lt_irrefl _)
  · intro p hp hI
    exact absurd (Heap.lt_size (N p hp).1) ((List.mem_singleton.mp hI) ▸ Nat.lt_irrefl _)
  · rintro c i v u h tk own hi ⟨t, rfl⟩ hoff hf' hp' F₁ N₁
    exact turn c i t u h tk own hi hoff hf' hp' F₁ N₁
  · exact done
/-- over a list in the ground -/
theorem list_st {σ : Type} {l : Addr} {vs : List Value} {m₀ : Str → Option Value} (Led : σ → List (Addr × Obj)) (ps : σ → List (Str × Value)) (Facts : σ → Prop) (stored : List Str) (P : Nat → σ → Prop) (c₀ : σ)
    (hh : A.handled = none) (hl : h₀.IsList l vs.toArray) (F : Fr h₀ env.locals s.heap m₀) (N : News h₀ env.locals s.heap (Led c₀)) (hadr : ∀ c, (Led c).map (·.1) = (Led c₀).map (·.1)) (hf : Facts c₀) (hk : ∀ p ∈ ps c₀, m₀ p.1 = some p.2) (hp : P 0 c₀)
    (turn : ∀ (c : σ) (i : Nat) v (u : Str → Option Value) h tk own, vs[i]? = some v → OwnOff own ((Led c₀).map (·.1)) → Facts c → P i c →
      Fr h₀ env.locals h (fun y => if y = x then some v else kstB (fun z => if stored.contains z then u z else m₀ z) (ps c) y) → News h₀ env.locals h (Led c ++ own) →
      wpAny (model prog w) A (execs body env) (StPost h₀ env.locals { s with heap := h, toks := tk } Led ps Facts stored m₀ (P (i + 1)) own Q) E { s with heap := h, toks := tk })
    (done : ∀ (c : σ) (u : Str → Option Value) h tk, Facts c → P vs.length c → Fr h₀ env.locals h (kstB (fun z => if stored.contains z then u z else m₀ z) (ps c)) → News h₀ env.locals h (Led c) → Q .next { s with heap := h, toks := tk }) :
    wpAny (model prog w) A (pyIter (.ref l)) (fun it s₂ => LoopAtV prog w A h₀ env x body Q E it s₂) E s := by
  have hls : s.heap.IsList l vs.toArray := hl.at fun o e => F.keep l o e
  obtain ⟨ol, hol, _⟩ := id hl
  have hlt : l < h₀.objs.size := Heap.lt_size hol
  have hne : l ≠ s.heap.objs.size := Nat.ne_of_lt (Nat.lt_trans (Nat.lt_of_lt_of_le hlt F.above) F.ns.lt)
  refine wpAny_pyIter_list hls ?_
  have W := Walks.list (prog := prog) (w := w) hh s.heap.objs.size l hne vs.toArray
  rw [List.size_toArray] at W
  refine loop_st Led ps Facts stored P c₀ W ?_ ?_ ?_ ?_ ⟨⟨_, Heap.get?_push_size _ rfl, rfl, rfl⟩, hls.at fun o e => Heap.get?_push_of_some _ e⟩ (F.push _) (fun p hp => ⟨Heap.get?_push_of_some _ (N p hp).1, (N p hp).2⟩) hadr hf hk hp ?_ ?_
  · intro hm
    rcases List.mem_cons.mp hm with e | hm
    · exact absurd F.ns.lt (e ▸ Nat.lt_irrefl _)
    · exact absurd (Nat.lt_of_lt_of_le hlt F.above) ((List.mem_singleton.mp hm) ▸ Nat.lt_irrefl _)
  · intro b hb
    rw [List.mem_singleton.mp hb]
    exact next_is_new F
  · intro p hp hI
    exact absurd (Heap.lt_size (N p hp).1) ((List.mem_singleton.mp hI) ▸ Nat.lt_irrefl _)
  · intro p hp hm
    rcases List.mem_cons.mp hm with e | hm
    · exact absurd (Heap.lt_size (N p hp).1) (e ▸ Nat.lt_irrefl _)
    · have h3 := (N p hp).2.2
      rw [List.mem_singleton.mp hm, hol] at h3
      cases h3
  · rintro c i v u h tk own hi hv hoff hf' hp' F₁ N₁
    exact turn c i v u h tk own (by simpa using hv) hoff hf' hp' F₁ N₁
  · exact done
end
theorem range_small {a b c : Int} (ha : 0 ≤ a) (ha' : a ≤ 1000000) (hb : 0 ≤ b) (hb' : b ≤ 1000000) (hc : 1 ≤ c) (hc' : c ≤ 1000000) : Builtin.Range.small a b c = true ∧ 0 ≤ Builtin.Range.rangeSize a b c := by
  have hs : 0 ≤ Builtin.Range.rangeSize a b c ∧ Builtin.Range.rangeSize a b c ≤ 1000001 := by
    unfold Builtin.Range.rangeSize
    rw [if_pos (by omega)]
    split
    · have h1 := Int.ediv_nonneg (show 0 ≤ b - a - 1 by omega) (show 0 ≤ c by omega)
      have h2 : (b - a - 1) / c ≤ b - a - 1 := Int.ediv_le_self _ (by omega)
      omega
    · omega
  refine ⟨?_, hs.1⟩
  unfold Builtin.Range.small
  simp only [Builtin.Range.rangeFitsLong, Bool.and_eq_true, Bool.or_eq_true, decide_eq_true_eq, beq_iff_eq]
  refine ⟨⟨⟨⟨?_, ?_⟩, ?_⟩, ?_⟩, Or.inr ?_⟩
  · omega
  · omega
  · omega
  · omega
  · rw [if_pos (by omega)]
    simp only [Bool.and_eq_true, decide_eq_true_eq]
    omega
theorem fresh_Be : True := by
  k_with_none
  w_top off
  trivial
section
variable {prog : Program} {w : World} {A A₀ : Around} {s : Shared} {base h₀ : Heap} {outer : List Env} {env : Env} {L : Addr} {m : Str → Option Value} {K : Frag} {p : Program} {loose : List Str} {mean : ExcName → Option Value} {mg mb : Str → Option Value}
/-- a def whose locals are captured, entered on the whole heap as its ground -/
theorem enter_cells {R : Result → Shared → Prop} {name qual : Str} {params : Arguments} {body : List Stmt} {scope : Scope} {dV kV doc pm cdv ct oc : Value} {an od : Option Addr} {osl : Array (Option Value)} {f : Addr} {args : Args} {binds : List (Str × Value)}
    (B : Below A₀ base outer h₀) (F : Fr h₀ L s.heap m) (X₀ : K.In h₀) (T : Top p loose mean mg mb h₀) (hA : A.frames = some (env :: outer)) (hf : env.frame = some L) (hke : env.scope.kind = .function)
    (ho : K.lookup f = some ⟨oc, od, .func (fnOf name qual params body scope dV kV doc pm an cdv ct), osl⟩) (hcd : codeIn K cdv qual = true) (hroom : A.depth < recursionLimit)
    (hbind : BindsTo s (fnOf name qual params body scope dV kV doc pm an cdv ct) args binds) (hkind : (binds.all fun y => scope.names.lookup y.1 == some .local || scope.names.lookup y.1 == some .cell) = true)
    (hnd : ((cellsFrom 0 scope.names []).map (·.1)).Nodup)
    (h : ∀ g L' h₁ tk cells, Fr h₀ L g m → Fr g L' h₁ (bindL (envOfC qual scope L' f cdv).kindOf binds fun _ => none) → News g L' h₁ cells →
      CellsAre (bindC (envOfC qual scope L' f cdv).kindOf binds fun _ => none) (cellsFrom (L' + 1) scope.names []) cells → Below A base (env :: outer) g → K.In g → Top p loose mean mg mb g → GSub s.heap g (List.map (fun x : Addr × Obj => x.1) []) →
      wpAny (model prog w) (A.deeper (envOfC qual scope L' f cdv)) (execs body (envOfC qual scope L' f cdv))
        (fun fl s' => LeaveK h₀ L m g R (match fl with | .ret v => v | _ => .none) s')
        (fun e s' => wpAny (model prog w) (A.deeper (envOfC qual scope L' f cdv)) (leaving (envOfC qual scope L' f cdv) e) (fun _ s'' => R (.error e) s'') (fun e' s'' => R (.error e') s'') s')
        { s with heap := h₁, toks := tk })
    (hco : scope.isCoroutine = false) (hgen : scope.isGenerator = false) (hk : scope.kind = .function) : codeAny (model prog w) A (.call (.ref f) args) R s := by
  obtain ⟨FG, BG, st, lv⟩ := groundX (R := R) B F (News.nil) hA hf hke
  refine codeAny_call_function hroom ((X₀.keeps F.keep) _ _ ho) rfl hco hgen rfl (codeRec_of (X₀.keeps F.keep) hcd) (hbind _ _ _ _ ?_)
  refine wpAny_newFunctionEnv_cells hk (kindsX hkind _) fun env' he s' x => ?_
  subst he
  refine ⟨(T.nolimit.keeps F.keep).keeps x.toInCall.keep, codeAny_func ?_⟩
  obtain ⟨h₁, tk, rfl, _⟩ := x.done
  obtain ⟨cells, NC, Y⟩ := Cl.news (h₀ := s.heap) (Nat.le_refl _) fun n c hm => ⟨x.cell n c (lookup_of_mem_nodup (cellsFrom_names scope.names 0 (s.heap.objs.size + 1) [] [] rfl ▸ hnd) hm), x.above n c hm⟩
  exact wpAny_mono (h s.heap s.heap.objs.size h₁ tk cells FG ⟨x.toInCall.ns, x.toInCall.keep, Nat.le_refl _⟩ NC Y BG (X₀.keeps st) (T.keeps st) (fun b o e _ => e)) (fun fl s' hl => lv _ _ hl) fun _ _ y => y
end
section
open LCg LCt
variable {prog : Program} {w : World} {A : Around} {h₀ : Heap} {L : Addr} {m : Str → Option Value} {env : Env} {ct elt : Expr} {x : Str} {scope : Scope} {cl : List (Str × Addr)} {s : Shared} {S : List (Addr × Obj) → Prop} {P : Nat → Value → Prop} {Fin : List Value → List (Addr × Obj) → Prop}
theorem comp_rest {n : Nat} (J : Nat → List Value → List (Addr × Obj) → Prop)
    (turn : ∀ i ys news v I oI C oC D m₂ h tk (E' : Value → Shared → Prop), i < n → P i v → J i ys news → NsObj oC m₂ → m₂ x = some v → Fr h₀ L h m → News h₀ L h ((I, oI) :: (C, oC) :: (D, lst ys) :: news) → Off3 I C D news → ((@Ne Nat I C) ∧ (@Ne Nat I D) ∧ (@Ne Nat C D)) →
      wpAny (model prog w) A (eval elt (compEnvC scope cl C env)) (CompEnd h₀ L m { s with heap := h, toks := tk } I oI C oC D (lst ys) S (fun y news' => J (i + 1) (ys ++ [y]) news')) E' { s with heap := h, toks := tk })
    (fin : ∀ ys news, J n ys news → Fin ys news) : ∀ k i ys news, i + k = n → J i ys news → CompRest prog w A h₀ L m env elt x scope cl s S P Fin k i ys news
  | 0, i, ys, news, hi, hj => fin ys news (by rw [Nat.add_zero] at hi; rw [← hi]; exact hj)
  | k + 1, i, ys, news, hi, hj => by
    refine CompRest.succ fun v I oI C oC D m₂ h tk E' hv hC hx F N off ne => ?_
    refine wpAny_mono (turn i ys news v I oI C oC D m₂ h tk E' (by omega) hv hj hC hx F N off ne) (fun y s₂ hq => ?_) fun _ _ e => e
    obtain ⟨h', tk', nw, e, F', N', off', hS, hJ⟩ := hq
    exact ⟨h', tk', nw, e, F', N', off', hS, comp_rest J turn fin k (i + 1) _ _ (by omega) hJ⟩
theorem comp_restT {n : Nat} (J : Nat → List Value → List (Addr × Obj) → Prop)
    (turn : ∀ i ys news v I oI C oC D m₂ h tk (E' : Value → Shared → Prop), i < n → P i v → J i ys news → NsObj oC m₂ → m₂ x = some v → Fr h₀ L h m → News h₀ L h ((I, oI) :: (C, oC) :: (D, lst ys) :: news) → Off3 I C D news → ((@Ne Nat I C) ∧ (@Ne Nat I D) ∧ (@Ne Nat C D)) →
      wpAny (model prog w) A (PySem.isTrue ct (compEnvC scope cl C env) (eval ct (compEnvC scope cl C env))) (fun ok s' => if ok = true then
        wpAny (model prog w) A (eval elt (compEnvC scope cl C env)) (CompEnd h₀ L m { s with heap := h, toks := tk } I oI C oC D (lst ys) S (fun y news' => J (i + 1) (ys ++ [y]) news')) E' s'
        else CompEnd h₀ L m { s with heap := h, toks := tk } I oI C oC D (lst ys) S (fun _ news' => J (i + 1) ys news') Value.none s') E' { s with heap := h, toks := tk })
    (fin : ∀ ys news, J n ys news → Fin ys news) : ∀ k i ys news, i + k = n → J i ys news → CompRestT prog w A h₀ L m env ct elt x scope cl s S P Fin k i ys news
  | 0, i, ys, news, hi, hj => fin ys news (by rw [Nat.add_zero] at hi; rw [← hi]; exact hj)
  | k + 1, i, ys, news, hi, hj => by
    refine CompRestT.succ fun v I oI C oC D m₂ h tk E' hv hC hx F N off ne => ?_
    refine wpAny_mono (turn i ys news v I oI C oC D m₂ h tk E' (by omega) hv hj hC hx F N off ne) (fun ok s₂ hq => ?_) fun _ _ e => e
    cases ok with
    | true =>
      simp only [if_true] at hq ⊢
      refine wpAny_mono hq (fun y s₃ hq => ?_) fun _ _ e => e
      obtain ⟨h', tk', nw, e, F', N', off', hS, hJ⟩ := hq
      exact ⟨h', tk', nw, e, F', N', off', hS, comp_restT J turn fin k (i + 1) _ _ (by omega) hJ⟩
    | false =>
      simp only [Bool.false_eq_true, if_false] at hq ⊢
      obtain ⟨h', tk', nw, e, F', N', off', hS, hJ⟩ := hq
      exact ⟨h', tk', nw, e, F', N', off', hS, comp_restT J turn fin k (i + 1) _ _ (by omega) hJ⟩
end
/-- pairs of ints, the tuples in the ledger -/
inductive LPairs (news : List (Addr × Obj)) : List Value → List (Int × Int) → Prop
  | nil : LPairs news [] []
  | cons {T : Addr} {t1 t2 : Tok} {n : Nat} {p : Int × Int} {vs : List Value} {ps : List (Int × Int)} : (T, ({ cls := .type "tuple", data := .seq #[.int p.1 t1, .int p.2 t2] n } : Obj)) ∈ news → LPairs news vs ps → LPairs news (.ref T :: vs) (p :: ps)
theorem LPairs.mono {news news' : List (Addr × Obj)} {vs : List Value} {ps : List (Int × Int)} (x : LPairs news vs ps) (k : ∀ q ∈ news, q ∈ news') : LPairs news' vs ps := by
  induction x with
  | nil => exact .nil
  | cons ht _ ih => exact .cons (k _ ht) ih
theorem LPairs.append {news : List (Addr × Obj)} {vs us : List Value} {ps qs : List (Int × Int)} (x : LPairs news vs ps) (y : LPairs news us qs) : LPairs news (vs ++ us) (ps ++ qs) := by
  induction x with
  | nil => exact y
  | cons ht _ ih => exact .cons ht ih
theorem LPairs.length {news : List (Addr × Obj)} {vs : List Value} {ps : List (Int × Int)} (x : LPairs news vs ps) : vs.length = ps.length := by
  induction x with
  | nil => rfl
  | cons _ _ ih => simp [ih]
theorem LPairs.at {news : List (Addr × Obj)} {vs : List Value} {ps : List (Int × Int)} (x : LPairs news vs ps) : ∀ (i : Nat) {v : Value}, vs[i]? = some v → ∃ T t1 t2 n p, v = .ref T ∧ ps[i]? = some p ∧ (T, ({ cls := .type "tuple", data := .seq #[.int p.1 t1, .int p.2 t2] n } : Obj)) ∈ news := by
  induction x with
  | nil => intro i v hv; simp at hv
  | cons ht _ ih =>
    intro i v hv
    cases i with
    | zero => exact ⟨_, _, _, _, _, by simpa using hv.symm, rfl, ht⟩
    | succ i => exact ih i (by simpa using hv)
theorem LPairs.pairs {h₀ h : Heap} {L : Addr} {news all : List (Addr × Obj)} {vs : List Value} {ps : List (Int × Int)} (x : LPairs news vs ps) (N : News h₀ L h all) (hs : ∀ q ∈ news, q ∈ all) : PairsAre h vs ps := by
  induction x with
  | nil => exact .nil
  | cons ht _ ih => exact .cons ⟨_, (N _ (hs _ ht)).1, rfl, _, rfl⟩ ih
theorem fresh_Bf : True := by
  k_with_none
  w_top off
  trivial
def GrEnd {σ : Type} (h₀ : Heap) (L : Addr) (s : Shared) (Led : σ → List (Addr × Obj)) (ps : σ → List (Str × Value)) (stored : List Str) (m₀ : Str → Option Value) (P : σ → Prop) (I : Addr) (oI : Obj) (lo : Addr × Obj) (s₂ : Shared) : Prop :=
  ∃ (c' : σ) (h' : Heap) (tk : Nat) (m' : Str → Option Value) (news' : List (Addr × Obj)), s₂ = { s with heap := h', toks := tk } ∧ Fr h₀ L h' m' ∧ News h₀ L h' news' ∧ (I, oI) ∈ news' ∧ lo ∈ news' ∧ (∀ p ∈ Led c', p ∈ news') ∧ (∀ p ∈ Led c', p.1 ≠ I) ∧ (∀ p ∈ ps c', m' p.1 = some p.2) ∧ (∀ z, (∀ p ∈ ps c', z ≠ p.1) → stored.contains z = false → m' z = m₀ z) ∧ P c'
def GrPost {σ : Type} (h₀ : Heap) (L : Addr) (s : Shared) (Led : σ → List (Addr × Obj)) (ps : σ → List (Str × Value)) (stored : List Str) (m₀ : Str → Option Value) (P : σ → Prop) (I : Addr) (oI : Obj) (lo : Addr × Obj) (Q : Flow → Shared → Prop) (f : Flow) (s₂ : Shared) : Prop :=
  match f with
  | .ret v => Q (.ret v) s₂
  | .brk => Q .next s₂
  | _ => GrEnd h₀ L s Led ps stored m₀ P I oI lo s₂
theorem GrEnd.intro {σ : Type} {h₀ : Heap} {L : Addr} {s : Shared} {Led : σ → List (Addr × Obj)} {ps : σ → List (Str × Value)} {stored : List Str} {m₀ m' : Str → Option Value} {P : σ → Prop} {I : Addr} {oI : Obj} {lo : Addr × Obj} {news' : List (Addr × Obj)} {h' : Heap} {tk : Nat} (c' : σ)
    (F : Fr h₀ L h' m') (N : News h₀ L h' news') (hI : (I, oI) ∈ news') (hl : lo ∈ news') (hn : ∀ p ∈ Led c', p ∈ news') (ho : ∀ p ∈ Led c', p.1 ≠ I) (hk : ∀ p ∈ ps c', m' p.1 = some p.2) (hr : ∀ z, (∀ p ∈ ps c', z ≠ p.1) → stored.contains z = false → m' z = m₀ z) (hp : P c') :
    GrEnd h₀ L s Led ps stored m₀ P I oI lo { s with heap := h', toks := tk } := ⟨c', h', tk, m', news', rfl, F, N, hI, hl, hn, ho, hk, hr, hp⟩
section
variable {prog : Program} {w : World} {A : Around} {E : Value → Shared → Prop} {s : Shared} {env : Env} {h₀ : Heap} {body : List Stmt} {Q : Flow → Shared → Prop} {x : Str}
/-- a loop over a list of the ledger; the ledger may grow -/
theorem list_gst {σ : Type} {l : Addr} {vs : List Value} {cnt : Nat} {m₀ : Str → Option Value} (Led : σ → List (Addr × Obj)) (ps : σ → List (Str × Value)) (stored : List Str) (P : Nat → σ → Prop) (c₀ : σ)
    (hh : A.handled = none) (F : Fr h₀ env.locals s.heap m₀) (N : News h₀ env.locals s.heap ((l, listOf vs.toArray cnt) :: Led c₀)) (hk : ∀ p ∈ ps c₀, m₀ p.1 = some p.2) (hp : P 0 c₀)
    (turn : ∀ (c : σ) (i : Nat) v (u : Str → Option Value) I oI h tk, vs[i]? = some v → P i c → (∀ p ∈ Led c, p.1 ≠ I) →
      Fr h₀ env.locals h (fun y => if y = x then some v else kstB (fun z => if stored.contains z then u z else m₀ z) (ps c) y) → News h₀ env.locals h ((I, oI) :: (l, listOf vs.toArray cnt) :: Led c) →
      wpAny (model prog w) A (execs body env) (GrPost h₀ env.locals { s with heap := h, toks := tk } Led ps stored m₀ (P (i + 1)) I oI (l, listOf vs.toArray cnt) Q) E { s with heap := h, toks := tk })
    (done : ∀ (c : σ) (u : Str → Option Value) h tk, P vs.length c → Fr h₀ env.locals h (kstB (fun z => if stored.contains z then u z else m₀ z) (ps c)) → News h₀ env.locals h ((l, listOf vs.toArray cnt) :: Led c) → Q .next { s with heap := h, toks := tk }) :
    wpAny (model prog w) A (pyIter (.ref l)) (fun it s₂ => LoopAtV prog w A h₀ env x body Q E it s₂) E s := by
  have hax := N _ (List.Mem.head _)
  have hls : s.heap.IsList l vs.toArray := ⟨_, hax.1, rfl, cnt, rfl⟩
  have hlt : l < s.heap.objs.size := Heap.lt_size hax.1
  have hne : l ≠ s.heap.objs.size := Nat.ne_of_lt hlt
  refine wpAny_pyIter_list hls ?_
  have W := Walks.list (prog := prog) (w := w) hh s.heap.objs.size l hne vs.toArray
  rw [List.size_toArray] at W
  have hnew : h₀.get? s.heap.objs.size = none := next_is_new F
  let J : Nat → (Str → Option Value) → List (Addr × Obj) → Prop := fun i m nx => ∃ c : σ, nx = (l, listOf vs.toArray cnt) :: Led c ∧ (∀ p ∈ ps c, m p.1 = some p.2) ∧ (∀ z, (∀ p ∈ ps c, z ≠ p.1) → stored.contains z = false → m z = m₀ z) ∧ P i c
  refine ⟨_, _, _, vs.length, _, _, m₀, (l, listOf vs.toArray cnt) :: Led c₀, J, rfl, W, ?_, ?_, ?_, ⟨⟨_, Heap.get?_push_size _ rfl, rfl, rfl⟩, hls.at fun o e => Heap.get?_push_of_some _ e⟩, F.push _, (fun p hp => ⟨Heap.get?_push_of_some _ (N p hp).1, (N p hp).2⟩), ⟨c₀, rfl, hk, fun _ _ _ => rfl, hp⟩, ?_, ?_⟩
  · intro hm
    rcases List.mem_cons.mp hm with e | hm
    · exact absurd F.ns.lt (e ▸ Nat.lt_irrefl _)
    · exact hax.2.1 (List.mem_singleton.mp hm).symm
  · intro b hb
    rw [List.mem_singleton.mp hb]
    exact hnew
  · intro p hp hI
    exact absurd (Heap.lt_size (N p hp).1) ((List.mem_singleton.mp hI) ▸ Nat.lt_irrefl _)
  · rintro i v m₁ news₁ s₁ own ⟨hh', tk', rfl⟩ hin hP ⟨c, rfl, h1, h2, hp'⟩ hoff hown hget hall hst F₁ N₁
    obtain ⟨oI, hoI, _⟩ := id hst.1
    have hl1 : hh'.get? l = some (listOf vs.toArray cnt) := (N₁ (l, listOf vs.toArray cnt) (List.mem_append_right _ (.head _))).1
    have hmem := hall s.heap.objs.size (List.mem_cons_self ..) hnew oI hoI
    have N₂ : News h₀ env.locals hh' ((s.heap.objs.size, oI) :: (l, listOf vs.toArray cnt) :: Led c) := fun p hp => by
      rcases List.mem_cons.mp hp with rfl | hp
      · exact N₁ _ (List.mem_append_left _ hmem)
      · exact N₁ _ (List.mem_append_right _ hp)
    have hoffI : ∀ p ∈ Led c, p.1 ≠ s.heap.objs.size := fun p hp e => hoff p (List.mem_cons_of_mem _ hp) (by rw [e]; exact List.mem_cons_self ..)
    refine wpAny_mono (turn c i v m₁ s.heap.objs.size oI hh' tk' (by simpa using hP) hp' hoffI (by rw [st_fr h1 h2]; exact F₁) N₂) (fun f s₂ p => ?_) fun _ _ x => x
    have fin : GrEnd h₀ env.locals { s with heap := hh', toks := tk' } Led ps stored m₀ (P (i + 1)) s.heap.objs.size oI (l, listOf vs.toArray cnt) s₂ → LoopStepU h₀ env.locals [s.heap.objs.size] own (J (i + 1)) { s with heap := hh', toks := tk' } .next s₂ := by
      rintro ⟨c', h', tk, m', news', e, F', N', hI', hl', hn, ho, hk', hr, hp''⟩
      refine ⟨rfl, h', tk, m', (l, listOf vs.toArray cnt) :: Led c', e, F', fun p hp => ?_, fun p hp hq => ?_, c', rfl, hk', hr, hp''⟩
      · rcases List.mem_append.mp hp with hp | hp
        · have hv : hh'.get? p.1 = some p.2 := hget p hp
          rcases List.mem_cons.mp (hown p hp) with h3 | h3
          · have : p = (s.heap.objs.size, oI) := by
              rw [h3, hoI] at hv
              exact Prod.ext h3 (Option.some.inj hv).symm
            rw [this]; exact N' _ hI'
          · have h4 := List.mem_singleton.mp h3
            have : p = (l, listOf vs.toArray cnt) := by
              rw [h4, hl1] at hv
              exact Prod.ext h4 (Option.some.inj hv).symm
            rw [this]; exact N' _ hl'
        · rcases List.mem_cons.mp hp with rfl | hp
          · exact N' _ hl'
          · exact N' _ (hn p hp)
      · have hq' := List.mem_singleton.mp hq
        rcases List.mem_cons.mp hp with rfl | hp
        · exact hne hq'
        · exact ho p hp hq'
    cases f with
    | ret v => exact p
    | brk => exact p
    | next => exact .next (fin p)
    | cont => exact .cont (fin p)
  · rintro h' tk m' news' F' N' _ ⟨c, rfl, h1, h2, hp'⟩
    exact done c m' h' tk hp' (by rw [st_fr h1 h2]; exact F') N'
end
theorem fresh_Bg : True := by
  k_with_none
  w_top off
  trivial
section
variable {prog : Program} {w : World} {A : Around} {E : Value → Shared → Prop} {s : Shared} {env : Env} {h₀ : Heap} {body : List Stmt} {Q : Flow → Shared → Prop} {x : Str} {px : Pos}
/-- a loop over a range whose name is captured: the assignment is walked with the body -/
theorem range_tgt {σ : Type} {r : Addr} {a₀ b₀ : Int} {t₀ u₀ v₀ : Tok} {n : Nat} {m₀ : Str → Option Value} (Led : σ → List (Addr × Obj)) (ps : σ → List (Str × Value)) (stored : List Str) (P : Nat → σ → Prop) (c₀ : σ)
    (hh : A.handled = none) (hr : IsRange s.heap r a₀ b₀ 1 t₀ u₀ v₀) (hsmall : Builtin.Range.small a₀ b₀ 1 = true) (hn : Builtin.Range.rangeSize a₀ b₀ 1 = (n : Int)) (F : Fr h₀ env.locals s.heap m₀) (N : News h₀ env.locals s.heap (Led c₀)) (hk : ∀ p ∈ ps c₀, m₀ p.1 = some p.2) (hp : P 0 c₀)
    (turn : ∀ (c : σ) (i : Nat) t (u : Str → Option Value) I oI h tk, i < n → P i c → (∀ p ∈ Led c, p.1 ≠ I) →
      Fr h₀ env.locals h (kstB (fun z => if stored.contains z then u z else m₀ z) (ps c)) → News h₀ env.locals h ((I, oI) :: Led c) →
      wpAny (model prog w) A (assign (.Name x px) env (.int (a₀ + (i : Int) * 1) t)) (fun _ s₃ => wpAny (model prog w) A (execs body env) (GrPost h₀ env.locals { s with heap := h, toks := tk } Led ps stored m₀ (P (i + 1)) I oI (I, oI) Q) E s₃) E { s with heap := h, toks := tk })
    (done : ∀ (c : σ) (u : Str → Option Value) h tk, P n c → Fr h₀ env.locals h (kstB (fun z => if stored.contains z then u z else m₀ z) (ps c)) → News h₀ env.locals h (Led c) → Q .next { s with heap := h, toks := tk }) :
    wpAny (model prog w) A (pyIter (.ref r)) (fun it s₂ => TurnsAt prog w A h₀ env (.Name x px) body Q E it s₂) E s := by
  refine wpAny_pyIter_range hr hsmall ?_
  have W : Walks prog w A s.heap.objs.size [s.heap.objs.size] [s.heap.objs.size] n (fun i v => ∃ t, v = .int (a₀ + i * 1) t)
      (fun i h => IsRangeIter h s.heap.objs.size (a₀ + (i : Nat) * 1) ((n : Int) - (i : Nat)) 1) := Walks.range hh _ a₀ 1 n
  have hnew : h₀.get? s.heap.objs.size = none := next_is_new F
  let J : Nat → (Str → Option Value) → List (Addr × Obj) → Prop := fun i m nx => ∃ c : σ, nx = Led c ∧ (∀ p ∈ ps c, m p.1 = some p.2) ∧ (∀ z, (∀ p ∈ ps c, z ≠ p.1) → stored.contains z = false → m z = m₀ z) ∧ P i c
  refine ⟨_, _, _, n, _, _, _, m₀, Led c₀, J, rfl, KTurns.ofWalks W (fun i v s Q E st q => (by unfold letOwnedTupleGo; exact wpAny_pure q)), ?_, ?_, ?_, (by show IsRangeIter _ _ _ _ _; rw [hn]; simpa using Heap.get?_push_size _ rfl), F.push _, (fun p hp => ⟨Heap.get?_push_of_some _ (N p hp).1, (N p hp).2⟩), ⟨c₀, rfl, hk, fun _ _ _ => rfl, hp⟩, ?_, ?_⟩
  · intro hm
    exact absurd F.ns.lt ((List.mem_singleton.mp hm) ▸ Nat.lt_irrefl _)
  · intro b hb
    rw [List.mem_singleton.mp hb]
    exact hnew
  · intro p hp hI
    exact absurd (Heap.lt_size (N p hp).1) ((List.mem_singleton.mp hI) ▸ Nat.lt_irrefl _)
  · rintro i v m₁ news₁ h₁ tk₁ own hin ⟨t, rfl⟩ ⟨c, rfl, h1, h2, hp'⟩ hoff hown hget hall hst F₁ N₁
    have hst' : ∃ oI, h₁.get? s.heap.objs.size = some oI := ⟨_, hst⟩
    obtain ⟨oI, hoI⟩ := hst'
    have hmem := hall s.heap.objs.size (List.mem_cons_self ..) hnew oI hoI
    have N₂ : News h₀ env.locals h₁ ((s.heap.objs.size, oI) :: Led c) := fun p hp => by
      rcases List.mem_cons.mp hp with rfl | hp
      · exact N₁ _ (List.mem_append_left _ hmem)
      · exact N₁ _ (List.mem_append_right _ hp)
    have hoffI : ∀ p ∈ Led c, p.1 ≠ s.heap.objs.size := fun p hp e => hoff p hp (by rw [e]; exact List.mem_cons_self ..)
    refine wpAny_mono (turn c i t m₁ s.heap.objs.size oI h₁ tk₁ hin hp' hoffI (by rw [st_fr h1 h2]; exact F₁) N₂) (fun _ s₃ h₃ => wpAny_mono h₃ (fun f s₂ p => ?_) fun _ _ x => x) fun _ _ x => x
    have fin : GrEnd h₀ env.locals { s with heap := h₁, toks := tk₁ } Led ps stored m₀ (P (i + 1)) s.heap.objs.size oI (s.heap.objs.size, oI) s₂ → LoopStepU h₀ env.locals [s.heap.objs.size] own (J (i + 1)) { s with heap := h₁, toks := tk₁ } .next s₂ := by
      rintro ⟨c', h', tk, m', news', e, F', N', hI', _, hn', ho, hk', hr', hp''⟩
      refine ⟨rfl, h', tk, m', Led c', e, F', fun p hp => ?_, fun p hp hq => ho p hp (List.mem_singleton.mp hq), c', rfl, hk', hr', hp''⟩
      rcases List.mem_append.mp hp with hp | hp
      · have hv : h₁.get? p.1 = some p.2 := hget p hp
        have h3 := List.mem_singleton.mp (hown p hp)
        have : p = (s.heap.objs.size, oI) := by
          rw [h3, hoI] at hv
          exact Prod.ext h3 (Option.some.inj hv).symm
        rw [this]; exact N' _ hI'
      · exact N' _ (hn' p hp)
    cases f with
    | ret v => exact p
    | brk => exact p
    | next => exact .next (fin p)
    | cont => exact .cont (fin p)
  · rintro h' tk m' news' F' N' _ ⟨c, rfl, h1, h2, hp'⟩
    exact done c m' h' tk hp' (by rw [st_fr h1 h2]; exact F') N'
end
theorem fresh_Mp : True := by
  k_with_none
  w_top off
  trivial
def MulO (b : Int) (A B : List Int) (i : Nat) (F : List Int) : Prop :=
  F.length = A.length + B.length ∧ Limbs b F ∧ val b F = val b (A.take i) * val b B ∧ (∀ j, i + B.length ≤ j → F.getD j 0 = 0)
def MulI (b : Int) (A B : List Int) (i : Nat) (x : Int) (F₀ : List Int) (j : Nat) (F : List Int) (c : Int) : Prop :=
  F.length = A.length + B.length ∧ Limbs b F ∧ 0 ≤ c ∧ c < b ∧ val b F + c * b ^ (i + j) = val b F₀ + x * val b (B.take j) * b ^ i ∧ (∀ k, i + B.length ≤ k → F.getD k 0 = 0)
theorem val_set (b v : Int) : ∀ (F : List Int) (j : Nat), j < F.length → val b (F.set j v) = val b F + (v - F.getD j 0) * b ^ j
  | [], _, h => absurd h (Nat.not_lt_zero _)
  | x :: r, 0, _ => by simp only [List.set_cons_zero, val, List.getD_cons_zero, Int.pow_zero, Int.mul_one]; omega
  | x :: r, j + 1, h => by
    have e := val_set b v r j (Nat.lt_of_succ_lt_succ h)
    simp only [List.set_cons_succ, val, List.getD_cons_succ, e, Int.pow_succ]
    rw [Int.mul_add, Int.add_assoc, Int.mul_left_comm, Int.mul_comm (b ^ j) b]
theorem val_take (b : Int) : ∀ (A : List Int) (i : Nat) {x : Int}, A[i]? = some x → val b (A.take (i + 1)) = val b (A.take i) + x * b ^ i
  | [], _, _, h => by simp at h
  | a :: r, 0, x, h => by
    have e : a = x := by simpa using h
    subst e
    simp [val]
  | a :: r, i + 1, x, h => by
    have e := val_take b r i (x := x) (by simpa using h)
    rw [List.take_succ_cons, List.take_succ_cons]
    simp only [val, e, Int.pow_succ]
    rw [Int.mul_add, Int.add_assoc, Int.mul_left_comm, Int.mul_comm (b ^ i) b]
theorem limbs_set {b v : Int} {F : List Int} (h : Limbs b F) (h0 : 0 ≤ v) (h1 : v < b) (j : Nat) : Limbs b (F.set j v) := by
  intro x hx
  rcases List.mem_or_eq_of_mem_set hx with hx | rfl
  · exact h x hx
  · exact ⟨h0, h1⟩
theorem getD_set_ne {F : List Int} {j k : Nat} {v : Int} (h : j ≠ k) : (F.set j v).getD k 0 = F.getD k 0 := by
  simp [List.getD, List.getElem?_set_ne h]
theorem getD_limb {b : Int} {F : List Int} (h : Limbs b F) {k : Nat} (hk : k < F.length) : 0 ≤ F.getD k 0 ∧ F.getD k 0 < b := by
  have e : F.getD k 0 = F[k] := by simp [List.getD, hk]
  rw [e]
  exact h _ (List.getElem_mem hk)
theorem mul_turn {b : Int} {A B : List Int} {i j : Nat} {x y c : Int} {F₀ F : List Int} (hb : 15 < b) (hx : 0 ≤ x ∧ x < b) (hy : 0 ≤ y ∧ y < b) (hi : i < A.length) (hj : B[j]? = some y) (h : MulI b A B i x F₀ j F c) :
    MulI b A B i x F₀ (j + 1) (F.set (i + j) ((c + (F.getD (i + j) 0 + x * y)) % b)) ((c + (F.getD (i + j) 0 + x * y)) / b) := by
  obtain ⟨hl, hL, hc0, hc1, hv, hz⟩ := h
  have hj' : j < B.length := (List.getElem?_eq_some_iff.mp hj).1
  have hlt : i + j < F.length := by omega
  have hf := getD_limb hL hlt
  have e := Int.mul_ediv_add_emod (c + (F.getD (i + j) 0 + x * y)) b
  have h0 := Int.emod_nonneg (c + (F.getD (i + j) 0 + x * y)) (show b ≠ 0 by omega)
  have h1 := Int.emod_lt_of_pos (c + (F.getD (i + j) 0 + x * y)) (show 0 < b by omega)
  have hxy0 : 0 ≤ x * y := Int.mul_nonneg hx.1 hy.1
  have hxy1 : x * y ≤ (b - 1) * (b - 1) := Int.mul_le_mul (by omega) (by omega) hy.1 (by omega)
  have hbb : (b - 1) * (b - 1) = b * b - 2 * b + 1 := by rw [Int.sub_mul, Int.mul_sub]; omega
  refine ⟨by rw [List.length_set]; exact hl, limbs_set hL h0 h1 _, Int.ediv_nonneg (by omega) (by omega), Int.ediv_lt_of_lt_mul (by omega) (by omega), ?_, fun k hk => ?_⟩
  · rw [val_set b _ F _ hlt, val_take b B j hj]
    generalize hS : c + (F.getD (i + j) 0 + x * y) = S at *
    generalize hD : F.getD (i + j) 0 = D at *
    have e2 : S / b * b ^ (i + (j + 1)) = (b * (S / b)) * b ^ (i + j) := by
      rw [← Nat.add_assoc, Int.pow_succ, Int.mul_comm (b ^ (i + j)) b, ← Int.mul_assoc, Int.mul_comm (S / b) b]
    rw [e2, Int.add_assoc, ← Int.add_mul, show S % b - D + b * (S / b) = c + x * y by omega, Int.add_mul, ← Int.add_assoc, hv, Int.mul_add, Int.add_mul, Int.add_assoc, Int.mul_assoc x y, Int.mul_assoc x (y * b ^ j), Int.mul_assoc y, ← Int.pow_add, Nat.add_comm j i]
  · rw [getD_set_ne (by omega)]
    exact hz k hk
theorem mul_turn' {p : Nat} {A B : List Int} {i j : Nat} {x y c : Int} {F₀ F : List Int} (hb : 15 < (2:Int) ^ p) (hx : 0 ≤ x ∧ x < 2 ^ p) (hy : 0 ≤ y ∧ y < 2 ^ p) (hi : i < A.length) (hj : B[j]? = some y) (h : MulI (2 ^ p) A B i x F₀ j F c) :
    MulI (2 ^ p) A B i x F₀ (j + 1) (F.set ((i : Int) + (j : Int)).toNat (Builtin.bitAnd (c + (F.getD ((i : Int) + (j : Int)).toNat 0 + x * y)) (1 * 2 ^ p - 1))) ((c + (F.getD ((i : Int) + (j : Int)).toNat 0 + x * y)).fdiv (2 ^ p)) := by
  have e := mul_turn hb hx hy hi hj h
  rw [Int.one_mul, kbt_mask, Int.fdiv_eq_ediv_of_nonneg _ (show 0 ≤ (2:Int) ^ p by omega), show ((i : Int) + (j : Int)).toNat = i + j by omega]
  exact e
theorem mul_start {b : Int} {A B : List Int} {i : Nat} {x : Int} {F : List Int} (hb : 15 < b) (h : MulO b A B i F) : MulI b A B i x F 0 F 0 := by
  obtain ⟨hl, hL, hv, hz⟩ := h
  exact ⟨hl, hL, by omega, by omega, by simp [val], hz⟩
theorem mul_next {b : Int} {A B : List Int} {i : Nat} {x c : Int} {F₀ F : List Int} (hx : A[i]? = some x) (h₀ : MulO b A B i F₀) (h : MulI b A B i x F₀ B.length F c) : MulO b A B (i + 1) (F.set (i + B.length) c) := by
  obtain ⟨hl, hL, hc0, hc1, hv, hz⟩ := h
  obtain ⟨_, _, hv0, _⟩ := h₀
  have hi : i < A.length := (List.getElem?_eq_some_iff.mp hx).1
  have hlt : i + B.length < F.length := by omega
  refine ⟨by rw [List.length_set]; exact hl, limbs_set hL hc0 hc1 _, ?_, fun k hk => ?_⟩
  · rw [val_set b _ F _ hlt, hz _ (Nat.le_refl _), Int.sub_zero, hv, hv0, List.take_length, val_take b A i hx, Int.add_mul, Int.mul_assoc, Int.mul_comm (val b B), Int.mul_assoc]
  · rw [getD_set_ne (by omega)]
    exact hz k (by omega)
theorem mul_next' {b : Int} {A B : List Int} {i : Nat} {x c : Int} {F₀ F : List Int} (hx : A[i]? = some x) (h₀ : MulO b A B i F₀) (h : MulI b A B i x F₀ B.length F c) : MulO b A B (i + 1) (F.set ((i : Int) + (B.length : Int)).toNat c) := by
  rw [show ((i : Int) + (B.length : Int)).toNat = i + B.length by omega]
  exact mul_next hx h₀ h
theorem mul_zero {b : Int} {A B F : List Int} (hb : 15 < b) (hF : F = (List.replicate ((A.length : Int) + (B.length : Int)).toNat [0]).flatten) : MulO b A B 0 F := by
  have e : ∀ n, (List.replicate n [(0:Int)]).flatten = List.replicate n 0 := by
    intro n
    induction n with
    | zero => rfl
    | succ n ih => rw [List.replicate_succ, List.flatten_cons, ih, List.replicate_succ]; rfl
  rw [e, show ((A.length : Int) + (B.length : Int)).toNat = A.length + B.length by omega] at hF
  subst hF
  refine ⟨by simp, fun x hx => ?_, by simp [val, val_zeros], fun j _ => ?_⟩
  · rw [List.eq_of_mem_replicate hx]; omega
  · by_cases hj : j < A.length + B.length <;> simp [List.getD, hj]
theorem fresh_N1 : True := by
  k_with_none
  w_top off
  trivial
theorem take_val (b : Int) : ∀ (ns : List Int) (k : Nat), (∀ j, k ≤ j → j < ns.length → ns.getD j 0 = 0) → val b (ns.take k) = val b ns := by
  intro ns
  induction ns with
  | nil => intro k _; simp
  | cons x r ih =>
    intro k h
    cases k with
    | zero =>
      have hx : x = 0 := by simpa using h 0 (by omega) (by simp)
      have hr := ih 0 (fun j _ hj => by have := h (j + 1) (by omega) (by simpa using hj); simpa using this)
      simp only [List.take_zero, val] at hr ⊢
      rw [hx, ← hr]; simp
    | succ k =>
      simp only [List.take_succ_cons, val]
      rw [ih k fun j h1 h2 => by have := h (j + 1) (by omega) (by simpa using h2); simpa using this]
theorem normal_fact {ns : List Int} {k : Int} {f : Int → Bool} (h : ∀ j : Int, k < j → j ≤ (ns.length : Int) → f j = true) (hf : ∀ j, f j = if 0 < j then if (ns.getD (j - 1).toNat 0 == 0) = true then true else false else false)
    (hl : min (ns.length : Int) 0 ≤ k) (hl2 : k ≤ ns.length) :
    (∀ b, val b (ns.take k.toNat) = val b ns) ∧ (∀ x ∈ ns.take k.toNat, x ∈ ns) ∧ (ns.take k.toNat).length ≤ ns.length := by
  refine ⟨fun b => take_val b ns _ fun j h1 h2 => ?_, fun x hx => List.mem_of_mem_take hx, by rw [List.length_take]; omega⟩
  have := h (j + 1) (by omega) (by omega)
  rw [hf, if_pos (by omega)] at this
  have e : ((j : Int) + 1 - 1).toNat = j := by omega
  rw [e] at this
  by_cases h3 : (ns.getD j 0 == 0) = true
  · simpa using h3
  · rw [if_neg h3] at this; cases this
theorem normal_call (w : World) (l : Addr) (vs : List Value) (ns : List Int) : Call w 46 2 16 [.ref l] (fun h => h.IsList l vs.toArray ∧ IntsAre vs ns ∧ ns.length < 10000000)
    (fun s Q => RetL s (fun r => (∀ b, val b r = val b ns) ∧ (∀ x ∈ r, x ∈ ns) ∧ r.length ≤ ns.length) Q) := by
  unfold Call
  k_fill
  intro mean mg mb edp eun egd ecn ecs ea eccd ecl eouter eA₀ ebase eh₀ eL em s Q E KB0 KF0 KX0 KT0 hk hdp hun hpre hret
  refine wpAny_call ?_
  k_dflt (refine' code_defG (news := []) (binds := [(Str.ofString "a", .ref l)]) ?k1 ?k2 ?k3 ?k4 ?k5 ?kA ?kF ?kK ?k6 ?k7 ?k8 ?k9 ?kB ?_ ?c2 ?c3 ?c4 ?c5; (case kA => exact rfl); (case kF => exact rfl); (case kK => assumption); (case k1 => k_asm); (case k2 => k_asm); (case k3 => k_asm); (case k4 => exact News.nil); (case k5 => k_asm); (case k6 => k_is); (case k7 => k_is); (case k8 => ktr_room); (case k9 => exact BindsTo.of_eq rfl); (case c5 => decide); (case kB => exact locs rfl); (case c2 => exact rfl); (case c3 => exact rfl); (case c4 => exact rfl); k_whole; intro g' L' h' FG' F' N' B' X' T' G'; (try dsimp only); (try k_fold))
  obtain ⟨hl, hi, hlen⟩ := hpre
  have hl' : g'.IsList l vs.toArray := hl.at fun o e => gsub_up G' _ _ e
  k_steps
  exact RetL.of hret G' (by assumption) (by assumption) (by kst_entry) (by assumption) (normal_fact (by assumption) (fun _ => rfl) (by assumption) (by assumption))
theorem fresh_N2 : True := by
  k_with_none
  w_top off
  trivial
theorem nat_turn {b n k : Int} {F : List Int} (hb : 1 < b) (hk : 0 < k) (h : val b F + b ^ F.length * k = n) (hl : Limbs b F) (hlen : (F.length : Int) + k ≤ n) :
    val b (F ++ [k % b]) + b ^ (F ++ [k % b]).length * (k / b) = n ∧ Limbs b (F ++ [k % b]) ∧ ((F ++ [k % b]).length : Int) + k / b ≤ n ∧ k / b < k ∧ 0 ≤ k / b := by
  have e := Int.mul_ediv_add_emod k b
  have h0 := Int.emod_nonneg k (show b ≠ 0 by omega)
  have h1 := Int.emod_lt_of_pos k (show 0 < b by omega)
  have h2 : k / b < k := Int.ediv_lt_self_of_pos_of_ne_one (by omega) (by omega)
  have h3 : 0 ≤ k / b := Int.ediv_nonneg (by omega) (by omega)
  refine ⟨?_, ?_, ?_, h2, h3⟩
  · rw [val_append, List.length_append, List.length_singleton, Int.pow_succ, ← h]
    simp only [val, Int.mul_zero, Int.add_zero]
    rw [Int.add_assoc, Int.mul_assoc, ← Int.mul_add, Int.add_comm (k % b), e]
  · intro x hx
    rcases List.mem_append.mp hx with hx | hx
    · exact hl x hx
    · rw [List.mem_singleton.mp hx]; exact ⟨h0, h1⟩
  · rw [List.length_append, List.length_singleton]; omega
theorem nat_len {k n : Int} {p : Nat} {F : List Int} (hb : 15 < (2:Int) ^ p) (hk : 0 < k) (h : val (2 ^ p) F + (2 ^ p) ^ F.length * k = n) (hl : Limbs (2 ^ p) F) (hn : n < 256) : F.length ≤ 1 := by
  have h0 := val_nonneg (show 0 ≤ (2:Int) ^ p by omega) hl
  generalize (2:Int) ^ p = b at *
  by_cases hlen : F.length ≤ 1
  · exact hlen
  · exfalso
    obtain ⟨t, ht⟩ : ∃ t, F.length = t + 2 := ⟨F.length - 2, by omega⟩
    have h3 : 16 * 16 ≤ b * b := Int.mul_le_mul (by omega) (by omega) (by omega) (by omega)
    have h4 : 0 < b ^ t := pow_pos_of (by omega) t
    have h1 : 1 * (b * b) ≤ b ^ t * (b * b) := Int.mul_le_mul_of_nonneg_right (by omega) (by omega)
    have h2 : b ^ F.length * 1 ≤ b ^ F.length * k := Int.mul_le_mul_of_nonneg_left (by omega) (Int.le_of_lt (pow_pos_of (by omega) _))
    rw [ht, Int.pow_succ, Int.pow_succ, Int.mul_assoc (b ^ t)] at h2
    rw [ht, Int.pow_succ, Int.pow_succ, Int.mul_assoc (b ^ t)] at h
    omega
theorem nat_turn' {k n : Int} {p : Nat} {F : List Int} (hb : 15 < (2:Int) ^ p) (hk : 0 < k) (h : val (2 ^ p) F + (2 ^ p) ^ F.length * k = n) (hl : Limbs (2 ^ p) F) (hlen : (F.length : Int) + k ≤ n) :
    0 ≤ k.fdiv (2 ^ p) ∧ val (2 ^ p) (F ++ [Builtin.bitAnd k (1 * 2 ^ p - 1)]) + (2 ^ p) ^ (F ++ [Builtin.bitAnd k (1 * 2 ^ p - 1)]).length * (k.fdiv (2 ^ p)) = n ∧ Limbs (2 ^ p) (F ++ [Builtin.bitAnd k (1 * 2 ^ p - 1)]) ∧ ((F ++ [Builtin.bitAnd k (1 * 2 ^ p - 1)]).length : Int) + k.fdiv (2 ^ p) ≤ n := by
  have e := nat_turn (show 1 < (2:Int) ^ p by omega) hk h hl hlen
  rw [Int.one_mul, kbt_mask, Int.fdiv_eq_ediv_of_nonneg _ (show 0 ≤ (2:Int) ^ p by omega)]
  exact ⟨e.2.2.2.2, e.1, e.2.1, e.2.2.1⟩
theorem nat_less {k : Int} {p : Nat} (hb : 15 < (2:Int) ^ p) (hk : 0 < k) : (k.fdiv (2 ^ p)).toNat < k.toNat := by
  rw [Int.fdiv_eq_ediv_of_nonneg _ (show 0 ≤ (2:Int) ^ p by omega)]
  have := Int.ediv_lt_self_of_pos_of_ne_one hk (show (2:Int) ^ p ≠ 1 by omega)
  have h3 : 0 ≤ k / 2 ^ p := Int.ediv_nonneg (by omega) (by omega)
  omega
theorem nat_turn2 {k n : Int} {p : Nat} {F : List Int} (hb : 15 < (2:Int) ^ p) (hk : 0 < k) (h : val (2 ^ p) F + (2 ^ p) ^ F.length * k = n) (hl : Limbs (2 ^ p) F) (hlen : (F.length : Int) + k ≤ n) (hn : n < 256) :
    0 ≤ k.fdiv (2 ^ p) ∧ val (2 ^ p) (F ++ [Builtin.bitAnd k (1 * 2 ^ p - 1)]) + (2 ^ p) ^ (F ++ [Builtin.bitAnd k (1 * 2 ^ p - 1)]).length * (k.fdiv (2 ^ p)) = n ∧ Limbs (2 ^ p) (F ++ [Builtin.bitAnd k (1 * 2 ^ p - 1)]) ∧ ((F ++ [Builtin.bitAnd k (1 * 2 ^ p - 1)]).length : Int) + k.fdiv (2 ^ p) ≤ n ∧ (F ++ [Builtin.bitAnd k (1 * 2 ^ p - 1)]).length ≤ 2 := by
  have e := nat_turn' hb hk h hl hlen
  refine ⟨e.1, e.2.1, e.2.2.1, e.2.2.2, ?_⟩
  have := nat_len hb hk h hl hn
  rw [List.length_append, List.length_singleton]; omega
theorem nat_of_call (w : World) (n wd : Int) (t1 t2 : Tok) : Call w 53 2 16 [.int n t1, .int wd t2] (fun h => 0 ≤ n ∧ n < 256 ∧ 4 ≤ wd ∧ wd ≤ 8) (fun s Q => RetL s (fun r => val (2 ^ wd.toNat) r = n ∧ Limbs (2 ^ wd.toNat) r ∧ r.length ≤ 2) Q) := by
  unfold Call
  k_fill
  intro mean mg mb edp eun egd ecn ecs ea eccd ecl eouter eA₀ ebase eh₀ eL em s Q E KB0 KF0 KX0 KT0 hk hdp hun hpre hret
  refine wpAny_call ?_
  k_dflt (refine' code_defG (news := []) (binds := [(Str.ofString "number", .int n t1), (Str.ofString "w", .int wd t2)]) ?k1 ?k2 ?k3 ?k4 ?k5 ?kA ?kF ?kK ?k6 ?k7 ?k8 ?k9 ?kB ?_ ?c2 ?c3 ?c4 ?c5; (case kA => exact rfl); (case kF => exact rfl); (case kK => assumption); (case k1 => k_asm); (case k2 => k_asm); (case k3 => k_asm); (case k4 => exact News.nil); (case k5 => k_asm); (case k6 => k_is); (case k7 => k_is); (case k8 => ktr_room); (case k9 => exact BindsTo.of_eq rfl); (case c5 => decide); (case kB => exact locs rfl); (case c2 => exact rfl); (case c3 => exact rfl); (case c4 => exact rfl); k_whole; intro g' L' h' FG' F' N' B' X' T' G'; (try dsimp only); (try k_fold))
  obtain ⟨hn0, hn1, hw0, hw1⟩ := hpre
  have hb := base_gt hw0 hw1
  k_with "exec While" => refine Stop.out ?_
  k_steps
  unfold Stop
  k_with_none
  rename Fr _ _ _ _ => F1
  rename News _ _ _ _ => N1
  rename_i l0 _ _ _ _ _ _ _ _
  refine ksw_while (σ := Int × Nat × List Value × List Int × Nat) (fun c => [(l0, listOf c.2.2.1.toArray c.2.2.2.2)]) (fun c => [(Str.ofString "number", .int c.1 c.2.1)]) (fun c => IntsAre c.2.2.1 c.2.2.2.1) [] 
    (fun c => 0 ≤ c.1 ∧ val (2 ^ wd.toNat) c.2.2.2.1 + (2 ^ wd.toNat) ^ c.2.2.2.1.length * c.1 = n ∧ Limbs (2 ^ wd.toNat) c.2.2.2.1 ∧ (c.2.2.2.1.length : Int) + c.1 ≤ n ∧ c.2.2.2.1.length ≤ 2) (fun c => c.1.toNat) (n, t1, [], [], 0) F1 (kst_newsOf N1 ?_) .nil (by kst_all) ⟨hn0, by simp [val], by simp [Limbs], by simp, by simp⟩ ?_
  · kst_inAny
  rintro ⟨k, tk, vs, F, cnt⟩ u h tk hf ⟨hk0, hk1, hk2, hk3, hk4⟩ F1 N1
  dsimp only at hf hk0 hk1 hk2 hk3 hk4 F1 N1
  simp only [kstB, List.contains_nil, Bool.false_eq_true, if_false] at F1
  k_with "state" => exact nat_turn2 hb.1 (by assumption) hk1 hk2 hk3 hn1
  k_with "measure" => exact nat_less hb.1 (by assumption)
  k_steps
  k_with_none
  have hk : k = 0 := by omega
  exact RetL.of hret G' (by assumption) (by assumption) (by kst_entry) hf ⟨by rw [hk] at hk1; simpa using hk1, hk2, hk4⟩
theorem fresh_N3 : True := by
  k_with_none
  w_top off
  trivial
theorem mul_call (w : World) (la lb : Addr) (va vb : List Value) (A B : List Int) (wd : Int) (t : Tok) : Call w 135 4 32 [.ref la, .ref lb, .int wd t]
    (fun h => h.IsList la va.toArray ∧ IntsAre va A ∧ h.IsList lb vb.toArray ∧ IntsAre vb B ∧ A.length < 1000000 ∧ B.length < 1000000 ∧ 4 ≤ wd ∧ wd ≤ 8 ∧ Limbs (2 ^ wd.toNat) A ∧ Limbs (2 ^ wd.toNat) B)
    (fun s Q => RetL s (fun r => val (2 ^ wd.toNat) r = val (2 ^ wd.toNat) A * val (2 ^ wd.toNat) B ∧ Limbs (2 ^ wd.toNat) r ∧ r.length ≤ A.length + B.length) Q) := by
  unfold Call
  k_fill
  intro mean mg mb edp eun egd ecn ecs ea eccd ecl eouter eA₀ ebase eh₀ eL em s Q E KB0 KF0 KX0 KT0 hk hdp hun hpre hret
  refine wpAny_call ?_
  k_dflt (refine' code_defG (news := []) (binds := [(Str.ofString "a", .ref la), (Str.ofString "b", .ref lb), (Str.ofString "w", .int wd t)]) ?k1 ?k2 ?k3 ?k4 ?k5 ?kA ?kF ?kK ?k6 ?k7 ?k8 ?k9 ?kB ?_ ?c2 ?c3 ?c4 ?c5; (case kA => exact rfl); (case kF => exact rfl); (case kK => assumption); (case k1 => k_asm); (case k2 => k_asm); (case k3 => k_asm); (case k4 => exact News.nil); (case k5 => k_asm); (case k6 => k_is); (case k7 => k_is); (case k8 => ktr_room); (case k9 => exact BindsTo.of_eq rfl); (case c5 => decide); (case kB => exact locs rfl); (case c2 => exact rfl); (case c3 => exact rfl); (case c4 => exact rfl); k_whole; intro g' L' h' FG' F' N' B' X' T' G'; (try dsimp only); (try k_fold))
  obtain ⟨hla, hia, hlb, hib, hA, hB, hw0, hw1, hLA, hLB⟩ := hpre
  have hb := base_gt hw0 hw1
  have hla' : g'.IsList la va.toArray := hla.at fun o e => gsub_up G' _ _ e
  have hlb' : g'.IsList lb vb.toArray := hlb.at fun o e => gsub_up G' _ _ e
  k_with "StPost" => dsimp only [StPost]
  k_with "call type:enumerate" => refine Stop.out ?_
  k_steps
  unfold Stop
  rename Fr _ _ _ _ => F1
  rename News _ _ _ _ => N1
  rename_i f _ i1 _ _ _ _ _ _ _ _ _ _ _ _
  refine enum_st (σ := List Value × List Int × Nat) (fun c => [(f, listOf c.1.toArray c.2.2)]) (fun c => []) (fun c => IntsAre c.1 c.2.1) [Str.ofString "at", Str.ofString "limb", Str.ofString "carry", Str.ofString "spot", Str.ofString "other"] 
    (fun i c => MulO (2 ^ wd.toNat) A B i c.2.1) (_, _, 0) (by rfl) hla' F1 (kst_newsOf N1 ?_) (fun _ => rfl) i1 (by kst_all) (mul_zero hb.1 rfl) ?_ ?_
  · kst_inAny
  · rintro ⟨vf, Fl, cf⟩ i v t1 u h tk own hv hoff hf hP F1 N1
    obtain ⟨x, tx, rfl, hx⟩ := IntsAre.at hia i v hv
    dsimp only at hf hP F1 N1
    simp only [kstB] at F1
    simp only [List.nil_append, List.cons_append] at N1
    have hi' : i < A.length := (List.getElem?_eq_some_iff.mp hx).1
    have hxb := hLA x (List.mem_of_getElem? hx)
    have off1 : ∀ p ∈ own, p.1 ≠ f := fun p hp => hoff p hp f (by simp)
    k_steps
    unfold Stop
    rename Fr _ _ _ _ => F2
    rename News _ _ _ _ => N2
    refine enum_st (σ := List Value × List Int × Nat × Int × Nat) (fun c => (f, listOf c.1.toArray c.2.2.1) :: own) (fun c => [(Str.ofString "carry", .int c.2.2.2.1 c.2.2.2.2)]) (fun c => IntsAre c.1 c.2.1) [Str.ofString "spot", Str.ofString "other"] 
      (fun j c => MulI (2 ^ wd.toNat) A B i x Fl j c.2.1 c.2.2.2.1) (vf, Fl, cf, 0, _) (by rfl) hlb' F2 N2 (fun _ => rfl) hf (by kst_all) (mul_start hb.1 hP) ?_ ?_
    · rintro ⟨vg, Gl, cg, cy, tcy⟩ j v t2 u2 h2 tk2 own2 hv2 hoff2 hf2 hP2 F3 N3
      obtain ⟨y, ty, rfl, hy⟩ := IntsAre.at hib j v hv2
      dsimp only at hf2 hP2 F3 N3
      simp only [kstB] at F3
      simp only [List.nil_append, List.cons_append] at N3
      have hj' : j < B.length := (List.getElem?_eq_some_iff.mp hy).1
      have hGlen : Gl.length = A.length + B.length := hP2.1
      have hyb := hLB y (List.mem_of_getElem? hy)
      have offs : ∀ p ∈ own ++ own2, p.1 ≠ f := fun p hp => (List.mem_append.mp hp).elim (off1 p) fun h => hoff2 p h f (by simp)
      k_with "binaryOp Mult int int" => refine mul_int ?_ (mulok_small (by omega) (by omega))
      k_with "setItem ref int" => (k_here; k_dflt (refine' ksa_set ?k1 ?k2 (Upd.head offs) hf2 ?k5 ?k6 ?k7 ?_; (case k1 => k_asm); (case k2 => k_asm); (case k5 => omega); (case k6 => omega); (case k7 => omega); k_whole); intro h' F' N' hi9 hl9 hs9)
      k_with "StEnd" => refine Stop.out ?_
      k_steps
      unfold Stop
      (rename News _ _ _ _ => nE'); (rename IntsAre _ _ => iE'); (refine StEnd.intro ⟨_, _, _, _, _⟩ (by assumption) nE' (by kst_in) (by intro p hp; kst_mem) iE' (by kst_all) (by ksw_same) (mul_turn' hb.1 hxb hyb hi' hy hP2))
    · rintro ⟨vg, Gl, cg, cy, tcy⟩ u2 h2 tk2 hf2 hP2 F3 N3
      dsimp only at hf2 hP2 F3 N3
      simp only [kstB] at F3
      have hGlen : Gl.length = A.length + B.length := hP2.1
      have hblen : vb.length = B.length := hib.length
      k_with "setItem ref int" => (k_here; k_dflt (refine' ksa_set ?k1 ?k2 (Upd.head off1) hf2 ?k5 ?k6 ?k7 ?_; (case k1 => k_asm); (case k2 => k_asm); (case k5 => omega); (case k6 => omega); (case k7 => omega); k_whole); intro h' F' N' hi9 hl9 hs9)
      k_steps
      unfold Stop
      rw [hblen] at hP2
      (rename News _ _ _ _ => nE'); (rename IntsAre _ _ => iE'); (refine StEnd.intro ⟨_, _, _⟩ (by assumption) nE' (by kst_in) (by intro p hp; kst_mem) iE' (by kst_all) (by ksw_same) (mul_next' hx hP hP2))
  · rintro ⟨vg, Gl, cg⟩ u2 h2 tk2 hf2 hP2 F3 N3
    dsimp only at hf2 hP2 F3 N3
    simp only [kstB] at F3
    have hGlen : Gl.length = A.length + B.length := hP2.1
    k_with "call ref" => (k_here; (with_reducible show wpAny _ _ (PySem.call (Value.ref 46) _) _ _ _); k_dflt (refine' normal_call w f vg Gl _ _ _ _ _ _ _ _ _ _ _ _ _ _ _ _ _ _ _ _ ?c1 ?c2 ?c3 ?c4 ?c5 ?c6 ?c7 ?c8 (RetL.use ?cF ?cN ?_); (case c1 => k_asm); (case c2 => k_asm); (case c3 => k_asm); (case c4 => k_asm); (case c5 => first | exact rfl | assumption); (case c8 => exact ⟨news_list (by assumption) (by kst_entry), hf2, by omega⟩);  (case c6 => ktr_room); (case c7 => ktr_units); (case cF => k_asm); (case cN => k_asm)); rintro r9 vs9 n9 ns9 h9 tk9 F9 N9 o9 i9 P9; (try dsimp only); (try k_fold))
    k_steps
    rw [hia.length, MulO, List.take_length] at hP2
    exact RetL.of hret G' (by assumption) (by assumption) (by kst_entry) (by assumption) ⟨by rw [P9.1, hP2.2.2.1], fun x hx => hP2.2.1 x (P9.2.1 x hx), by omega⟩
theorem fresh_N4 : True := by
  k_with_none
  w_top off
  trivial
def PowI (b base : Int) (M : Int) (many : Int) (A S : List Int) : Prop :=
  0 ≤ many ∧ ∃ (u p : Nat), (u : Int) + (p : Int) * many = M ∧ val b A = base ^ u ∧ val b S = base ^ p ∧ Limbs b A ∧ Limbs b S ∧ A.length ≤ 1 + 2 * u ∧ S.length ≤ 2 * p ∧ 1 ≤ p
theorem pow_next {b base M k : Int} {A S A' S' : List Int} (hk : 0 < k) (h : PowI b base M k A S)
    (hA : (k % 2 = 1 ∧ val b A' = val b A * val b S ∧ Limbs b A' ∧ A'.length ≤ A.length + S.length) ∨ (k % 2 = 0 ∧ A' = A))
    (hS : (0 < k / 2 ∧ val b S' = val b S * val b S ∧ Limbs b S' ∧ S'.length ≤ S.length + S.length) ∨ (k / 2 = 0 ∧ S' = S)) : PowI b base M (k / 2) A' S' := by
  obtain ⟨_, u, p, e1, e2, e3, L1, L2, l1, l2, p1⟩ := h
  have ek : k = 2 * (k / 2) + k % 2 := by omega
  refine ⟨by omega, ?_⟩
  have hAll : ∃ u' : Nat, (u' : Int) = u + p * (k % 2) ∧ val b A' = base ^ u' ∧ Limbs b A' ∧ A'.length ≤ 1 + 2 * u' := by
    rcases hA with ⟨h1, h2, h3, h4⟩ | ⟨h1, rfl⟩
    · exact ⟨u + p, by rw [h1]; simp, by rw [h2, e2, e3, Int.pow_add], h3, by omega⟩
    · exact ⟨u, by rw [h1]; simp, e2, L1, l1⟩
  obtain ⟨u', a1, a2, a3, a4⟩ := hAll
  have ep : (p : Int) * k = 2 * (p : Int) * (k / 2) + p * (k % 2) := by
    rw [Int.mul_assoc, Int.mul_left_comm, ← Int.mul_add, ← ek]
  rcases hS with ⟨h1, h2, h3, h4⟩ | ⟨h1, rfl⟩
  · refine ⟨u', 2 * p, ?_, a2, by rw [h2, e3, ← Int.pow_add]; congr 1; omega, a3, h3, a4, by omega, by omega⟩
    push_cast
    omega
  · refine ⟨u', p, ?_, a2, e3, a3, L2, a4, l2, p1⟩
    rw [h1] at ep ⊢
    simp at ep ⊢
    omega
theorem pow_next' {b base M k : Int} {A S A' S' : List Int} (hk : 0 < k) (h : PowI b base M k A S)
    (hA : (k.fmod 2 = 1 ∧ val b A' = val b A * val b S ∧ Limbs b A' ∧ A'.length ≤ A.length + S.length) ∨ (k.fmod 2 ≠ 1 ∧ A' = A))
    (hS : (0 < k.fdiv 2 ∧ val b S' = val b S * val b S ∧ Limbs b S' ∧ S'.length ≤ S.length + S.length) ∨ (¬ 0 < k.fdiv 2 ∧ S' = S)) : PowI b base M (k.fdiv 2) A' S' := by
  rw [Int.fdiv_eq_ediv_of_nonneg _ (by decide)] at hS ⊢
  rw [Int.fmod_eq_emod_of_nonneg _ (by decide)] at hA
  refine pow_next hk h (hA.imp id fun h => ⟨by omega, h.2⟩) (hS.imp id fun h => ⟨by omega, h.2⟩)
theorem half_pos {k : Int} (hk : 0 < k) (h : k.fmod 2 ≠ 1) : 0 < k.fdiv 2 := by
  rw [Int.fdiv_eq_ediv_of_nonneg _ (by decide)]
  rw [Int.fmod_eq_emod_of_nonneg _ (by decide)] at h
  omega
theorem half_less {k : Int} (hk : 0 < k) : (k.fdiv 2).toNat < k.toNat := by
  rw [Int.fdiv_eq_ediv_of_nonneg _ (by decide)]
  omega
theorem pow_bounds {b base M k : Int} {A S : List Int} (h : PowI b base M k A S) (hk : 0 < k) (hM : M < 1000) : Limbs b A ∧ Limbs b S ∧ A.length < 1000000 ∧ S.length < 1000000 := by
  obtain ⟨_, u, p, e1, e2, e3, L1, L2, l1, l2, p1⟩ := h
  have h1 : (p : Int) * 1 ≤ p * k := Int.mul_le_mul_of_nonneg_left (by omega) (by omega)
  exact ⟨L1, L2, by omega, by omega⟩
theorem pow_start {b base M : Int} {S : List Int} (hb : 15 < b) (hM : 0 ≤ M) (h : val b S = base ∧ Limbs b S ∧ S.length ≤ 2) : PowI b base M M [1] S :=
  ⟨hM, 0, 1, by simp, by simp [val], by rw [h.1, Int.pow_succ, Int.pow_zero, Int.one_mul], by intro x hx; rw [List.mem_singleton.mp hx]; omega, h.2.1, by simp, by omega, by omega⟩
theorem pow_done {b base M k : Int} {A S : List Int} (h : PowI b base M k A S) (hk : k ≤ 0) : val b A = base ^ M.toNat ∧ Limbs b A ∧ A.length ≤ 1 + 2 * M.toNat := by
  obtain ⟨h0, u, p, e1, e2, e3, L1, L2, l1, l2, p1⟩ := h
  have : k = 0 := by omega
  subst this
  have eu : M.toNat = u := by simp at e1; omega
  rw [eu]
  exact ⟨e2, L1, l1⟩
structure PowS where
  k : Int
  t : Nat
  a : Nat
  va : List Value
  A : List Int
  na : Nat
  b : Nat
  vb : List Value
  S : List Int
  nb : Nat
theorem power_call (w : World) (base many wd : Int) (t1 t2 t3 : Tok) : Call w 81 6 48 [.int base t1, .int many t2, .int wd t3, .ref 135]
    (fun h => 0 ≤ base ∧ base < 256 ∧ 0 ≤ many ∧ many < 1000 ∧ 4 ≤ wd ∧ wd ≤ 8)
    (fun s Q => RetL s (fun r => val (2 ^ wd.toNat) r = base ^ many.toNat ∧ Limbs (2 ^ wd.toNat) r ∧ r.length ≤ 1 + 2 * many.toNat) Q) := by
  unfold Call
  k_fill
  intro mean mg mb edp eun egd ecn ecs ea eccd ecl eouter eA₀ ebase eh₀ eL em s Q E KB0 KF0 KX0 KT0 hk hdp hun hpre hret
  refine wpAny_call ?_
  k_dflt (refine' code_defG (news := []) (binds := [(Str.ofString "base", .int base t1), (Str.ofString "many", .int many t2), (Str.ofString "w", .int wd t3), (Str.ofString "mul", .ref 135)]) ?k1 ?k2 ?k3 ?k4 ?k5 ?kA ?kF ?kK ?k6 ?k7 ?k8 ?k9 ?kB ?_ ?c2 ?c3 ?c4 ?c5; (case kA => exact rfl); (case kF => exact rfl); (case kK => assumption); (case k1 => k_asm); (case k2 => k_asm); (case k3 => k_asm); (case k4 => exact News.nil); (case k5 => k_asm); (case k6 => k_is); (case k7 => k_is); (case k8 => ktr_room); (case k9 => exact BindsTo.of_eq rfl); (case c5 => decide); (case kB => exact locs rfl); (case c2 => exact rfl); (case c3 => exact rfl); (case c4 => exact rfl); k_whole; intro g' L' h' FG' F' N' B' X' T' G'; (try dsimp only); (try k_fold))
  obtain ⟨hb0, hb1, hm0, hm1, hw0, hw1⟩ := hpre
  have hb := base_gt hw0 hw1
  k_with "exec While" => refine Stop.out ?_
  k_with "KswEnd" => refine Stop.out ?_
  k_with "call ref" => (k_here; (with_reducible show wpAny _ _ (PySem.call (Value.ref 53) _) _ _ _); k_dflt (refine' nat_of_call w _ _ _ _ _ _ _ _ _ _ _ _ _ _ _ _ _ _ _ _ _ _ _ _ ?c1 ?c2 ?c3 ?c4 ?c5 ?c6 ?c7 ?c8 (RetL.use ?cF ?cN ?_); (case c1 => k_asm); (case c2 => k_asm); (case c3 => k_asm); (case c4 => k_asm); (case c5 => first | exact rfl | assumption); (case c8 => exact ⟨hb0, hb1, hw0, hw1⟩);  (case c6 => ktr_room); (case c7 => ktr_units); (case cF => k_asm); (case cN => k_asm)); rintro r9 vs9 n9 ns9 h9 tk9 F9 N9 o9 i9 P9; (try dsimp only); (try k_fold))
  k_steps
  unfold Stop
  rename Fr _ _ _ _ => F1
  rename News _ _ _ _ => N1
  rename_i l0 _ _ _ _ _ _ _ _
  refine' ksw_while (σ := PowS) (fun c => [(c.a, listOf c.va.toArray c.na), (c.b, listOf c.vb.toArray c.nb)]) (fun c => [(Str.ofString "many", .int c.k c.t), (Str.ofString "found", .ref c.a), (Str.ofString "square", .ref c.b)]) (fun c => IntsAre c.va c.A ∧ IntsAre c.vb c.S) [] 
    (fun c => PowI (2 ^ wd.toNat) base many c.k c.A c.S) (fun c => c.k.toNat) ⟨many, t2, l0, [.int 1 ?tk0], [1], 0, r9, vs9, ns9, n9⟩ F1 (kst_newsOf N1 ?n1) ⟨.cons _ _ .nil, i9⟩ (by kst_all) (pow_start hb.1 hm0 P9) ?_
  case n1 => kst_inAny
  rintro ⟨k, tk, a, va, A, na, b, vb, S, nb⟩ u h tk2 ⟨hf1, hf2⟩ hP F2 N2
  dsimp only at hf1 hf2 hP F2 N2
  simp only [kstB, List.contains_nil, Bool.false_eq_true, if_false] at F2
  have hbd := pow_bounds hP
  k_with "call ref" => (k_here; (with_reducible show wpAny _ _ (PySem.call (Value.ref 135) _) _ _ _); k_dflt (refine' mul_call w _ _ _ _ _ _ _ _ _ _ _ _ _ _ _ _ _ _ _ _ _ _ _ _ _ _ _ _ ?c1 ?c2 ?c3 ?c4 ?c5 ?c6 ?c7 ?c8 (RetL.use ?cF ?cN ?_); (case c1 => k_asm); (case c2 => k_asm); (case c3 => k_asm); (case c4 => k_asm); (case c5 => first | exact rfl | assumption); (case c8 => (refine ⟨news_list (by assumption) (by kst_entry), by assumption, news_list (by assumption) (by kst_entry), by assumption, ?_, ?_, hw0, hw1, ?_, ?_⟩ <;> first | exact (hbd (by assumption) hm1).1 | exact (hbd (by assumption) hm1).2.1 | exact (hbd (by assumption) hm1).2.2.1 | exact (hbd (by assumption) hm1).2.2.2));  (case c6 => ktr_room); (case c7 => ktr_units); (case cF => k_asm); (case cN => k_asm)); rintro r9 vs9 n9 ns9 h9 tk9 F9 N9 o9 i9 P9; (try dsimp only); (try k_fold))
  k_steps
  all_goals try unfold Stop
  iterate 3
    rename News _ _ _ _ => nE'
    refine' ksw_end ⟨_, _, _, _, _, _, _, _, _, _⟩ (by assumption) nE' ?hn ?hf ?hk ?hr ?hp ?hm
    case hk => kst_all
    case hn => kst_in
    case hf => exact ⟨by assumption, by assumption⟩
    case hr => ksw_same
    case hp => exact pow_next' (by assumption) hP (by first | exact .inl ⟨by assumption, by assumption⟩ | exact .inr ⟨by assumption, rfl⟩) (by first | exact .inl ⟨by first | assumption | exact half_pos (by assumption) (by assumption), by assumption⟩ | exact .inr ⟨by assumption, rfl⟩)
    case hm => exact half_less (by assumption)
  exact RetL.of hret G' (by assumption) (by assumption) (by kst_entry) (by assumption) (pow_done hP (by omega))
theorem fresh_N5 : True := by
  k_with_none
  w_top off
  trivial
def prodL : List Int → Int
  | [] => 1
  | x :: r => x * prodL r
theorem prodL_append (xs ys : List Int) : prodL (xs ++ ys) = prodL xs * prodL ys := by
  induction xs with
  | nil => simp [prodL]
  | cons x r ih => simp only [List.cons_append, prodL, ih, Int.mul_assoc]
theorem pc_head {ns : List Int} (h : ∀ x ∈ ns, 0 ≤ x ∧ x < 256) (hl : 0 < ns.length) : 0 ≤ ns.getD (Int.toNat 0) 0 ∧ ns.getD (Int.toNat 0) 0 < 256 := by
  cases ns with
  | nil => simp at hl
  | cons x r => simpa using h x (by simp)
theorem pc_one {v : Int} {ns : List Int} (hl : ns.length = 1) (h : v = ns.getD (Int.toNat 0) 0) : v = prodL ns := by
  match ns, hl with
  | [x], _ => simpa [prodL] using h
theorem pc_two {a b c : Int} {n : Nat} {ns : List Int} (ha : a = prodL (ns.take n)) (hb : b = prodL (ns.drop n)) (hc : c = a * b) : c = prodL ns := by
  rw [hc, ha, hb, ← prodL_append, List.take_append_drop]
def PcPre (w : World) (k : Nat) : Prop := ∀ (l : Addr) (vs : List Value) (ns : List Int) (wd : Int) (t : Tok), ns.length ≤ k → Call w 74 (6 + k) (48 + 16 * k) [.ref l, .int wd t, .ref 135]
    (fun h => h.IsList l vs.toArray ∧ IntsAre vs ns ∧ (∀ x ∈ ns, 0 ≤ x ∧ x < 256) ∧ k < 100 ∧ 4 ≤ wd ∧ wd ≤ 8)
    (fun s Q => RetL s (fun r => val (2 ^ wd.toNat) r = prodL ns ∧ Limbs (2 ^ wd.toNat) r ∧ r.length ≤ 1 + 2 * ns.length ∧ (1 ≤ ns.length → r.length ≤ 2 * ns.length)) Q)
theorem pc_step (w : World) (k : Nat) (IH : ∀ j, j < k → PcPre w j) : PcPre w k := by
  intro l vs ns wd t hlen
  unfold Call
  k_fill
  intro mean mg mb edp eun egd ecn ecs ea eccd ecl eouter eA₀ ebase eh₀ eL em s Q E KB0 KF0 KX0 KT0 hk hdp hun hpre hret
  refine wpAny_call ?_
  k_dflt (refine' code_defG (news := []) (binds := [(Str.ofString "some", .ref l), (Str.ofString "w", .int wd t), (Str.ofString "mul", .ref 135)]) ?k1 ?k2 ?k3 ?k4 ?k5 ?kA ?kF ?kK ?k6 ?k7 ?k8 ?k9 ?kB ?_ ?c2 ?c3 ?c4 ?c5; (case kA => exact rfl); (case kF => exact rfl); (case kK => assumption); (case k1 => k_asm); (case k2 => k_asm); (case k3 => k_asm); (case k4 => exact News.nil); (case k5 => k_asm); (case k6 => k_is); (case k7 => k_is); (case k8 => ktr_room); (case k9 => exact BindsTo.of_eq rfl); (case c5 => decide); (case kB => exact locs rfl); (case c2 => exact rfl); (case c3 => exact rfl); (case c4 => exact rfl); k_whole; intro g' L' h' FG' F' N' B' X' T' G'; (try dsimp only); (try k_fold))
  obtain ⟨hl, hi, hns, hk100, hw0, hw1⟩ := hpre
  have hb := base_gt hw0 hw1
  have hl' : g'.IsList l vs.toArray := hl.at fun o e => gsub_up G' _ _ e
  have hf : (ns.length : Int).fdiv 2 = (ns.length : Int) / 2 := Int.fdiv_eq_ediv_of_nonneg _ (by decide)
  have hf0 : 0 ≤ (ns.length : Int).fdiv 2 := by omega
  k_with "call ref" => (k_here; (with_reducible show wpAny _ _ (PySem.call (Value.ref 135) _) _ _ _); k_dflt (refine' mul_call w _ _ _ _ _ _ _ _ _ _ _ _ _ _ _ _ _ _ _ _ _ _ _ _ _ _ _ _ ?c1 ?c2 ?c3 ?c4 ?c5 ?c6 ?c7 ?c8 (RetL.use ?cF ?cN ?_); (case c1 => k_asm); (case c2 => k_asm); (case c3 => k_asm); (case c4 => k_asm); (case c5 => first | exact rfl | assumption); (case c8 => (refine ⟨news_list (by assumption) (by kst_entry), by assumption, news_list (by assumption) (by kst_entry), by assumption, ?_, ?_, hw0, hw1, ?_, ?_⟩ <;> first | assumption | omega));  (case c6 => ktr_room); (case c7 => ktr_units); (case cF => k_asm); (case cN => k_asm)); rintro r9 vs9 n9 ns9 h9 tk9 F9 N9 o9 i9 ⟨P9a, P9b, P9c⟩; (try dsimp only); (try k_fold))
  k_with "call ref" => (k_here; (with_reducible show wpAny _ _ (PySem.call (Value.ref 53) _) _ _ _); k_dflt (refine' nat_of_call w _ _ _ _ _ _ _ _ _ _ _ _ _ _ _ _ _ _ _ _ _ _ _ _ ?c1 ?c2 ?c3 ?c4 ?c5 ?c6 ?c7 ?c8 (RetL.use ?cF ?cN ?_); (case c1 => k_asm); (case c2 => k_asm); (case c3 => k_asm); (case c4 => k_asm); (case c5 => first | exact rfl | assumption); (case c8 => exact ⟨(pc_head hns (by omega)).1, (pc_head hns (by omega)).2, hw0, hw1⟩);  (case c6 => ktr_room); (case c7 => ktr_units); (case cF => k_asm); (case cN => k_asm)); rintro r9 vs9 n9 ns9 h9 tk9 F9 N9 o9 i9 ⟨P9a, P9b, P9c⟩; (try dsimp only); (try k_fold))
  k_with "call ref" => (k_here; (with_reducible show wpAny _ _ (PySem.call (Value.ref 74) _) _ _ _); k_dflt (refine' (IH (k - 1) (by omega)) _ _ _ _ _ ?hlen _ _ _ _ _ _ _ _ _ _ _ _ _ _ _ _ _ _ _ _ ?c1 ?c2 ?c3 ?c4 ?c5 ?c6 ?c7 ?c8 (RetL.use ?cF ?cN ?_); (case c1 => k_asm); (case c2 => k_asm); (case c3 => k_asm); (case c4 => k_asm); (case c5 => first | exact rfl | assumption); (case c8 => (refine ⟨news_list (by assumption) (by kst_entry), by assumption, ?_, by omega, hw0, hw1⟩; first | exact fun x hx => hns x (List.mem_of_mem_take hx) | exact fun x hx => hns x (List.mem_of_mem_drop hx))); (case hlen => (first | (rw [List.length_take]; omega) | (rw [List.length_drop]; omega))); (case c6 => ktr_room); (case c7 => ktr_units); (case cF => k_asm); (case cN => k_asm)); rintro r9 vs9 n9 ns9 h9 tk9 F9 N9 o9 i9 ⟨P9a, P9b, P9c, P9d⟩; (try dsimp only); (try k_fold))
  k_steps
  · have e : ns = [] := List.length_eq_zero_iff.mp (by omega)
    subst e
    exact RetL.of hret G' (by assumption) (by assumption) (by kst_entry) (.cons _ _ .nil) ⟨by simp [val, prodL], by intro x hx; rw [List.mem_singleton.mp hx]; omega, by simp, by simp⟩
  · exact RetL.of hret G' (by assumption) (by assumption) (by kst_entry) (by assumption) ⟨pc_one (by omega) (by assumption), by assumption, by omega, by omega⟩
  · exact RetL.of hret G' (by assumption) (by assumption) (by kst_entry) (by assumption) ⟨pc_two (by assumption) (by assumption) (by assumption), by assumption, by omega, by omega⟩
theorem prodc_all (w : World) : ∀ k, PcPre w k := fun k => Nat.strongRecOn k (pc_step w)
theorem fresh_N6 : True := by
  k_with_none
  w_top off
  trivial
def prodP : List (Int × Int) → Int
  | [] => 1
  | p :: r => p.1 ^ p.2.toNat * prodP r
theorem prodP_append (xs ys : List (Int × Int)) : prodP (xs ++ ys) = prodP xs * prodP ys := by
  induction xs with
  | nil => simp [prodP]
  | cons x r ih => simp only [List.cons_append, prodP, ih, Int.mul_assoc]
theorem pp_two {a b c : Int} {n : Nat} {ns : List (Int × Int)} (ha : a = prodP (ns.take n)) (hb : b = prodP (ns.drop n)) (hc : c = a * b) : c = prodP ns := by
  rw [hc, ha, hb, ← prodP_append, List.take_append_drop]
def PpPre (w : World) (k : Nat) : Prop := ∀ (l : Addr) (vs : List Value) (ps : List (Int × Int)) (wd : Int) (t : Tok), ps.length ≤ k → Call w 88 (10 + k) (80 + 16 * k) [.ref l, .int wd t, .ref 135]
    (fun h => h.IsList l vs.toArray ∧ PairsAre h vs ps ∧ (∀ p ∈ ps, 0 ≤ p.1 ∧ p.1 < 256 ∧ 0 ≤ p.2 ∧ p.2 < 100) ∧ k < 100 ∧ 4 ≤ wd ∧ wd ≤ 8)
    (fun s Q => RetL s (fun r => val (2 ^ wd.toNat) r = prodP ps ∧ Limbs (2 ^ wd.toNat) r ∧ r.length ≤ 1 + 201 * ps.length ∧ (1 ≤ ps.length → r.length ≤ 201 * ps.length)) Q)
theorem pp_one (w : World) (k : Nat) (l : Addr) (v : Value) (p : Int × Int) (wd : Int) (t : Tok) : Call w 88 (10 + k) (80 + 16 * k) [.ref l, .int wd t, .ref 135]
    (fun h => h.IsList l [v].toArray ∧ PairsAre h [v] [p] ∧ (0 ≤ p.1 ∧ p.1 < 256 ∧ 0 ≤ p.2 ∧ p.2 < 100) ∧ 4 ≤ wd ∧ wd ≤ 8)
    (fun s Q => RetL s (fun r => val (2 ^ wd.toNat) r = p.1 ^ p.2.toNat ∧ Limbs (2 ^ wd.toNat) r ∧ r.length ≤ 199) Q) := by
  unfold Call
  k_fill
  intro mean mg mb edp eun egd ecn ecs ea eccd ecl eouter eA₀ ebase eh₀ eL em s Q E KB0 KF0 KX0 KT0 hk hdp hun hpre hret
  refine wpAny_call ?_
  k_dflt (refine' code_defG (news := []) (binds := [(Str.ofString "pairs", .ref l), (Str.ofString "w", .int wd t), (Str.ofString "mul", .ref 135)]) ?k1 ?k2 ?k3 ?k4 ?k5 ?kA ?kF ?kK ?k6 ?k7 ?k8 ?k9 ?kB ?_ ?c2 ?c3 ?c4 ?c5; (case kA => exact rfl); (case kF => exact rfl); (case kK => assumption); (case k1 => k_asm); (case k2 => k_asm); (case k3 => k_asm); (case k4 => exact News.nil); (case k5 => k_asm); (case k6 => k_is); (case k7 => k_is); (case k8 => ktr_room); (case k9 => exact BindsTo.of_eq rfl); (case c5 => decide); (case kB => exact locs rfl); (case c2 => exact rfl); (case c3 => exact rfl); (case c4 => exact rfl); k_whole; intro g' L' h' FG' F' N' B' X' T' G'; (try dsimp only); (try k_fold))
  obtain ⟨hl, hi, ⟨hp1, hp2, hp3, hp4⟩, hw0, hw1⟩ := hpre
  have hb := base_gt hw0 hw1
  have hl' : g'.IsList l [v].toArray := hl.at fun o e => gsub_up G' _ _ e
  have hi' := hi.mono (gsub_up G')
  cases hi' with
  | @cons T u1 u2 _ _ _ hT _ =>
    have hsz : ((#[Value.ref T] : Array Value).size : Int) = 1 := rfl
    k_with "call ref" => (k_here; (with_reducible show wpAny _ _ (PySem.call (Value.ref 81) _) _ _ _); k_dflt (refine' power_call w _ _ _ _ _ _ _ _ _ _ _ _ _ _ _ _ _ _ _ _ _ _ _ _ _ _ ?c1 ?c2 ?c3 ?c4 ?c5 ?c6 ?c7 ?c8 (RetL.use ?cF ?cN ?_); (case c1 => k_asm); (case c2 => k_asm); (case c3 => k_asm); (case c4 => k_asm); (case c5 => first | exact rfl | assumption); (case c8 => exact ⟨hp1, hp2, hp3, by omega, hw0, hw1⟩);  (case c6 => ktr_room); (case c7 => ktr_units); (case cF => k_asm); (case cN => k_asm)); rintro r9 vs9 n9 ns9 h9 tk9 F9 N9 o9 i9 ⟨P9a, P9b, P9c⟩; (try dsimp only); (try k_fold))
    k_steps
    all_goals try (exfalso; omega)
    exact RetL.of hret G' (by assumption) (by assumption) (by kst_entry) (by assumption) ⟨by assumption, by assumption, by omega⟩
theorem pp_nil (w : World) (k : Nat) (l : Addr) (wd : Int) (t : Tok) : Call w 88 (10 + k) (80 + 16 * k) [.ref l, .int wd t, .ref 135]
    (fun h => h.IsList l (List.toArray []) ∧ 4 ≤ wd ∧ wd ≤ 8)
    (fun s Q => RetL s (fun r => val (2 ^ wd.toNat) r = 1 ∧ Limbs (2 ^ wd.toNat) r ∧ r.length ≤ 1) Q) := by
  unfold Call
  k_fill
  intro mean mg mb edp eun egd ecn ecs ea eccd ecl eouter eA₀ ebase eh₀ eL em s Q E KB0 KF0 KX0 KT0 hk hdp hun hpre hret
  refine wpAny_call ?_
  k_dflt (refine' code_defG (news := []) (binds := [(Str.ofString "pairs", .ref l), (Str.ofString "w", .int wd t), (Str.ofString "mul", .ref 135)]) ?k1 ?k2 ?k3 ?k4 ?k5 ?kA ?kF ?kK ?k6 ?k7 ?k8 ?k9 ?kB ?_ ?c2 ?c3 ?c4 ?c5; (case kA => exact rfl); (case kF => exact rfl); (case kK => assumption); (case k1 => k_asm); (case k2 => k_asm); (case k3 => k_asm); (case k4 => exact News.nil); (case k5 => k_asm); (case k6 => k_is); (case k7 => k_is); (case k8 => ktr_room); (case k9 => exact BindsTo.of_eq rfl); (case c5 => decide); (case kB => exact locs rfl); (case c2 => exact rfl); (case c3 => exact rfl); (case c4 => exact rfl); k_whole; intro g' L' h' FG' F' N' B' X' T' G'; (try dsimp only); (try k_fold))
  obtain ⟨hl, hw0, hw1⟩ := hpre
  have hb := base_gt hw0 hw1
  have hl' : g'.IsList l (List.toArray []) := hl.at fun o e => gsub_up G' _ _ e
  have hsz : ((#[] : Array Value).size : Int) = 0 := rfl
  k_steps
  exact RetL.of hret G' (by assumption) (by assumption) (by kst_entry) (.cons _ _ .nil) ⟨by simp [val], by intro x hx; rw [List.mem_singleton.mp hx]; omega, by simp⟩
theorem pp_more (w : World) (k : Nat) (IH : ∀ j, j < k → PpPre w j) (l : Addr) (vs : List Value) (ps : List (Int × Int)) (wd : Int) (t : Tok) (hlen : ps.length ≤ k) (h2 : 2 ≤ ps.length) : Call w 88 (10 + k) (80 + 16 * k) [.ref l, .int wd t, .ref 135]
    (fun h => h.IsList l vs.toArray ∧ PairsAre h vs ps ∧ (∀ p ∈ ps, 0 ≤ p.1 ∧ p.1 < 256 ∧ 0 ≤ p.2 ∧ p.2 < 100) ∧ k < 100 ∧ 4 ≤ wd ∧ wd ≤ 8)
    (fun s Q => RetL s (fun r => val (2 ^ wd.toNat) r = prodP ps ∧ Limbs (2 ^ wd.toNat) r ∧ r.length ≤ 201 * ps.length) Q) := by
  unfold Call
  k_fill
  intro mean mg mb edp eun egd ecn ecs ea eccd ecl eouter eA₀ ebase eh₀ eL em s Q E KB0 KF0 KX0 KT0 hk hdp hun hpre hret
  refine wpAny_call ?_
  k_dflt (refine' code_defG (news := []) (binds := [(Str.ofString "pairs", .ref l), (Str.ofString "w", .int wd t), (Str.ofString "mul", .ref 135)]) ?k1 ?k2 ?k3 ?k4 ?k5 ?kA ?kF ?kK ?k6 ?k7 ?k8 ?k9 ?kB ?_ ?c2 ?c3 ?c4 ?c5; (case kA => exact rfl); (case kF => exact rfl); (case kK => assumption); (case k1 => k_asm); (case k2 => k_asm); (case k3 => k_asm); (case k4 => exact News.nil); (case k5 => k_asm); (case k6 => k_is); (case k7 => k_is); (case k8 => ktr_room); (case k9 => exact BindsTo.of_eq rfl); (case c5 => decide); (case kB => exact locs rfl); (case c2 => exact rfl); (case c3 => exact rfl); (case c4 => exact rfl); k_whole; intro g' L' h' FG' F' N' B' X' T' G'; (try dsimp only); (try k_fold))
  obtain ⟨hl, hi, hps, hk100, hw0, hw1⟩ := hpre
  have hb := base_gt hw0 hw1
  have hl' : g'.IsList l vs.toArray := hl.at fun o e => gsub_up G' _ _ e
  have hi' := hi.mono (gsub_up G')
  have hvl := hi.length
  have hsz : (vs.toArray.size : Int) = ps.length := by rw [List.size_toArray, hvl]
  have hf : (vs.toArray.size : Int).fdiv 2 = (vs.toArray.size : Int) / 2 := Int.fdiv_eq_ediv_of_nonneg _ (by decide)
  have hf0 : 0 ≤ (vs.toArray.size : Int).fdiv 2 := by omega
  have hsl : vs.length ≤ sizeLine := by rw [sizeLine_eq]; omega
  have e1 : (List.take (Int.fdiv (vs.toArray.size : Int) 2).toNat ps).length = min (Int.fdiv (vs.toArray.size : Int) 2).toNat ps.length := List.length_take
  have e2 : (List.drop (Int.fdiv (vs.toArray.size : Int) 2).toNat ps).length = ps.length - (Int.fdiv (vs.toArray.size : Int) 2).toNat := List.length_drop
  k_with "subscriptTail Name Slice ref ref" => (k_here; k_dflt (refine' sl_upto ?F ?N ?l hf0 ?_ ?s ?t hsl; (case F => k_asm); (case N => k_asm); (case l => exact Heap.IsList.at hl' fun o e => Fr.keep (by assumption) _ _ e); (case s => with_unfolding_all rfl); (case t => intro _; with_unfolding_all rfl); k_whole); intro D' h' F' N' l1; (try k_lt l1); (try k_sweep))
  k_with "subscriptTail Name Slice ref ref" => (k_here; k_dflt (refine' sl_from ?F ?N ?l hf0 ?_ ?s ?t hsl; (case F => k_asm); (case N => k_asm); (case l => exact Heap.IsList.at hl' fun o e => Fr.keep (by assumption) _ _ e); (case s => with_unfolding_all rfl); (case t => intro _; with_unfolding_all rfl); k_whole); intro D' h' F' N' l1; (try k_lt l1); (try k_sweep))
  k_with "call ref" => (k_here; (with_reducible show wpAny _ _ (PySem.call (Value.ref 135) _) _ _ _); k_dflt (refine' mul_call w _ _ _ _ _ _ _ _ _ _ _ _ _ _ _ _ _ _ _ _ _ _ _ _ _ _ _ _ ?c1 ?c2 ?c3 ?c4 ?c5 ?c6 ?c7 ?c8 (RetL.use ?cF ?cN ?_); (case c1 => k_asm); (case c2 => k_asm); (case c3 => k_asm); (case c4 => k_asm); (case c5 => first | exact rfl | assumption); (case c8 => (refine ⟨news_list (by assumption) (by kst_entry), by assumption, news_list (by assumption) (by kst_entry), by assumption, ?_, ?_, hw0, hw1, ?_, ?_⟩ <;> first | assumption | omega));  (case c6 => ktr_room); (case c7 => ktr_units); (case cF => k_asm); (case cN => k_asm)); rintro r9 vs9 n9 ns9 h9 tk9 F9 N9 o9 i9 ⟨P9a, P9b, P9c⟩; (try dsimp only); (try k_fold))
  k_with "call ref" => (k_here; (with_reducible show wpAny _ _ (PySem.call (Value.ref 88) _) _ _ _); k_dflt (refine' (IH (k - 1) (by omega)) _ _ _ _ _ ?hlen _ _ _ _ _ _ _ _ _ _ _ _ _ _ _ _ _ _ _ _ ?c1 ?c2 ?c3 ?c4 ?c5 ?c6 ?c7 ?c8 (RetL.use ?cF ?cN ?_); (case c1 => k_asm); (case c2 => k_asm); (case c3 => k_asm); (case c4 => k_asm); (case c5 => first | exact rfl | assumption); (case c8 => (refine ⟨news_list (by assumption) (by kst_entry), ?pp, ?qq, by omega, hw0, hw1⟩; (case pp => first | exact (hi'.take _).mono (Fr.keep (by assumption)) | exact (hi'.drop _).mono (Fr.keep (by assumption))); (case qq => first | exact fun x hx => hps x (List.mem_of_mem_take hx) | exact fun x hx => hps x (List.mem_of_mem_drop hx)))); (case hlen => (first | (rw [List.length_take]; omega) | (rw [List.length_drop]; omega))); (case c6 => ktr_room); (case c7 => ktr_units); (case cF => k_asm); (case cN => k_asm)); rintro r9 vs9 n9 ns9 h9 tk9 F9 N9 o9 i9 ⟨P9a, P9b, P9c, P9d⟩; (try dsimp only); (try k_fold))
  k_steps
  all_goals try (exfalso; omega)
  exact RetL.of hret G' (by assumption) (by assumption) (by kst_entry) (by assumption) ⟨pp_two (by assumption) (by assumption) (by assumption), by assumption, by omega⟩
theorem pp_step (w : World) (k : Nat) (IH : ∀ j, j < k → PpPre w j) : PpPre w k := by
  intro l vs ps wd t hlen mean mg mb edp eun egd ecn ecs ea eccd ecl eouter eA₀ ebase eh₀ eL em s Q E c1 c2 c3 c4 c5 c6 c7 hpre hret
  obtain ⟨hl, hi, hps, hk100, hw0, hw1⟩ := hpre
  have hil := hi.length
  match ps, vs, hi, hil with
  | [], [], hi, _ => exact pp_nil w k l wd t mean mg mb edp eun egd ecn ecs ea eccd ecl eouter eA₀ ebase eh₀ eL em s Q E c1 c2 c3 c4 c5 c6 c7 ⟨hl, hw0, hw1⟩ (fun r vs n ns h' tk' a b c d e => hret r vs n ns h' tk' a b c d ⟨by rw [e.1]; rfl, e.2.1, by simp; exact e.2.2, by simp⟩)
  | [p], [v], hi, _ => exact pp_one w k l v p wd t mean mg mb edp eun egd ecn ecs ea eccd ecl eouter eA₀ ebase eh₀ eL em s Q E c1 c2 c3 c4 c5 c6 c7 ⟨hl, hi, hps p (by simp), hw0, hw1⟩ (fun r vs n ns h' tk' a b c d e => hret r vs n ns h' tk' a b c d ⟨by rw [e.1]; simp [prodP], e.2.1, by have := e.2.2; simp; omega, by have := e.2.2; simp; omega⟩)
  | p :: q :: ps, u :: v :: vs, hi, _ => exact pp_more w k IH l _ _ wd t hlen (by simp) mean mg mb edp eun egd ecn ecs ea eccd ecl eouter eA₀ ebase eh₀ eL em s Q E c1 c2 c3 c4 c5 c6 c7 ⟨hl, hi, hps, hk100, hw0, hw1⟩ (fun r vs n ns h' tk' a b c d e => hret r vs n ns h' tk' a b c d ⟨e.1, e.2.1, by have := e.2.2; omega, fun _ => e.2.2⟩)
theorem pp_all (w : World) : ∀ k, PpPre w k := fun k => Nat.strongRecOn k (pp_step w)
theorem fresh_N7 : True := by
  k_with_none
  w_top off
  trivial
def swE (p : Int) : Nat → Int → Int
  | 0, _ => 0
  | f + 1, r => if 0 < r then r % 2 + swE p f (r / p) else 0
def fxE (p : Int) : Nat → Int → Int
  | 0, _ => 0
  | f + 1, r => if 0 < r then r / p + fxE p f (r / p) else 0
def SwI (p T : Int) (found rest : Int) : Prop := 0 ≤ rest ∧ 0 ≤ found ∧ found + rest ≤ 40 ∧ ∃ f : Nat, found + swE p f rest = T ∧ rest ≤ f
def FxI (p T : Int) (found rest : Int) : Prop := 0 ≤ rest ∧ 0 ≤ found ∧ found + rest ≤ 40 ∧ ∃ f : Nat, found + fxE p f rest = T ∧ rest ≤ f
theorem div_lt {p r : Int} (hp : 2 ≤ p) (hr : 0 < r) : 0 ≤ r / p ∧ r / p + r / p ≤ r := by
  have h1 := Int.ediv_nonneg (show 0 ≤ r by omega) (show 0 ≤ p by omega)
  have h2 := Int.mul_ediv_self_le (x := r) (k := p) (by omega)
  have h3 : 2 * (r / p) ≤ p * (r / p) := Int.mul_le_mul_of_nonneg_right hp h1
  omega
theorem sw_next {p T found rest : Int} (hp : 2 ≤ p) (hr : 0 < rest) (h : SwI p T found rest) : SwI p T (found + rest.fmod 2) (rest.fdiv p) := by
  obtain ⟨h0, h1, h2, f, h3, h4⟩ := h
  rw [Int.fdiv_eq_ediv_of_nonneg _ (by omega), Int.fmod_eq_emod_of_nonneg _ (by decide)]
  have hd := div_lt hp hr
  cases f with
  | zero => omega
  | succ f =>
    simp only [swE, if_pos hr] at h3
    exact ⟨hd.1, by omega, by omega, f, by omega, by omega⟩
theorem fx_next {p T found rest : Int} (hp : 2 ≤ p) (hr : 0 < rest) (h : FxI p T found rest) : FxI p T (found + rest.fdiv p) (rest.fdiv p) := by
  obtain ⟨h0, h1, h2, f, h3, h4⟩ := h
  rw [Int.fdiv_eq_ediv_of_nonneg _ (by omega)]
  have hd := div_lt hp hr
  cases f with
  | zero => omega
  | succ f =>
    simp only [fxE, if_pos hr] at h3
    exact ⟨hd.1, by omega, by omega, f, by omega, by omega⟩
theorem sw_done {p T found rest : Int} (hr : ¬ 0 < rest) (h : SwI p T found rest) : found = T := by
  obtain ⟨h0, h1, h2, f, h3, h4⟩ := h
  cases f with
  | zero => simp [swE] at h3; omega
  | succ f => simp [swE, hr] at h3; omega
theorem fx_done {p T found rest : Int} (hr : ¬ 0 < rest) (h : FxI p T found rest) : found = T := by
  obtain ⟨h0, h1, h2, f, h3, h4⟩ := h
  cases f with
  | zero => simp [fxE] at h3; omega
  | succ f => simp [fxE, hr] at h3; omega
theorem fdiv_less {p r : Int} (hp : 2 ≤ p) (hr : 0 < r) : (r.fdiv p).toNat < r.toNat := by
  rw [Int.fdiv_eq_ediv_of_nonneg _ (by omega)]
  have := div_lt hp hr
  omega
theorem sw_start {p n : Int} (hp : 2 ≤ p) (h0 : 0 ≤ n) (h1 : n ≤ 32) : SwI p (swE p 32 (n / p)) 0 (n.fdiv p) := by
  rw [Int.fdiv_eq_ediv_of_nonneg _ (by omega)]
  have h2 := Int.ediv_nonneg h0 (show 0 ≤ p by omega)
  have h3 : n / p ≤ n := Int.ediv_le_self _ h0
  exact ⟨h2, by omega, by omega, 32, by omega, by omega⟩
theorem swexp_call (w : World) (n p : Int) (t1 t2 : Tok) : Call w 95 4 32 [.int n t1, .int p t2] (fun h => 0 ≤ n ∧ n ≤ 32 ∧ 2 ≤ p ∧ p ≤ 1000)
    (fun s Q => RetV s (fun v => ∃ t, v = .int (swE p 32 (n / p)) t) Q) := by
  unfold Call
  k_fill
  intro mean mg mb edp eun egd ecn ecs ea eccd ecl eouter eA₀ ebase eh₀ eL em s Q E KB0 KF0 KX0 KT0 hk hdp hun hpre hret
  refine wpAny_call ?_
  k_dflt (refine' code_defG (news := []) (binds := [(Str.ofString "n", .int n t1), (Str.ofString "prime", .int p t2)]) ?k1 ?k2 ?k3 ?k4 ?k5 ?kA ?kF ?kK ?k6 ?k7 ?k8 ?k9 ?kB ?_ ?c2 ?c3 ?c4 ?c5; (case kA => exact rfl); (case kF => exact rfl); (case kK => assumption); (case k1 => k_asm); (case k2 => k_asm); (case k3 => k_asm); (case k4 => exact News.nil); (case k5 => k_asm); (case k6 => k_is); (case k7 => k_is); (case k8 => ktr_room); (case k9 => exact BindsTo.of_eq rfl); (case c5 => decide); (case kB => exact locs rfl); (case c2 => exact rfl); (case c3 => exact rfl); (case c4 => exact rfl); k_whole; intro g' L' h' FG' F' N' B' X' T' G'; (try dsimp only); (try k_fold))
  obtain ⟨hn0, hn1, hp0, hp1⟩ := hpre
  have hp2 : p ≠ 0 := by omega
  k_with "exec While" => refine Stop.out ?_
  k_with "KswEnd" => refine Stop.out ?_
  k_steps
  unfold Stop
  rename Fr _ _ _ _ => F1
  rename News _ _ _ _ => N1
  refine' ksw_while (σ := Int × Nat × Int × Nat) (fun c => []) (fun c => [(Str.ofString "found", .int c.1 c.2.1), (Str.ofString "rest", .int c.2.2.1 c.2.2.2)]) (fun c => True) [] 
    (fun c => SwI p (swE p 32 (n / p)) c.1 c.2.2.1) (fun c => c.2.2.1.toNat) (0, ?a1, n.fdiv p, ?a2) F1 News.nil trivial ?k1 (sw_start hp0 hn0 hn1) ?_
  case k1 => kst_all
  rintro ⟨k, t3, r, t4⟩ u h tk2 _ hP F2 N2
  dsimp only at hP F2 N2
  simp only [kstB, List.contains_nil, Bool.false_eq_true, if_false] at F2
  have hP2 := hP
  obtain ⟨q0, q1, q2, _⟩ := hP2
  k_steps
  all_goals try unfold Stop
  · refine' ksw_end ⟨_, _, _, _⟩ (by assumption) News.nil ?hn trivial ?hk ?hr ?hp ?hm
    case hk => kst_all
    case hn => kst_in
    case hr => ksw_same
    case hp => exact sw_next hp0 (by assumption) hP
    case hm => exact fdiv_less hp0 (by assumption)
  · exact RetV.of hret G' (by assumption) ⟨_, by rw [sw_done (by assumption) hP]⟩
theorem fx_start {p n : Int} (h0 : 0 ≤ n) (h1 : n ≤ 32) : FxI p (fxE p 32 n) 0 n := ⟨h0, by omega, by omega, 32, by omega, by omega⟩
theorem fexp_call (w : World) (n p : Int) (t1 t2 : Tok) : Call w 121 4 32 [.int n t1, .int p t2] (fun h => 0 ≤ n ∧ n ≤ 32 ∧ 2 ≤ p ∧ p ≤ 1000)
    (fun s Q => RetV s (fun v => ∃ t, v = .int (fxE p 32 n) t) Q) := by
  unfold Call
  k_fill
  intro mean mg mb edp eun egd ecn ecs ea eccd ecl eouter eA₀ ebase eh₀ eL em s Q E KB0 KF0 KX0 KT0 hk hdp hun hpre hret
  refine wpAny_call ?_
  k_dflt (refine' code_defG (news := []) (binds := [(Str.ofString "n", .int n t1), (Str.ofString "prime", .int p t2)]) ?k1 ?k2 ?k3 ?k4 ?k5 ?kA ?kF ?kK ?k6 ?k7 ?k8 ?k9 ?kB ?_ ?c2 ?c3 ?c4 ?c5; (case kA => exact rfl); (case kF => exact rfl); (case kK => assumption); (case k1 => k_asm); (case k2 => k_asm); (case k3 => k_asm); (case k4 => exact News.nil); (case k5 => k_asm); (case k6 => k_is); (case k7 => k_is); (case k8 => ktr_room); (case k9 => exact BindsTo.of_eq rfl); (case c5 => decide); (case kB => exact locs rfl); (case c2 => exact rfl); (case c3 => exact rfl); (case c4 => exact rfl); k_whole; intro g' L' h' FG' F' N' B' X' T' G'; (try dsimp only); (try k_fold))
  obtain ⟨hn0, hn1, hp0, hp1⟩ := hpre
  have hp2 : p ≠ 0 := by omega
  k_with "exec While" => refine Stop.out ?_
  k_with "KswEnd" => refine Stop.out ?_
  k_steps
  unfold Stop
  rename Fr _ _ _ _ => F1
  rename News _ _ _ _ => N1
  refine' ksw_while (σ := Int × Nat × Int × Nat) (fun c => []) (fun c => [(Str.ofString "found", .int c.1 c.2.1), (Str.ofString "n", .int c.2.2.1 c.2.2.2)]) (fun c => True) [] 
    (fun c => FxI p (fxE p 32 n) c.1 c.2.2.1) (fun c => c.2.2.1.toNat) (0, ?a1, n, ?a2) F1 News.nil trivial ?k1 (fx_start hn0 hn1) ?_
  case k1 => kst_all
  rintro ⟨k, t3, r, t4⟩ u h tk2 _ hP F2 N2
  dsimp only at hP F2 N2
  simp only [kstB, List.contains_nil, Bool.false_eq_true, if_false] at F2
  have hP2 := hP
  obtain ⟨q0, q1, q2, _⟩ := hP2
  k_steps
  all_goals try unfold Stop
  · refine' ksw_end ⟨_, _, _, _⟩ (by assumption) News.nil ?hn trivial ?hk ?hr ?hp ?hm
    case hk => kst_all
    case hn => kst_in
    case hr => ksw_same
    case hp => exact fx_next hp0 (by assumption) hP
    case hm => exact fdiv_less hp0 (by assumption)
  · exact RetV.of hret G' (by assumption) ⟨_, by rw [fx_done (by assumption) hP]⟩
theorem fresh_N8 : True := by
  k_with_none
  w_top off
  trivial
def markB (one : Int) : Nat → List Bool → List Bool
  | 0, L => L
  | j + 1, L => (markB one j L).set (one * one + (j : Int) * one).toNat false
def sivStep (n one : Int) (c : List Bool × List Int) : List Bool × List Int :=
  if c.1.getD one.toNat false = true then (markB one (Builtin.Range.rangeSize (one * one) (n + 1) one).toNat c.1, c.2 ++ [one]) else c
def siv (n : Int) : Nat → List Bool × List Int
  | 0 => ((List.replicate (n + 1).toNat [true]).flatten, [])
  | i + 1 => sivStep n (2 + (i : Int)) (siv n i)
def sieveL (n : Int) : List Int := (siv n (n - 1).toNat).2
theorem markB_len (one : Int) : ∀ (j : Nat) (L : List Bool), (markB one j L).length = L.length
  | 0, _ => rfl
  | j + 1, L => by rw [markB, List.length_set, markB_len one j L]
theorem siv_len (n : Int) : ∀ i, (siv n i).1.length = (n + 1).toNat
  | 0 => by rw [siv, kbo_len_rep]; simp
  | i + 1 => by
    rw [siv, sivStep]
    split
    · rw [markB_len]; exact siv_len n i
    · exact siv_len n i
theorem siv_flen (n : Int) : ∀ i, (siv n i).2.length ≤ i
  | 0 => by simp [siv]
  | i + 1 => by
    have := siv_flen n i
    rw [siv, sivStep]
    split
    · simp; omega
    · omega
theorem siv_mem (n : Int) : ∀ i, ∀ x ∈ (siv n i).2, 2 ≤ x ∧ x ≤ 1 + (i : Int)
  | 0 => by simp [siv]
  | i + 1 => by
    have ih := siv_mem n i
    rw [siv, sivStep]
    split
    · intro x hx
      rcases List.mem_append.mp hx with hx | hx
      · have := ih x hx; omega
      · rw [List.mem_singleton.mp hx]; omega
    · intro x hx
      have := ih x hx; omega
theorem sieve_place {n one : Int} {j : Nat} (h0 : 2 ≤ one) (hj : j < (Builtin.Range.rangeSize (one * one) (n + 1) one).toNat) : 0 ≤ one * one + (j : Int) * one ∧ one * one + (j : Int) * one ≤ n := by
  unfold Builtin.Range.rangeSize at hj
  rw [if_pos (by omega)] at hj
  have h1 : 0 ≤ one * one := Int.mul_nonneg (by omega) (by omega)
  have h2 : 0 ≤ (j : Int) * one := Int.mul_nonneg (by omega) (by omega)
  refine ⟨by omega, ?_⟩
  split at hj
  · have h3 : (j : Int) ≤ (n + 1 - one * one - 1) / one := by omega
    have h4 : (j : Int) * one ≤ (n + 1 - one * one - 1) / one * one := Int.mul_le_mul_of_nonneg_right h3 (by omega)
    have h5 := Int.ediv_mul_le (n + 1 - one * one - 1) (show one ≠ 0 by omega)
    omega
  · simp at hj
theorem sieve_call (w : World) (n : Int) (t : Tok) : Call w 60 4 32 [.int n t] (fun h => 0 ≤ n ∧ n ≤ 100)
    (fun s Q => RetL s (fun r => r = sieveL n) Q) := by
  unfold Call
  k_fill
  intro mean mg mb edp eun egd ecn ecs ea eccd ecl eouter eA₀ ebase eh₀ eL em s Q E KB0 KF0 KX0 KT0 hk hdp hun hpre hret
  refine wpAny_call ?_
  k_dflt (refine' code_defG (news := []) (binds := [(Str.ofString "n", .int n t)]) ?k1 ?k2 ?k3 ?k4 ?k5 ?kA ?kF ?kK ?k6 ?k7 ?k8 ?k9 ?kB ?_ ?c2 ?c3 ?c4 ?c5; (case kA => exact rfl); (case kF => exact rfl); (case kK => assumption); (case k1 => k_asm); (case k2 => k_asm); (case k3 => k_asm); (case k4 => exact News.nil); (case k5 => k_asm); (case k6 => k_is); (case k7 => k_is); (case k8 => ktr_room); (case k9 => exact BindsTo.of_eq rfl); (case c5 => decide); (case kB => exact locs rfl); (case c2 => exact rfl); (case c3 => exact rfl); (case c4 => exact rfl); k_whole; intro g' L' h' FG' F' N' B' X' T' G'; (try dsimp only); (try k_fold))
  obtain ⟨hn0, hn1⟩ := hpre
  k_with "binaryOp Mult ref int" => (k_here; k_dflt (refine' kbo_mul ?k1 ?k2 (vs := [.bool true]) ?k3 (.cons true .nil) ?k5 ?k6 ?k7 ?_; (case k1 => k_asm); (case k2 => k_asm); (case k3 => exact news_list (by assumption) (by kst_entry)); (case k5 => omega); (case k6 => omega); (case k7 => (simp only [List.length_singleton]; omega))); intro D7 h7 F7 N7 l7 hb7 N7 e1 e2 e3 e4 e5; (try k_lt l7); (try k_sweep))
  k_with "binaryOp Mult int int" => refine mul_int ?_ (mulok_small (by omega) (by omega))
  k_with "pyIter ref" => refine Stop.out ?_
  k_with "StPost" => dsimp only [StPost]
  k_with "StEnd" => refine Stop.out ?_
  k_steps
  unfold Stop
  rename Fr _ _ _ _ => F1
  rename News _ _ _ _ => N1
  rename IsRange _ _ _ _ _ _ _ _ => rg1
  rename_i f _ lf _ _ _ _ _ _ _ _ _
  have hne : D7 ≠ f := Nat.ne_of_lt (by first | exact lf | exact lf.1)
  have hrs := range_small (a := 2) (b := n + 1) (c := 1) (by omega) (by omega) (by omega) (by omega) (by omega) (by omega)
  refine range_st (σ := List Value × List Bool × Nat × List Value × List Int × Nat) (n := (n - 1).toNat) (fun c => [(f, listOf c.2.2.2.1.toArray c.2.2.2.2.2), (D7, listOf c.1.toArray c.2.2.1)]) (fun c => []) (fun c => LSm.BoolsAre c.1 c.2.1 ∧ IntsAre c.2.2.2.1 c.2.2.2.2.1) [Str.ofString "one", Str.ofString "many"]
    (fun i c => (c.2.1, c.2.2.2.2.1) = siv n i) (_, _, 0, [], [], 0) (by rfl) rg1 hrs.1 (by rw [rangeSize_nat]; omega) F1 (kst_newsOf N1 ?_) (fun _ => rfl) ⟨hb7, .nil⟩ (by kst_all) rfl ?_ ?_
  · kst_inAny
  · rintro ⟨vL, Lb, cL, vF, Fi, cF⟩ i t1 u h tk own hi hoff ⟨hf1, hf2⟩ hP F2 N2
    dsimp only at hf1 hf2 hP F2 N2
    simp only [kstB, Int.mul_one] at F2
    simp only [List.nil_append, List.cons_append] at N2
    have hP1 : Lb = (siv n i).1 := congrArg Prod.fst hP
    have hP2 : Fi = (siv n i).2 := congrArg Prod.snd hP
    have hLb : Lb.length = (n + 1).toNat := by rw [hP1, siv_len]
    have hFl : Fi.length ≤ i := by rw [hP2]; exact siv_flen n i
    have off1 : ∀ p ∈ own, p.1 ≠ f := fun p hp => hoff p hp f (by simp)
    have off2 : ∀ p ∈ own, p.1 ≠ D7 := fun p hp => hoff p hp D7 (by simp)
    have hone : 2 ≤ 2 + (i : Int) ∧ 2 + (i : Int) ≤ n := by omega
    have hst : siv n (i + 1) = sivStep n (2 + (i : Int)) (Lb, Fi) := by rw [siv, ← hP]
    generalize 2 + (i : Int) = one at *
    have hone2 : 0 ≤ one * one ∧ one * one ≤ 100 * 100 := ⟨Int.mul_nonneg (by omega) (by omega), Int.mul_le_mul (by omega) (by omega) (by omega) (by omega)⟩
    k_steps
    all_goals try unfold Stop
    · rename Fr _ _ _ _ => F3
      rename News _ _ _ _ => N3
      rename IsRange _ _ _ _ _ _ _ _ => rg3
      have hb1 : Lb.getD one.toNat false = true := by assumption
      simp only [List.push_toArray] at N3
      have hrs2 := range_small (a := one * one) (b := n + 1) (c := one) (by omega) (by omega) (by omega) (by omega) (by omega) (by omega)
      refine range_st (σ := List Value × List Bool × Nat) (n := (Builtin.Range.rangeSize (one * one) (n + 1) one).toNat) (fun c => (f, listOf (vF ++ [Value.int one t1]).toArray (cF + 1)) :: (D7, listOf c.1.toArray c.2.2) :: own) (fun c => []) (fun c => LSm.BoolsAre c.1 c.2.1) [Str.ofString "many"]
        (fun j c => c.2.1 = markB one j Lb) (vL, Lb, cL) (by rfl) rg3 hrs2.1 (Int.toNat_of_nonneg hrs2.2).symm F3 N3 (fun _ => rfl) hf1 (by kst_all) rfl ?_ ?_
      · rintro ⟨vM, Mb, cM⟩ j t2 u2 h2 tk2 own2 hj hoff2 hf3 hP3 F4 N4
        dsimp only at hf3 hP3 F4 N4
        simp only [kstB] at F4
        simp only [List.nil_append, List.cons_append] at N4
        have hMb : Mb.length = (n + 1).toNat := by rw [hP3, markB_len]; exact hLb
        have hpl := sieve_place hone.1 hj
        have offs : ∀ p ∈ own ++ own2, p.1 ≠ D7 := fun p hp => (List.mem_append.mp hp).elim (off2 p) fun h => hoff2 p h D7 (by simp)
        have hjP : markB one (j + 1) Lb = Mb.set (one * one + (j : Int) * one).toNat false := by rw [markB, hP3]
        generalize one * one + (j : Int) * one = many at *
        k_with "setItem" => (k_here; k_dflt (refine' kbo_set ?k1 ?k2 ?k3 hf3 ?k5 ?k6 ?k7 ?_; (case k1 => k_asm); (case k2 => k_asm); (case k3 => exact Upd.tail (Ne.symm hne) (Upd.head offs)); (case k5 => omega); (case k6 => omega); (case k7 => omega); k_whole); intro h' F' N' hi9 hl9)
        k_steps
        unfold Stop
        rename Fr _ _ _ _ => F5
        rename News _ _ _ _ => N5
        rename LSm.BoolsAre _ _ => b5
        exact StEnd.intro ⟨_, _, _⟩ F5 N5 (by kst_in) (by intro p hp; kst_mem) b5 (by kst_all) (by ksw_same) hjP.symm
      · rintro ⟨vM, Mb, cM⟩ u2 h2 tk2 hf3 hP3 F4 N4
        dsimp only at hf3 hP3 F4 N4
        simp only [kstB] at F4
        k_steps
        unfold Stop
        exact StEnd.intro ⟨vM, Mb, cM, vF ++ [Value.int one t1], Fi ++ [one], cF + 1⟩ F4 N4 (by kst_in) (by intro p hp; kst_mem) ⟨hf3, hf2.append (.cons _ _ .nil)⟩ (by kst_all) (by ksw_same) (by show (Mb, Fi ++ [one]) = siv n (i + 1); rw [hst, sivStep, if_pos hb1, hP3])
    · have hb1 : Lb.getD one.toNat false = false := by assumption
      exact StEnd.intro ⟨vL, Lb, cL, vF, Fi, cF⟩ F2 N2 (by kst_in) (by intro p hp; kst_mem) ⟨hf1, hf2⟩ (by kst_all) (by ksw_same) (by show (Lb, Fi) = siv n (i + 1); rw [hst, sivStep, if_neg (by rw [hb1]; decide)])
  · rintro ⟨vL, Lb, cL, vF, Fi, cF⟩ u h tk ⟨hf1, hf2⟩ hP F2 N2
    dsimp only at hf1 hf2 hP F2 N2
    simp only [kstB] at F2
    k_steps
    exact RetL.of hret G' (by assumption) (by assumption) (by kst_entry) hf2 (congrArg Prod.snd hP)
theorem fresh_N9 : True := by
  k_with_none
  w_top off
  trivial
theorem sieve_facts (n : Int) (h0 : 0 ≤ n) : (sieveL n).length ≤ n.toNat ∧ ∀ x ∈ sieveL n, 2 ≤ x ∧ x ≤ n := by
  refine ⟨?_, fun x hx => ?_⟩
  · have := siv_flen n (n - 1).toNat
    unfold sieveL; omega
  · have := siv_mem n _ x hx
    by_cases h1 : 1 ≤ n
    · omega
    · exfalso
      have e : (n - 1).toNat = 0 := by omega
      rw [sieveL, e, siv] at hx
      simp at hx
theorem need_call (w : World) (n : Int) (t1 : Tok) : Call w 67 2 16 [.int n t1] (fun h => 0 ≤ n) (fun s Q => RetV s (fun v => v = .none) Q) := by
  unfold Call
  k_fill
  intro mean mg mb edp eun egd ecn ecs ea eccd ecl eouter eA₀ ebase eh₀ eL em s Q E KB0 KF0 KX0 KT0 hk hdp hun hpre hret
  refine wpAny_call ?_
  k_dflt (refine' code_defG (news := []) (binds := [(Str.ofString "n", .int n t1)]) ?k1 ?k2 ?k3 ?k4 ?k5 ?kA ?kF ?kK ?k6 ?k7 ?k8 ?k9 ?kB ?_ ?c2 ?c3 ?c4 ?c5; (case kA => exact rfl); (case kF => exact rfl); (case kK => assumption); (case k1 => k_asm); (case k2 => k_asm); (case k3 => k_asm); (case k4 => exact News.nil); (case k5 => k_asm); (case k6 => k_is); (case k7 => k_is); (case k8 => ktr_room); (case k9 => exact BindsTo.of_eq rfl); (case c5 => decide); (case kB => exact locs rfl); (case c2 => exact rfl); (case c3 => exact rfl); (case c4 => exact rfl); k_whole; intro g' L' h' FG' F' N' B' X' T' G'; (try dsimp only); (try k_fold))
  have hn0 : 0 ≤ n := hpre
  k_steps
  exact RetV.of hret G' (by assumption) rfl
theorem primorial_call (w : World) (n wd : Int) (t1 t2 : Tok) : Call w 114 60 800 [.int n t1, .int wd t2, .ref 135] (fun h => 0 ≤ n ∧ n ≤ 40 ∧ 4 ≤ wd ∧ wd ≤ 8)
    (fun s Q => RetL s (fun r => val (2 ^ wd.toNat) r = prodL (sieveL n) ∧ Limbs (2 ^ wd.toNat) r ∧ r.length ≤ 81) Q) := by
  unfold Call
  k_fill
  intro mean mg mb edp eun egd ecn ecs ea eccd ecl eouter eA₀ ebase eh₀ eL em s Q E KB0 KF0 KX0 KT0 hk hdp hun hpre hret
  refine wpAny_call ?_
  k_dflt (refine' code_defG (news := []) (binds := [(Str.ofString "n", .int n t1), (Str.ofString "w", .int wd t2), (Str.ofString "mul", .ref 135)]) ?k1 ?k2 ?k3 ?k4 ?k5 ?kA ?kF ?kK ?k6 ?k7 ?k8 ?k9 ?kB ?_ ?c2 ?c3 ?c4 ?c5; (case kA => exact rfl); (case kF => exact rfl); (case kK => assumption); (case k1 => k_asm); (case k2 => k_asm); (case k3 => k_asm); (case k4 => exact News.nil); (case k5 => k_asm); (case k6 => k_is); (case k7 => k_is); (case k8 => ktr_room); (case k9 => exact BindsTo.of_eq rfl); (case c5 => decide); (case kB => exact locs rfl); (case c2 => exact rfl); (case c3 => exact rfl); (case c4 => exact rfl); k_whole; intro g' L' h' FG' F' N' B' X' T' G'; (try dsimp only); (try k_fold))
  obtain ⟨hn0, hn1, hw0, hw1⟩ := hpre
  have hsf := sieve_facts n hn0
  k_with "call ref" => (k_here; (with_reducible show wpAny _ _ (PySem.call (Value.ref 74) _) _ _ _); k_dflt (refine' (prodc_all w 40) _ _ (sieveL n) _ _ ?hlen _ _ _ _ _ _ _ _ _ _ _ _ _ _ _ _ _ _ _ _ ?c1 ?c2 ?c3 ?c4 ?c5 ?c6 ?c7 ?c8 (RetL.use ?cF ?cN ?_); (case c1 => k_asm); (case c2 => k_asm); (case c3 => k_asm); (case c4 => k_asm); (case c5 => first | exact rfl | assumption); (case c8 => (refine ⟨news_list (by assumption) (by kst_entry), by assumption, fun x hx => ?_, by omega, hw0, hw1⟩; (have := hsf.2 x hx; omega))); (case hlen => omega); (case c6 => ktr_room); (case c7 => ktr_units); (case cF => k_asm); (case cN => k_asm)); rintro r9 vs9 n9 ns9 h9 tk9 F9 N9 o9 i9 ⟨P9a, P9b, P9c, P9d⟩; (try dsimp only); (try k_fold))
  k_with "call ref" => (k_here; (with_reducible show wpAny _ _ (PySem.call (Value.ref 67) _) _ _ _); k_dflt (refine' need_call w _ _ _ _ _ _ _ _ _ _ _ _ _ _ _ _ _ _ _ _ _ _ ?c1 ?c2 ?c3 ?c4 ?c5 ?c6 ?c7 ?c8 (RetV.use ?cF ?cN ?_); (case c1 => k_asm); (case c2 => k_asm); (case c3 => k_asm); (case c4 => k_asm); (case c5 => first | exact rfl | assumption); (case c8 => exact hn0);  (case c6 => ktr_room); (case c7 => ktr_units); (case cF => k_asm); (case cN => k_asm)); rintro v9 h9 tk9 F9 N9 rfl; (try dsimp only); (try k_fold))
  k_with "call ref" => (k_here; (with_reducible show wpAny _ _ (PySem.call (Value.ref 60) _) _ _ _); k_dflt (refine' sieve_call w n _ _ _ _ _ _ _ _ _ _ _ _ _ _ _ _ _ _ _ _ _ ?c1 ?c2 ?c3 ?c4 ?c5 ?c6 ?c7 ?c8 (RetL.use ?cF ?cN ?_); (case c1 => k_asm); (case c2 => k_asm); (case c3 => k_asm); (case c4 => k_asm); (case c5 => first | exact rfl | assumption); (case c8 => exact ⟨by omega, by omega⟩);  (case c6 => ktr_room); (case c7 => ktr_units); (case cF => k_asm); (case cN => k_asm)); rintro r9 vs9 n9 ns9 h9 tk9 F9 N9 o9 i9 rfl; (try dsimp only); (try k_fold))
  k_steps
  exact RetL.of hret G' (by assumption) (by assumption) (by kst_entry) (by assumption) ⟨by assumption, by assumption, by omega⟩
theorem fresh_N10 : True := by
  k_with_none
  w_top off
  trivial
def swPairs (n : Int) : List (Int × Int) := (sieveL n).map fun p => (p, swE p 32 (n / p))
def swingV (n : Int) : Int := prodP ((swPairs n).filter fun q => 0 < q.2)
theorem swE_bd {p : Int} (hp : 2 ≤ p) : ∀ (f : Nat) (r : Int), 0 ≤ r → 0 ≤ swE p f r ∧ swE p f r ≤ r
  | 0, r, h => by simp [swE, h]
  | f + 1, r, h => by
    rw [swE]
    split
    · rename_i hr
      have hd := div_lt hp hr
      have ih := swE_bd hp f (r / p) hd.1
      omega
    · omega
theorem sw_bounds (n : Int) (h1 : n ≤ 32) : ∀ q ∈ (swPairs n).filter fun q => decide (0 < q.2), 0 ≤ q.1 ∧ q.1 < 256 ∧ 0 ≤ q.2 ∧ q.2 < 100 := by
  intro q hq
  have hq2 := List.mem_filter.mp hq
  obtain ⟨x, hx, rfl⟩ := List.mem_map.mp hq2.1
  by_cases h0 : 0 ≤ n
  · have hb := (sieve_facts n h0).2 x hx
    have h3 := Int.ediv_nonneg h0 (show 0 ≤ x by omega)
    have h4 : n / x ≤ n := Int.ediv_le_self _ h0
    have h5 := swE_bd hb.1 32 (n / x) h3
    exact ⟨by omega, by omega, by omega, by omega⟩
  · exfalso
    have e : (n - 1).toNat = 0 := by omega
    rw [sieveL, e, siv] at hx
    simp at hx
theorem sub_four {a b c d : Addr × Obj} {r : List (Addr × Obj)} : ∀ p ∈ a :: b :: c :: d :: r, p ∈ d :: a :: b :: c :: r := by
  intro p hp
  simp only [List.mem_cons] at hp ⊢
  rcases hp with h | h | h | h | h
  · exact .inr (.inl h)
  · exact .inr (.inr (.inl h))
  · exact .inr (.inr (.inr (.inl h)))
  · exact .inl h
  · exact .inr (.inr (.inr (.inr h)))
theorem swing_call (w : World) (n wd : Int) (t1 t2 : Tok) : Call w 100 60 800 [.int n t1, .int wd t2, .ref 135] (fun h => 2 ≤ n ∧ n ≤ 32 ∧ 4 ≤ wd ∧ wd ≤ 8)
    (fun s Q => RetL s (fun r => val (2 ^ wd.toNat) r = swingV n ∧ Limbs (2 ^ wd.toNat) r ∧ r.length ≤ 7000) Q) := by
  unfold Call
  k_fill
  intro mean mg mb edp eun egd ecn ecs ea eccd ecl eouter eA₀ ebase eh₀ eL em s Q E KB0 KF0 KX0 KT0 hk hdp hun hpre hret
  refine wpAny_call ?_
  k_dflt (refine' enter_cells (binds := [(Str.ofString "n", .int n t1), (Str.ofString "w", .int wd t2), (Str.ofString "mul", .ref 135)]) ?k1 ?k2 ?k3 ?k5 ?kA ?kF ?kK ?k6 ?k7 ?k8 ?k9 ?kB ?kD ?_ ?c2 ?c3 ?c4; (case kA => exact rfl); (case kF => exact rfl); (case kK => assumption); (case k1 => k_asm); (case k2 => k_asm); (case k3 => k_asm); (case k5 => k_asm); (case k6 => k_is); (case k7 => k_is); (case k8 => ktr_room); (case k9 => exact BindsTo.of_eq rfl); (case kB => exact rfl); (case kD => decide +kernel); (case c2 => exact rfl); (case c3 => exact rfl); (case c4 => exact rfl); k_whole; intro g' L' h' tk' cells' FG' F' N' Y' B' X' T' G'; have hY := CellsAre.one Y'; obtain ⟨oc1, hE9, hd1⟩ := hY; subst hE9; clear Y'; (try simp only [List.cons_append, List.nil_append] at N'); (try dsimp only); (try k_fold))
  obtain ⟨hn0, hn1, hw0, hw1⟩ := hpre
  have hsf := sieve_facts n (by omega)
  k_with "CompSrc" => refine Stop.out ?_
  k_with "CompSrcT" => refine Stop.out ?_
  k_with "call ref" => (k_here; (with_reducible show wpAny _ _ (PySem.call (Value.ref 60) _) _ _ _); k_dflt (refine' sieve_call w n _ _ _ _ _ _ _ _ _ _ _ _ _ _ _ _ _ _ _ _ _ ?c1 ?c2 ?c3 ?c4 ?c5 ?c6 ?c7 ?c8 (RetL.use ?cF ?cN ?_); (case c1 => k_asm); (case c2 => k_asm); (case c3 => k_asm); (case c4 => k_asm); (case c5 => first | exact rfl | assumption); (case c8 => exact ⟨by omega, by omega⟩);  (case c6 => ktr_room); (case c7 => ktr_units); (case cF => k_asm); (case cN => k_asm)); rintro r9 vs9 n9 ns9 h9 tk9 F9 N9 o9 i9 P9; (try dsimp only); (try k_fold))
  k_with "call ref" => (k_here; (with_reducible show wpAny _ _ (PySem.call (Value.ref 95) _) _ _ _); k_dflt (refine' swexp_call w _ _ _ _ _ _ _ _ _ _ _ _ _ _ _ _ _ _ _ _ _ _ _ _ ?c1 ?c2 ?c3 ?c4 ?c5 ?c6 ?c7 ?c8 (RetV.use ?cF ?cN ?_); (case c1 => k_asm); (case c2 => k_asm); (case c3 => k_asm); (case c4 => k_asm); (case c5 => first | exact rfl | assumption); (case c8 => exact ⟨by omega, hn1, by omega, by omega⟩);  (case c6 => ktr_room); (case c7 => ktr_units); (case cF => k_asm); (case cN => k_asm)); rintro v9 h9 tk9 F9 N9 ⟨t9, rfl⟩; (try dsimp only); (try k_fold))
  k_with "CompEnd" => refine Stop.out ?_
  k_steps
  unfold Stop
  subst P9
  have hlen9 := i9.length
  refine LCg.CompSrc.ledger (by rfl) F9 N9 (List.Mem.head _) (by rw [List.size_toArray, sizeLine_eq]; omega) ?_
  intro g
  refine comp_rest (n := vs9.toArray.size) (fun i ys news => ∃ tups, news = tups ++ [(r9, listOf vs9.toArray n9), (L' + 1, oc1)] ∧ LPairs tups ys ((swPairs n).take i)) ?_ ?_ _ 0 [] _ (Nat.zero_add _) ⟨[], rfl, .nil⟩
  · rintro i ys news v I oI C oC D m₂ h tk E' hi hv ⟨tups, rfl, hL⟩ hC hx F3 N3 off ne
    obtain ⟨p, tp, rfl, hp⟩ := IntsAre.at i9 i v (by simpa using hv)
    have hmc : (L' + 1, oc1) ∈ ((I, oI) :: (C, oC) :: (D, LCg.lst ys) :: (tups ++ [(r9, listOf vs9.toArray n9), (L' + 1, oc1)])) := by simp
    k_with "eval Name" => ((with_reducible show wpAny _ _ (eval (Expr.Name (PySem.Str.ofString "n") _) _) _ _ _); k_dflt (refine kcf_cell N3 (by rfl) hmc hd1 ?_))
    have hpp := hsf.2 p (List.mem_of_getElem? hp)
    k_steps
    unfold Stop
    rename Fr _ _ _ _ => F5
    rename News _ _ _ _ => N5
    rename_i T _ lT
    have hq : (swPairs n).take (i + 1) = (swPairs n).take i ++ [(p, swE p 32 (n / p))] := by
      have : (swPairs n)[i]? = some (p, swE p 32 (n / p)) := by rw [swPairs, List.getElem?_map, hp]; rfl
      rw [List.take_add_one, this]; rfl
    refine LCg.CompEnd.intro F5 N5 ((T, _) :: (tups ++ [(r9, listOf vs9.toArray n9), (L' + 1, oc1)])) (sub_four) ⟨⟨Ne.symm (Nat.ne_of_lt lT.1), Ne.symm (Nat.ne_of_lt lT.2.1), Ne.symm (Nat.ne_of_lt lT.2.2.1)⟩, off⟩ (.inr ⟨_, List.mem_cons_of_mem _ (List.mem_append_right _ (.head _)), rfl, _, rfl⟩)
      ⟨(T, _) :: tups, rfl, ?_⟩
    rw [hq]
    exact (hL.mono fun q h => List.mem_cons_of_mem _ h).append (.cons (p := (p, swE p 32 (n / p))) (List.Mem.head _) .nil)
  · rintro ys news ⟨tups, rfl, hL⟩ D h tk F3 N3 off
    rw [List.take_of_length_le (by rw [swPairs, List.length_map, List.size_toArray]; omega)] at hL
    k_steps
    unfold Stop
    have hyl := hL.length
    rw [swPairs, List.length_map] at hyl
    refine LCt.CompSrcT.ledger (by rfl) F3 N3 (List.Mem.head _) (by rw [List.size_toArray, sizeLine_eq]; omega) ?_
    intro g2
    refine comp_restT (n := ys.toArray.size) (fun i zs news => news = (D, LCg.lst ys) :: (tups ++ [(r9, listOf vs9.toArray n9), (L' + 1, oc1)]) ∧ LPairs tups zs (((swPairs n).take i).filter fun q => 0 < q.2)) ?_ ?_ _ 0 [] _ (Nat.zero_add _) ⟨rfl, .nil⟩
    · rintro i zs news v I oI C oC D2 m₂ h2 tk2 E' hi hv ⟨rfl, hL2⟩ hC hx F4 N4 off2 ne
      obtain ⟨T, u1, u2, nn, p, rfl, hp, hmem⟩ := hL.at i (v := v) (by simpa using hv)
      have hT : IsTup h2 T #[.int p.1 u1, .int p.2 u2] := ⟨_, (N4 _ (List.mem_cons_of_mem _ (List.mem_cons_of_mem _ (List.mem_cons_of_mem _ (List.mem_cons_of_mem _ (List.mem_append_left _ hmem)))))).1, rfl, _, rfl⟩
      have hq : (swPairs n).take (i + 1) = (swPairs n).take i ++ [p] := by rw [List.take_add_one, hp]; rfl
      k_steps
      all_goals try unfold Stop
      · have hp0 : 0 < p.2 := by assumption
        refine LCg.CompEnd.intro F4 N4 _ (fun p hp => hp) off2 (.inr ⟨_, .head _, rfl, _, rfl⟩) ⟨rfl, ?_⟩
        rw [hq, List.filter_append, List.filter_cons_of_pos (by simpa using hp0), List.filter_nil]
        exact hL2.append (.cons hmem .nil)
      · have hp0 : ¬ 0 < p.2 := by assumption
        refine LCg.CompEnd.intro F4 N4 _ (fun p hp => hp) off2 (.inr ⟨_, .head _, rfl, _, rfl⟩) ⟨rfl, ?_⟩
        rw [hq, List.filter_append, List.filter_cons_of_neg (by simpa using hp0), List.filter_nil, List.append_nil]
        exact hL2
    · rintro zs news ⟨rfl, hL2⟩ D3 h3 tk3 F4 N4 off2
      rw [List.take_of_length_le (by rw [swPairs, List.length_map, List.size_toArray]; omega)] at hL2
      have hfl := List.length_filter_le (fun q : Int × Int => decide (0 < q.2)) (swPairs n)
      rw [swPairs, List.length_map, ← swPairs] at hfl
      k_with "call ref" => (k_here; (with_reducible show wpAny _ _ (PySem.call (Value.ref 88) _) _ _ _); k_dflt (refine' (pp_all w 32) _ zs ((swPairs n).filter fun q => decide (0 < q.2)) _ _ ?hlen _ _ _ _ _ _ _ _ _ _ _ _ _ _ _ _ _ _ _ _ ?c1 ?c2 ?c3 ?c4 ?c5 ?c6 ?c7 ?c8 (RetL.use ?cF ?cN ?_); (case c1 => k_asm); (case c2 => k_asm); (case c3 => k_asm); (case c4 => k_asm); (case c5 => first | exact rfl | assumption); (case c8 => exact ⟨news_list N4 (List.Mem.head _), hL2.pairs N4 (fun q h => List.mem_cons_of_mem _ (List.mem_cons_of_mem _ (List.mem_append_left _ h))), sw_bounds n hn1, by omega, hw0, hw1⟩); (case hlen => omega); (case c6 => ktr_room); (case c7 => ktr_units); (case cF => k_asm); (case cN => k_asm)); rintro r9 vs9 n9 ns9 h9 tk9 F9 N9 o9 i9 ⟨P9a, P9b, P9c, P9d⟩; (try dsimp only); (try k_fold))
      k_steps
      exact RetL.of hret G' (by assumption) (by assumption) (by kst_entry) (by assumption) ⟨by assumption, by assumption, by omega⟩
theorem fresh_N11 : True := by
  k_with_none
  w_top off
  trivial
def factV : Nat → Int → Int
  | 0, _ => 1
  | k + 1, n => if n < 2 then 1 else factV k (n / 2) * factV k (n / 2) * swingV n
def flen : Nat → Nat
  | 0 => 1
  | k + 1 => flen k + flen k + 7000
def FaPre (w : World) (k : Nat) : Prop := ∀ (n wd : Int) (t1 t2 : Tok), n < 2 ^ (k + 1) → Call w 107 (80 + k) (900 + 16 * k) [.int n t1, .int wd t2, .ref 135]
    (fun h => 0 ≤ n ∧ n ≤ 32 ∧ k ≤ 5 ∧ 4 ≤ wd ∧ wd ≤ 8)
    (fun s Q => RetL s (fun r => val (2 ^ wd.toNat) r = factV k n ∧ Limbs (2 ^ wd.toNat) r ∧ r.length ≤ flen k) Q)
theorem fa_small (w : World) (k : Nat) (n wd : Int) (t1 t2 : Tok) (hn2 : n < 2) : Call w 107 (80 + k) (900 + 16 * k) [.int n t1, .int wd t2, .ref 135]
    (fun h => 0 ≤ n ∧ 4 ≤ wd ∧ wd ≤ 8)
    (fun s Q => RetL s (fun r => val (2 ^ wd.toNat) r = 1 ∧ Limbs (2 ^ wd.toNat) r ∧ r.length ≤ 1) Q) := by
  unfold Call
  k_fill
  intro mean mg mb edp eun egd ecn ecs ea eccd ecl eouter eA₀ ebase eh₀ eL em s Q E KB0 KF0 KX0 KT0 hk hdp hun hpre hret
  refine wpAny_call ?_
  k_dflt (refine' code_defG (news := []) (binds := [(Str.ofString "n", .int n t1), (Str.ofString "w", .int wd t2), (Str.ofString "mul", .ref 135)]) ?k1 ?k2 ?k3 ?k4 ?k5 ?kA ?kF ?kK ?k6 ?k7 ?k8 ?k9 ?kB ?_ ?c2 ?c3 ?c4 ?c5; (case kA => exact rfl); (case kF => exact rfl); (case kK => assumption); (case k1 => k_asm); (case k2 => k_asm); (case k3 => k_asm); (case k4 => exact News.nil); (case k5 => k_asm); (case k6 => k_is); (case k7 => k_is); (case k8 => ktr_room); (case k9 => exact BindsTo.of_eq rfl); (case c5 => decide); (case kB => exact locs rfl); (case c2 => exact rfl); (case c3 => exact rfl); (case c4 => exact rfl); k_whole; intro g' L' h' FG' F' N' B' X' T' G'; (try dsimp only); (try k_fold))
  obtain ⟨hn0, hw0, hw1⟩ := hpre
  have hb := base_gt hw0 hw1
  k_with "call ref" => (k_here; (with_reducible show wpAny _ _ (PySem.call (Value.ref 67) _) _ _ _); k_dflt (refine' need_call w _ _ _ _ _ _ _ _ _ _ _ _ _ _ _ _ _ _ _ _ _ _ ?c1 ?c2 ?c3 ?c4 ?c5 ?c6 ?c7 ?c8 (RetV.use ?cF ?cN ?_); (case c1 => k_asm); (case c2 => k_asm); (case c3 => k_asm); (case c4 => k_asm); (case c5 => first | exact rfl | assumption); (case c8 => exact hn0);  (case c6 => ktr_room); (case c7 => ktr_units); (case cF => k_asm); (case cN => k_asm)); rintro v9 h9 tk9 F9 N9 rfl; (try dsimp only); (try k_fold))
  k_steps
  exact RetL.of hret G' (by assumption) (by assumption) (by kst_entry) (.cons _ _ .nil) ⟨by simp [val], by intro x hx; rw [List.mem_singleton.mp hx]; omega, by simp⟩
theorem fa_val {a b c d n m : Int} {k : Nat} (hm : m = n / 2) (ha : a = factV k m) (hs : c = swingV n) (hb : b = a * a) (hd : d = b * c) : d = factV k (n / 2) * factV k (n / 2) * swingV n := by
  rw [hd, hb, hs, ha, hm]
theorem flen_bd : ∀ k, k ≤ 5 → flen k ≤ 300000 := by decide
theorem fa_step (w : World) (k : Nat) (IH : FaPre w k) (n wd : Int) (t1 t2 : Tok) (hn2 : 2 ≤ n) (hnk : n < 2 ^ (k + 1 + 1)) : Call w 107 (80 + (k + 1)) (900 + 16 * (k + 1)) [.int n t1, .int wd t2, .ref 135]
    (fun h => 0 ≤ n ∧ n ≤ 32 ∧ k + 1 ≤ 5 ∧ 4 ≤ wd ∧ wd ≤ 8)
    (fun s Q => RetL s (fun r => val (2 ^ wd.toNat) r = factV k (n / 2) * factV k (n / 2) * swingV n ∧ Limbs (2 ^ wd.toNat) r ∧ r.length ≤ flen (k + 1)) Q) := by
  unfold Call
  k_fill
  intro mean mg mb edp eun egd ecn ecs ea eccd ecl eouter eA₀ ebase eh₀ eL em s Q E KB0 KF0 KX0 KT0 hk hdp hun hpre hret
  refine wpAny_call ?_
  k_dflt (refine' code_defG (news := []) (binds := [(Str.ofString "n", .int n t1), (Str.ofString "w", .int wd t2), (Str.ofString "mul", .ref 135)]) ?k1 ?k2 ?k3 ?k4 ?k5 ?kA ?kF ?kK ?k6 ?k7 ?k8 ?k9 ?kB ?_ ?c2 ?c3 ?c4 ?c5; (case kA => exact rfl); (case kF => exact rfl); (case kK => assumption); (case k1 => k_asm); (case k2 => k_asm); (case k3 => k_asm); (case k4 => exact News.nil); (case k5 => k_asm); (case k6 => k_is); (case k7 => k_is); (case k8 => ktr_room); (case k9 => exact BindsTo.of_eq rfl); (case c5 => decide); (case kB => exact locs rfl); (case c2 => exact rfl); (case c3 => exact rfl); (case c4 => exact rfl); k_whole; intro g' L' h' FG' F' N' B' X' T' G'; (try dsimp only); (try k_fold))
  obtain ⟨hn0, hn1, hk5, hw0, hw1⟩ := hpre
  have hb := base_gt hw0 hw1
  have hfd : n.fdiv 2 = n / 2 := Int.fdiv_eq_ediv_of_nonneg _ (by decide)
  have hp2 : (2:Int) ^ (k + 1 + 1) = 2 ^ (k + 1) * 2 := Int.pow_succ _ _
  have hfl := flen_bd k (by omega)
  have hfe : flen (k + 1) = flen k + flen k + 7000 := rfl
  k_with "call ref" => (k_here; (with_reducible show wpAny _ _ (PySem.call (Value.ref 135) _) _ _ _); k_dflt (refine' mul_call w _ _ _ _ _ _ _ _ _ _ _ _ _ _ _ _ _ _ _ _ _ _ _ _ _ _ _ _ ?c1 ?c2 ?c3 ?c4 ?c5 ?c6 ?c7 ?c8 (RetL.use ?cF ?cN ?_); (case c1 => k_asm); (case c2 => k_asm); (case c3 => k_asm); (case c4 => k_asm); (case c5 => first | exact rfl | assumption); (case c8 => (refine ⟨news_list (by assumption) (by kst_entry), by assumption, news_list (by assumption) (by kst_entry), by assumption, ?_, ?_, hw0, hw1, ?_, ?_⟩ <;> first | assumption | omega));  (case c6 => ktr_room); (case c7 => ktr_units); (case cF => k_asm); (case cN => k_asm)); rintro r9 vs9 n9 ns9 h9 tk9 F9 N9 o9 i9 ⟨P9a, P9b, P9c⟩; (try dsimp only); (try k_fold))
  k_with "call ref" => (k_here; (with_reducible show wpAny _ _ (PySem.call (Value.ref 100) _) _ _ _); k_dflt (refine' swing_call w _ _ _ _ _ _ _ _ _ _ _ _ _ _ _ _ _ _ _ _ _ _ _ _ ?c1 ?c2 ?c3 ?c4 ?c5 ?c6 ?c7 ?c8 (RetL.use ?cF ?cN ?_); (case c1 => k_asm); (case c2 => k_asm); (case c3 => k_asm); (case c4 => k_asm); (case c5 => first | exact rfl | assumption); (case c8 => exact ⟨hn2, hn1, hw0, hw1⟩);  (case c6 => ktr_room); (case c7 => ktr_units); (case cF => k_asm); (case cN => k_asm)); rintro r9 vs9 n9 ns9 h9 tk9 F9 N9 o9 i9 ⟨P9a, P9b, P9c⟩; (try dsimp only); (try k_fold))
  k_with "call ref" => (k_here; (with_reducible show wpAny _ _ (PySem.call (Value.ref 67) _) _ _ _); k_dflt (refine' need_call w _ _ _ _ _ _ _ _ _ _ _ _ _ _ _ _ _ _ _ _ _ _ ?c1 ?c2 ?c3 ?c4 ?c5 ?c6 ?c7 ?c8 (RetV.use ?cF ?cN ?_); (case c1 => k_asm); (case c2 => k_asm); (case c3 => k_asm); (case c4 => k_asm); (case c5 => first | exact rfl | assumption); (case c8 => exact hn0);  (case c6 => ktr_room); (case c7 => ktr_units); (case cF => k_asm); (case cN => k_asm)); rintro v9 h9 tk9 F9 N9 rfl; (try dsimp only); (try k_fold))
  k_with "call ref" => (k_here; (with_reducible show wpAny _ _ (PySem.call (Value.ref 107) _) _ _ _); k_dflt (refine' (IH) _ _ _ _ ?hlen _ _ _ _ _ _ _ _ _ _ _ _ _ _ _ _ _ _ _ _ ?c1 ?c2 ?c3 ?c4 ?c5 ?c6 ?c7 ?c8 (RetL.use ?cF ?cN ?_); (case c1 => k_asm); (case c2 => k_asm); (case c3 => k_asm); (case c4 => k_asm); (case c5 => first | exact rfl | assumption); (case c8 => exact ⟨by omega, by omega, by omega, hw0, hw1⟩); (case hlen => omega); (case c6 => ktr_room); (case c7 => ktr_units); (case cF => k_asm); (case cN => k_asm)); rintro r9 vs9 n9 ns9 h9 tk9 F9 N9 o9 i9 ⟨P9a, P9b, P9c⟩; (try dsimp only); (try k_fold))
  k_steps
  exact RetL.of hret G' (by assumption) (by assumption) (by kst_entry) (by assumption) ⟨fa_val hfd (by assumption) (by assumption) (by assumption) (by assumption), by assumption, by omega⟩
theorem fa_all (w : World) : ∀ k, FaPre w k
  | 0 => by
    intro n wd t1 t2 hn mean mg mb edp eun egd ecn ecs ea eccd ecl eouter eA₀ ebase eh₀ eL em s Q E c1 c2 c3 c4 c5 c6 c7 hpre hret
    exact fa_small w 0 n wd t1 t2 (by simpa using hn) mean mg mb edp eun egd ecn ecs ea eccd ecl eouter eA₀ ebase eh₀ eL em s Q E c1 c2 c3 c4 c5 c6 c7 ⟨hpre.1, hpre.2.2.2⟩ hret
  | k + 1 => by
    intro n wd t1 t2 hn mean mg mb edp eun egd ecn ecs ea eccd ecl eouter eA₀ ebase eh₀ eL em s Q E c1 c2 c3 c4 c5 c6 c7 hpre hret
    by_cases h2 : n < 2
    · exact fa_small w (k + 1) n wd t1 t2 h2 mean mg mb edp eun egd ecn ecs ea eccd ecl eouter eA₀ ebase eh₀ eL em s Q E c1 c2 c3 c4 c5 c6 c7 ⟨hpre.1, hpre.2.2.2⟩ (fun r vs n' ns h' tk' a b c d e => hret r vs n' ns h' tk' a b c d ⟨by rw [e.1, factV, if_pos h2], e.2.1, by have := e.2.2; rw [flen]; omega⟩)
    · exact fa_step w k (fa_all w k) n wd t1 t2 (by omega) hn mean mg mb edp eun egd ecn ecs ea eccd ecl eouter eA₀ ebase eh₀ eL em s Q E c1 c2 c3 c4 c5 c6 c7 hpre (fun r vs n' ns h' tk' a b c d e => hret r vs n' ns h' tk' a b c d ⟨by rw [e.1, factV, if_neg h2], e.2.1, e.2.2⟩)
theorem fresh_N12 : True := by
  k_with_none
  w_top off
  trivial
def binAll (n k : Int) : List (Int × Int) := (sieveL n).map fun p => (p, fxE p 32 n - fxE p 32 k - fxE p 32 (n - k))
def binV (n k : Int) : Int := prodP ((binAll n k).filter fun q => decide (0 < q.2))
theorem fxE_bd {p : Int} (hp : 2 ≤ p) : ∀ (f : Nat) (r : Int), 0 ≤ r → 0 ≤ fxE p f r ∧ fxE p f r ≤ r
  | 0, r, h => by simp [fxE, h]
  | f + 1, r, h => by
    rw [fxE]
    split
    · rename_i hr
      have hd := div_lt hp hr
      have ih := fxE_bd hp f (r / p) hd.1
      omega
    · omega
theorem bin_bounds {n k : Int} (h0 : 0 ≤ k) (hk : k ≤ n) (h1 : n ≤ 32) : ∀ q ∈ (binAll n k).filter fun q => decide (0 < q.2), 0 ≤ q.1 ∧ q.1 < 256 ∧ 0 ≤ q.2 ∧ q.2 < 100 := by
  intro q hq
  have hq2 := List.mem_filter.mp hq
  have hq3 : 0 < q.2 := by simpa using hq2.2
  obtain ⟨x, hx, rfl⟩ := List.mem_map.mp hq2.1
  have hb := (sieve_facts n (by omega)).2 x hx
  have h3 := fxE_bd hb.1 32 n (by omega)
  have h4 := fxE_bd hb.1 32 k h0
  have h5 := fxE_bd hb.1 32 (n - k) (by omega)
  dsimp only at hq3 ⊢
  exact ⟨by omega, by omega, by omega, by omega⟩
theorem sub_bin {a b c d : Addr × Obj} {r : List (Addr × Obj)} : ∀ p ∈ d :: a :: r, p ∈ a :: b :: c :: d :: r := by
  intro p hp
  simp only [List.mem_cons] at hp ⊢
  rcases hp with h | h | h
  · exact .inr (.inr (.inr (.inl h)))
  · exact .inl h
  · exact .inr (.inr (.inr (.inr h)))
theorem binom_call (w : World) (n k wd : Int) (t1 t2 t3 : Tok) : Call w 128 60 800 [.int n t1, .int k t2, .int wd t3, .ref 135] (fun h => 0 ≤ k ∧ k ≤ n ∧ n ≤ 32 ∧ 4 ≤ wd ∧ wd ≤ 8)
    (fun s Q => RetL s (fun r => val (2 ^ wd.toNat) r = binV n k ∧ Limbs (2 ^ wd.toNat) r ∧ r.length ≤ 7000) Q) := by
  unfold Call
  k_fill
  intro mean mg mb edp eun egd ecn ecs ea eccd ecl eouter eA₀ ebase eh₀ eL em s Q E KB0 KF0 KX0 KT0 hk hdp hun hpre hret
  refine wpAny_call ?_
  k_dflt (refine' code_defG (news := []) (binds := [(Str.ofString "n", .int n t1), (Str.ofString "k", .int k t2), (Str.ofString "w", .int wd t3), (Str.ofString "mul", .ref 135)]) ?k1 ?k2 ?k3 ?k4 ?k5 ?kA ?kF ?kK ?k6 ?k7 ?k8 ?k9 ?kB ?_ ?c2 ?c3 ?c4 ?c5; (case kA => exact rfl); (case kF => exact rfl); (case kK => assumption); (case k1 => k_asm); (case k2 => k_asm); (case k3 => k_asm); (case k4 => exact News.nil); (case k5 => k_asm); (case k6 => k_is); (case k7 => k_is); (case k8 => ktr_room); (case k9 => exact BindsTo.of_eq rfl); (case c5 => decide); (case kB => exact locs rfl); (case c2 => exact rfl); (case c3 => exact rfl); (case c4 => exact rfl); k_whole; intro g' L' h' FG' F' N' B' X' T' G'; (try dsimp only); (try k_fold))
  obtain ⟨hk0, hkn, hn1, hw0, hw1⟩ := hpre
  have hn0 : 0 ≤ n := by omega
  have hsf := sieve_facts n hn0
  k_with "pyIter ref" => refine Stop.out ?_
  k_with "GrPost" => dsimp only [GrPost]
  k_with "GrEnd" => refine Stop.out ?_
  k_with "call ref" => (k_here; (with_reducible show wpAny _ _ (PySem.call (Value.ref 67) _) _ _ _); k_dflt (refine' need_call w _ _ _ _ _ _ _ _ _ _ _ _ _ _ _ _ _ _ _ _ _ _ ?c1 ?c2 ?c3 ?c4 ?c5 ?c6 ?c7 ?c8 (RetV.use ?cF ?cN ?_); (case c1 => k_asm); (case c2 => k_asm); (case c3 => k_asm); (case c4 => k_asm); (case c5 => first | exact rfl | assumption); (case c8 => first | exact hn0 | exact hk0);  (case c6 => ktr_room); (case c7 => ktr_units); (case cF => k_asm); (case cN => k_asm)); rintro v9 h9 tk9 F9 N9 rfl; (try dsimp only); (try k_fold))
  k_with "call ref" => (k_here; (with_reducible show wpAny _ _ (PySem.call (Value.ref 60) _) _ _ _); k_dflt (refine' sieve_call w n _ _ _ _ _ _ _ _ _ _ _ _ _ _ _ _ _ _ _ _ _ ?c1 ?c2 ?c3 ?c4 ?c5 ?c6 ?c7 ?c8 (RetL.use ?cF ?cN ?_); (case c1 => k_asm); (case c2 => k_asm); (case c3 => k_asm); (case c4 => k_asm); (case c5 => first | exact rfl | assumption); (case c8 => exact ⟨by omega, by omega⟩);  (case c6 => ktr_room); (case c7 => ktr_units); (case cF => k_asm); (case cN => k_asm)); rintro r9 vs9 n9 ns9 h9 tk9 F9 N9 o9 i9 P9; (try dsimp only); (try k_fold))
  k_steps
  unfold Stop
  subst P9
  rename Fr _ _ _ _ => F1
  rename News _ _ _ _ => N1
  rename_i pl _ _ _ _ _
  have hrp : (@Ne Nat pl r9) := o9.1
  have hlen9 := i9.length
  refine list_gst (σ := List Value × Nat × List (Addr × Obj)) (fun c => (pl, listOf c.1.toArray c.2.1) :: c.2.2) (fun c => []) [Str.ofString "prime", Str.ofString "many"]
    (fun i c => LPairs c.2.2 c.1 (((binAll n k).take i).filter fun q => decide (0 < q.2)) ∧ ∀ p ∈ c.2.2, p.1 ≠ pl) ([], 0, []) (by rfl) F1 N1 (by kst_all) ⟨.nil, fun _ h => nomatch h⟩ ?_ ?_
  · rintro ⟨vP, cP, tups⟩ i v u I oI h tk hv ⟨hL, hoff⟩ hI F2 N2
    obtain ⟨p, tp, rfl, hp⟩ := IntsAre.at i9 i v hv
    have hpp := hsf.2 p (List.mem_of_getElem? hp)
    dsimp only at hL hoff hI F2 N2
    simp only [kstB] at F2
    have hIp : (@Ne Nat pl I) := hI _ (List.Mem.head _)
    have hlL := hL.length
    have hfl := List.length_filter_le (fun q : Int × Int => decide (0 < q.2)) ((binAll n k).take i)
    have hfl2 : ((binAll n k).take i).length ≤ (sieveL n).length := by rw [List.length_take, binAll, List.length_map]; omega
    have hq : (binAll n k).take (i + 1) = (binAll n k).take i ++ [(p, fxE p 32 n - fxE p 32 k - fxE p 32 (n - k))] := by
      have : (binAll n k)[i]? = some (p, fxE p 32 n - fxE p 32 k - fxE p 32 (n - k)) := by rw [binAll, List.getElem?_map, hp]; rfl
      rw [List.take_add_one, this]; rfl
    k_with "call ref" => (k_here; (with_reducible show wpAny _ _ (PySem.call (Value.ref 121) _) _ _ _); k_dflt (refine' fexp_call w _ _ _ _ _ _ _ _ _ _ _ _ _ _ _ _ _ _ _ _ _ _ _ _ ?c1 ?c2 ?c3 ?c4 ?c5 ?c6 ?c7 ?c8 (RetV.use ?cF ?cN ?_); (case c1 => k_asm); (case c2 => k_asm); (case c3 => k_asm); (case c4 => k_asm); (case c5 => first | exact rfl | assumption); (case c8 => exact ⟨by omega, by omega, by omega, by omega⟩);  (case c6 => ktr_room); (case c7 => ktr_units); (case cF => k_asm); (case cN => k_asm)); rintro v9 h9 tk9 F9 N9 ⟨t9, rfl⟩; (try dsimp only); (try k_fold))
    k_with "call builtin:list.append" => (k_here; k_dflt (refine' append_K ?k1 ?k2 ?k3 ?_ ?z; (case k1 => k_asm); (case k2 => k_asm); (case k3 => (refine' Upd.tail ?a (Upd.tail ?b (Upd.tail ?c (Upd.head hoff))); (case a => k_ne); (case b => k_ne); (case c => k_ne))); (case z => (first | size_fits | (simp only [sizeLine_eq, List.size_toArray]; omega))); k_whole); intro h' F' N')
    k_steps
    all_goals try unfold Stop
    · rename_i T _ _ _ lT
      have hm0 : 0 < fxE p 32 n - fxE p 32 k - fxE p 32 (n - k) := by assumption
      simp only [List.push_toArray] at N'
      have hoff2 : ∀ o : Obj, ∀ q ∈ ((T, o) :: tups), q.1 ≠ pl := fun o q hq => by
        rcases List.mem_cons.mp hq with rfl | hq
        · exact Ne.symm (Nat.ne_of_lt lT.2.2.1)
        · exact hoff q hq
      refine' GrEnd.intro ⟨vP ++ [.ref T], cP + 1, (T, ?oT) :: tups⟩ F' N' ?a1 ?a2 ?hn ?ho ?hk ?hr ⟨?hp, hoff2 _⟩
      case hn => exact sub_bin
      case a1 => exact List.mem_cons_of_mem _ (.head _)
      case a2 => exact List.mem_cons_of_mem _ (List.mem_cons_of_mem _ (.head _))
      case ho =>
        intro q hq
        rcases List.mem_cons.mp hq with rfl | hq
        · exact hIp
        · rcases List.mem_cons.mp hq with rfl | hq
          · exact Ne.symm (Nat.ne_of_lt lT.1)
          · exact hI q (List.mem_cons_of_mem _ hq)
      case hk => kst_all
      case hr => ksw_same
      case hp =>
        dsimp only
        rw [hq, List.filter_append, List.filter_cons_of_pos (by simpa using hm0), List.filter_nil]
        exact (hL.mono fun q h => List.mem_cons_of_mem _ h).append (.cons (p := (p, fxE p 32 n - fxE p 32 k - fxE p 32 (n - k))) (List.Mem.head _) .nil)
    · have hm0 : ¬ 0 < fxE p 32 n - fxE p 32 k - fxE p 32 (n - k) := by assumption
      rename Fr _ _ _ _ => F5
      rename News _ _ _ _ => N5
      refine GrEnd.intro ⟨vP, cP, tups⟩ F5 N5 (.head _) (List.mem_cons_of_mem _ (.head _)) (fun q hq => List.mem_cons_of_mem _ (List.mem_cons_of_mem _ hq)) hI (by kst_all) (by ksw_same) ⟨?_, hoff⟩
      rw [hq, List.filter_append, List.filter_cons_of_neg (by simpa using hm0), List.filter_nil, List.append_nil]
      exact hL
  · rintro ⟨vP, cP, tups⟩ u h tk ⟨hL, hoff⟩ F2 N2
    dsimp only at hL hoff F2 N2
    simp only [kstB] at F2
    rw [List.take_of_length_le (by rw [binAll, List.length_map]; omega)] at hL
    have hfl := List.length_filter_le (fun q : Int × Int => decide (0 < q.2)) (binAll n k)
    rw [binAll, List.length_map, ← binAll] at hfl
    k_with "call ref" => (k_here; (with_reducible show wpAny _ _ (PySem.call (Value.ref 88) _) _ _ _); k_dflt (refine' (pp_all w 32) _ vP ((binAll n k).filter fun q => decide (0 < q.2)) _ _ ?hlen _ _ _ _ _ _ _ _ _ _ _ _ _ _ _ _ _ _ _ _ ?c1 ?c2 ?c3 ?c4 ?c5 ?c6 ?c7 ?c8 (RetL.use ?cF ?cN ?_); (case c1 => k_asm); (case c2 => k_asm); (case c3 => k_asm); (case c4 => k_asm); (case c5 => first | exact rfl | assumption); (case c8 => exact ⟨news_list N2 (List.mem_cons_of_mem _ (.head _)), hL.pairs N2 (fun q h => List.mem_cons_of_mem _ (List.mem_cons_of_mem _ h)), bin_bounds hk0 hkn hn1, by omega, hw0, hw1⟩); (case hlen => omega); (case c6 => ktr_room); (case c7 => ktr_units); (case cF => k_asm); (case cN => k_asm)); rintro r9 vs9 n9 ns9 h9 tk9 F9 N9 o9 i9 ⟨P9a, P9b, P9c, P9d⟩; (try dsimp only); (try k_fold))
    k_steps
    exact RetL.of hret G' (by assumption) (by assumption) (by kst_entry) (by assumption) ⟨by assumption, by assumption, by omega⟩
theorem fresh_N13 : True := by
  k_with_none
  w_top off
  trivial
def PlI (b : Int) (ns : List Int) (i : Nat) (found : Int) : Prop := found = val b (ns.reverse.take i).reverse
theorem pl_next {b : Int} {ns : List Int} {i : Nat} {x found : Int} (hx : ns.reverse[i]? = some x) (h : PlI b ns i found) : PlI b ns (i + 1) (found * b + x) := by
  unfold PlI at *
  rw [List.take_add_one, hx, List.reverse_append, h]
  show _ = val b ([x] ++ _)
  simp only [List.singleton_append, val]
  rw [Int.mul_comm b, Int.add_comm]
theorem pl_bd {b : Int} (hb : 1 < b) {ns : List Int} (hL : Limbs b ns) {i : Nat} {found : Int} (h : PlI b ns i found) : 0 ≤ found ∧ found ≤ val b ns := by
  unfold PlI at h
  have e : (ns.reverse.take i).reverse = ns.drop (ns.length - i) := by rw [List.take_reverse, List.reverse_reverse]
  rw [e] at h
  have h1 : Limbs b (ns.drop (ns.length - i)) := fun x hx => hL x (List.mem_of_mem_drop hx)
  have h2 : Limbs b (ns.take (ns.length - i)) := fun x hx => hL x (List.mem_of_mem_take hx)
  have h3 := val_append b (ns.take (ns.length - i)) (ns.drop (ns.length - i))
  rw [List.take_append_drop] at h3
  have h4 := val_nonneg (by omega) h1
  have h5 := val_nonneg (by omega) h2
  have h6 : 0 < b ^ (ns.take (ns.length - i)).length := pow_pos_of (by omega) _
  have h7 : 1 * val b (ns.drop (ns.length - i)) ≤ b ^ (ns.take (ns.length - i)).length * val b (ns.drop (ns.length - i)) := Int.mul_le_mul_of_nonneg_right (by omega) h4
  omega
theorem plain_call (w : World) (l : Addr) (vs : List Value) (ns : List Int) (wd : Int) (t : Tok) : Call w 149 4 32 [.ref l, .int wd t]
    (fun h => h.IsList l vs.toArray ∧ IntsAre vs ns ∧ Limbs (2 ^ wd.toNat) ns ∧ ns.length < 1000000 ∧ val (2 ^ wd.toNat) ns < 1152921504606846976 ∧ 4 ≤ wd ∧ wd ≤ 8)
    (fun s Q => RetV s (fun v => ∃ t, v = .int (val (2 ^ wd.toNat) ns) t) Q) := by
  unfold Call
  k_fill
  intro mean mg mb edp eun egd ecn ecs ea eccd ecl eouter eA₀ ebase eh₀ eL em s Q E KB0 KF0 KX0 KT0 hk hdp hun hpre hret
  refine wpAny_call ?_
  k_dflt (refine' code_defG (news := []) (binds := [(Str.ofString "row", .ref l), (Str.ofString "w", .int wd t)]) ?k1 ?k2 ?k3 ?k4 ?k5 ?kA ?kF ?kK ?k6 ?k7 ?k8 ?k9 ?kB ?_ ?c2 ?c3 ?c4 ?c5; (case kA => exact rfl); (case kF => exact rfl); (case kK => assumption); (case k1 => k_asm); (case k2 => k_asm); (case k3 => k_asm); (case k4 => exact News.nil); (case k5 => k_asm); (case k6 => k_is); (case k7 => k_is); (case k8 => ktr_room); (case k9 => exact BindsTo.of_eq rfl); (case c5 => decide); (case kB => exact locs rfl); (case c2 => exact rfl); (case c3 => exact rfl); (case c4 => exact rfl); k_whole; intro g' L' h' FG' F' N' B' X' T' G'; (try dsimp only); (try k_fold))
  obtain ⟨hl, hi, hL, hlen, hval, hw0, hw1⟩ := hpre
  have hb := base_gt hw0 hw1
  have hl' : g'.IsList l vs.toArray := hl.at fun o e => gsub_up G' _ _ e
  k_with "pyIter ref" => refine Stop.out ?_
  k_with "GrPost" => dsimp only [GrPost]
  k_with "GrEnd" => refine Stop.out ?_
  k_steps
  unfold Stop
  rename Fr _ _ _ _ => F1
  rename News _ _ _ _ => N1
  rename_i D7 ws7 _ i7 c7 _
  refine' list_gst (σ := Int × Nat) (fun c => []) (fun c => [(Str.ofString "found", .int c.1 c.2)]) [Str.ofString "limb"] (fun i c => PlI (2 ^ wd.toNat) ns i c.1) (0, ?tk0) (by rfl) F1 N1 ?k1 (by simp [PlI, val]) ?_ ?_
  case k1 => kst_all
  · rintro ⟨fd, tf⟩ i v u I oI h tk hv hP hI F2 N2
    obtain ⟨x, tx, rfl, hx⟩ := IntsAre.at i7 i v hv
    dsimp only at hP F2 N2
    simp only [kstB] at F2
    have hbd := pl_bd (by omega) hL hP
    k_with "binaryOp Mult int int" => refine mul_int ?_ (mulok_small (by omega) (by omega))
    k_steps
    unfold Stop
    rename Fr _ _ _ _ => F5
    rename News _ _ _ _ => N5
    exact GrEnd.intro ⟨_, _⟩ F5 N5 (.head _) (List.mem_cons_of_mem _ (.head _)) (fun _ h => nomatch h) (fun _ h => nomatch h) (by kst_all) (by ksw_same) (pl_next hx hP)
  · rintro ⟨fd, tf⟩ u h tk hP F2 N2
    dsimp only at hP F2 N2
    simp only [kstB] at F2
    have hw7 := i7.length
    rw [hw7, PlI, List.take_length, List.reverse_reverse] at hP
    subst hP
    k_steps
    exact RetV.of hret G' (by assumption) ⟨_, rfl⟩
theorem gcd_next {a b : Int} (ha : 0 ≤ a) (h : 0 < b) : Int.gcd b (a.fmod b) = Int.gcd a b := by
  rw [Int.fmod_eq_emod_of_nonneg _ (by omega), Int.gcd_comm a b]
  obtain ⟨m, rfl⟩ := Int.eq_ofNat_of_zero_le ha
  obtain ⟨n, rfl⟩ := Int.eq_ofNat_of_zero_le (Int.le_of_lt h)
  rw [← Int.natCast_emod]
  show Nat.gcd n (m % n) = Nat.gcd n m
  rw [Nat.gcd_comm, ← Nat.gcd_rec]
theorem div_call (w : World) (a b : Int) (t1 t2 : Tok) : Call w 161 4 32 [.int a t1, .int b t2]
    (fun h => 0 ≤ a ∧ 0 ≤ b)
    (fun s Q => RetV s (fun v => ∃ t, v = .int (Int.gcd a b : Int) t) Q) := by
  unfold Call
  k_fill
  intro mean mg mb edp eun egd ecn ecs ea eccd ecl eouter eA₀ ebase eh₀ eL em s Q E KB0 KF0 KX0 KT0 hk hdp hun hpre hret
  refine wpAny_call ?_
  k_dflt (refine' code_defG (news := []) (binds := [(Str.ofString "one", .int a t1), (Str.ofString "other", .int b t2)]) ?k1 ?k2 ?k3 ?k4 ?k5 ?kA ?kF ?kK ?k6 ?k7 ?k8 ?k9 ?kB ?_ ?c2 ?c3 ?c4 ?c5; (case kA => exact rfl); (case kF => exact rfl); (case kK => assumption); (case k1 => k_asm); (case k2 => k_asm); (case k3 => k_asm); (case k4 => exact News.nil); (case k5 => k_asm); (case k6 => k_is); (case k7 => k_is); (case k8 => ktr_room); (case k9 => exact BindsTo.of_eq rfl); (case c5 => decide); (case kB => exact locs rfl); (case c2 => exact rfl); (case c3 => exact rfl); (case c4 => exact rfl); k_whole; intro g' L' h' FG' F' N' B' X' T' G'; (try dsimp only); (try k_fold))
  obtain ⟨ha0, hb0⟩ := hpre
  k_with "exec While" => refine Stop.out ?_
  k_with "KswEnd" => refine Stop.out ?_
  k_steps
  unfold Stop
  rename Fr _ _ _ _ => F1
  rename News _ _ _ _ => N1
  refine' ksw_while (σ := Int × Nat × Int × Nat) (fun c => []) (fun c => [(Str.ofString "one", .int c.1 c.2.1), (Str.ofString "other", .int c.2.2.1 c.2.2.2)]) (fun c => True) [] 
    (fun c => 0 ≤ c.1 ∧ 0 ≤ c.2.2.1 ∧ Int.gcd c.1 c.2.2.1 = Int.gcd a b) (fun c => c.2.2.1.toNat) (a, ?a1, b, ?a2) F1 News.nil trivial ?k1 ⟨ha0, hb0, rfl⟩ ?_
  case k1 => kst_all
  rintro ⟨k, t3, r, t4⟩ u h tk2 _ ⟨q0, q1, q2⟩ F2 N2
  dsimp only at q0 q1 q2 F2 N2
  simp only [kstB, List.contains_nil, Bool.false_eq_true, if_false] at F2
  k_steps
  all_goals try unfold Stop
  · have hr0 : 0 < r := by assumption
    have h1 := Int.emod_nonneg k (show r ≠ 0 by omega)
    have h2 := Int.emod_lt_of_pos k hr0
    have h3 : k.fmod r = k % r := Int.fmod_eq_emod_of_nonneg _ (by omega)
    refine' ksw_end ⟨_, _, _, _⟩ (by assumption) News.nil ?hn trivial ?hk ?hr ?hp ?hm
    case hk => kst_all
    case hn => kst_in
    case hr => ksw_same
    case hp => exact ⟨q1, by dsimp only; omega, by rw [← q2]; exact gcd_next q0 hr0⟩
    case hm => dsimp only; omega
  · have e : r = 0 := by omega
    subst e
    exact RetV.of hret G' (by assumption) ⟨_, by rw [← q2, Int.gcd_zero_right]; congr 1; omega⟩
theorem fresh_N14 : True := by
  k_with_none
  w_top off
  trivial
def trL (n : Int) : List Int := (rangeKs 2 (n - 2).toNat).filter fun x => n.fmod x == 0
theorem tr_fold (n : Int) : (rangeKs 2 (n - 2).toNat).foldl (fun l' k' => if n.fmod k' = 0 then l' ++ [k'] else l') [] = trL n := by
  have key : ∀ (xs acc : List Int), xs.foldl (fun l' k' => if n.fmod k' = 0 then l' ++ [k'] else l') acc = acc ++ xs.filter fun x => n.fmod x == 0 := by
    intro xs
    induction xs with
    | nil => intro acc; simp
    | cons x r ih =>
      intro acc
      rw [List.foldl_cons, ih]
      by_cases h : n.fmod x = 0
      · rw [if_pos h, List.filter_cons_of_pos (by simpa using h)]; simp
      · rw [if_neg h, List.filter_cons_of_neg (by simpa using h)]
  rw [key]; rfl
theorem tried_call (w : World) (n : Int) (t1 : Tok) : Call w 154 4 128 [.int n t1] (fun h => 0 ≤ n ∧ n ≤ 40)
    (fun s Q => RetV s (fun v => v = .bool (decide (trL n = []))) Q) := by
  unfold Call
  k_fill
  intro mean mg mb edp eun egd ecn ecs ea eccd ecl eouter eA₀ ebase eh₀ eL em s Q E KB0 KF0 KX0 KT0 hk hdp hun hpre hret
  refine wpAny_call ?_
  k_dflt (refine' enter_cells (binds := [(Str.ofString "n", .int n t1)]) ?k1 ?k2 ?k3 ?k5 ?kA ?kF ?kK ?k6 ?k7 ?k8 ?k9 ?kB ?kD ?_ ?c2 ?c3 ?c4; (case kA => exact rfl); (case kF => exact rfl); (case kK => assumption); (case k1 => k_asm); (case k2 => k_asm); (case k3 => k_asm); (case k5 => k_asm); (case k6 => k_is); (case k7 => k_is); (case k8 => ktr_room); (case k9 => exact BindsTo.of_eq rfl); (case kB => exact rfl); (case kD => decide +kernel); (case c2 => exact rfl); (case c3 => exact rfl); (case c4 => exact rfl); k_whole; intro g' L' h' tk' cells' FG' F' N' Y' B' X' T' G'; have hY := CellsAre.one Y'; obtain ⟨oc1, hE9, hd1⟩ := hY; subst hE9; clear Y'; (try simp only [List.cons_append, List.nil_append] at N'); (try dsimp only); (try k_fold))
  obtain ⟨hn0, hn1⟩ := hpre
  k_with "compareOp Eq ref ref" => (k_here; k_dflt (refine' eq_intsK (us := []) (ms := []) ?k1 ?k2 ?k3 .nil ?k5 ?_; (case k1 => exact news_list (by assumption) (by kst_entry)); (case k2 => assumption); (case k3 => exact news_list (by assumption) (by kst_entry)); (case k5 => ktr_units)))
  k_steps
  exact RetV.of hret G' (by assumption) (by rw [tr_fold])
theorem fresh_Pl : True := by
  k_with_none
  w_top off
  trivial
/-- what the law asks of one number, in plain ints -/
abbrev PlainAt (n : Int) : Prop :=
  (0 ≤ factV 4 (n - 1) ∧ factV 4 (n - 1) < 1152921504606846976 ∧ 0 ≤ factV 4 n ∧ factV 4 n < 1152921504606846976) ∧
  (0 ≤ prodL (sieveL (n - 1)) ∧ prodL (sieveL (n - 1)) < 1152921504606846976 ∧ 0 ≤ prodL (sieveL n) ∧ prodL (sieveL n) < 1152921504606846976) ∧
  sieveL n = ((rangeKs 2 (n - 1).toNat).filter fun x => decide (trL x = [])) ∧
  (!decide (sieveL n = sieveL (n - 1))) = decide (trL n = []) ∧
  ((factV 4 (n - 1)).fmod n == n - 1) = decide (trL n = []) ∧
  ((Int.gcd (prodL (sieveL (n - 1))) n : Int) == 1) = decide (trL n = []) ∧
  (∀ k ∈ rangeKs 1 (n / 2).toNat, 0 ≤ binV n k ∧ binV n k < 1152921504606846976) ∧
  decide ((((rangeKs 1 (n / 2).toNat).map (binV n)).filter fun x => x.fmod n != 0) = []) = decide (trL n = []) ∧
  ((rangeKs 1 (n / 2).toNat).map (binV n)).getD (Int.toNat 0) 0 = n ∧
  factV 4 n = factV 4 (n - 1) * n ∧
  prodL (sieveL n) = if decide (trL n = []) = true then prodL (sieveL (n - 1)) * n else prodL (sieveL (n - 1))
theorem plain_all : ∀ i : Fin 18, PlainAt (2 + (i.val : Int)) := by decide +kernel
theorem plain_at {n : Int} (h0 : 2 ≤ n) (h1 : n ≤ 19) : PlainAt n := by
  have h := plain_all ⟨(n - 2).toNat, by omega⟩
  have e : 2 + (((n - 2).toNat : Nat) : Int) = n := by omega
  rw [show ((⟨(n - 2).toNat, by omega⟩ : Fin 18).val : Int) = (((n - 2).toNat : Nat) : Int) from rfl, e] at h
  exact h
theorem mem_range1 {m : Nat} {k : Int} (h0 : 1 ≤ k) (h1 : k ≤ m) : k ∈ rangeKs 1 m := by
  unfold rangeKs
  rw [List.mem_map]
  exact ⟨(k - 1).toNat, List.mem_range.mpr (by omega), by omega⟩
theorem plain_new {n pm pn : Int} {bp : Bool} (h0 : 2 ≤ n) (h1 : n ≤ 19) (hb : decide (trL n = []) = bp) (hm : prodL (sieveL (n - 1)) = pm) (hp : prodL (sieveL n) = pn) (h : bp = true) : pn = pm * n := by
  have x := (plain_at h0 h1).2.2.2.2.2.2.2.2.2.2
  rw [hb, hm, hp, if_pos h] at x
  exact x
theorem plain_old {n pm pn : Int} {bp : Bool} (h0 : 2 ≤ n) (h1 : n ≤ 19) (hb : decide (trL n = []) = bp) (hm : prodL (sieveL (n - 1)) = pm) (hp : prodL (sieveL n) = pn) (h : bp = false) : pn = pm := by
  have x := (plain_at h0 h1).2.2.2.2.2.2.2.2.2.2
  rw [hb, hm, hp, if_neg (by rw [h]; exact Bool.false_ne_true)] at x
  exact x
theorem fresh_L2 : True := by
  k_with_none
  w_top off
  trivial
def lawParts : List Stmt → Option (Expr × List Stmt × Scope)
  | [.FunctionDef _ _ (_ :: _ :: .For t _ b _ _ :: _) _ _ _ sc _ _ _] => some (t, b, sc)
  | _ :: r => lawParts r
  | [] => none
theorem tried_call2 (w : World) (n : Int) (t1 : Tok) (b : Bool) (hb : decide (trL n = []) = b) : Call w 154 4 128 [.int n t1] (fun h => 0 ≤ n ∧ n ≤ 40)
    (fun s Q => RetV s (fun v => v = .bool b) Q) := by
  subst hb
  exact tried_call w n t1
theorem sieve_call2 (w : World) (n : Int) (t1 : Tok) (l : List Int) (hl : sieveL n = l) : Call w 60 4 32 [.int n t1] (fun h => 0 ≤ n ∧ n ≤ 100)
    (fun s Q => RetL s (fun r => l = r) Q) := by
  subst hl
  have x := sieve_call w n t1
  simp only [eq_comm (b := sieveL n)] at x ⊢
  exact x
theorem fact2 (w : World) (n wd : Int) (t1 t2 : Tok) (x : Int) (hx : factV 4 n = x) (hn : n ≤ 31) : Call w 107 84 964 [.int n t1, .int wd t2, .ref 135] (fun h => 0 ≤ n ∧ 4 ≤ wd ∧ wd ≤ 8)
    (fun s Q => RetL s (fun r => val (2 ^ wd.toNat) r = x ∧ Limbs (2 ^ wd.toNat) r ∧ r.length < 1000000) Q) := by
  subst hx
  intro mean mg mb edp eun egd ecn ecs ea eccd ecl eouter eA₀ ebase eh₀ eL em s Q E c1 c2 c3 c4 c5 c6 c7 hpre hret
  have hl : flen 4 < 1000000 := by decide
  exact fa_all w 4 n wd t1 t2 (by simp; omega) mean mg mb edp eun egd ecn ecs ea eccd ecl eouter eA₀ ebase eh₀ eL em s Q E c1 c2 c3 c4 c5 c6 c7 ⟨hpre.1, by omega, by decide, hpre.2.1, hpre.2.2⟩ (fun r vs n' ns h' tk' a b c d e => hret r vs n' ns h' tk' a b c d ⟨e.1, e.2.1, Nat.lt_of_le_of_lt e.2.2 hl⟩)
theorem prim2 (w : World) (n wd : Int) (t1 t2 : Tok) (x : Int) (hx : prodL (sieveL n) = x) : Call w 114 60 800 [.int n t1, .int wd t2, .ref 135] (fun h => 0 ≤ n ∧ n ≤ 40 ∧ 4 ≤ wd ∧ wd ≤ 8)
    (fun s Q => RetL s (fun r => val (2 ^ wd.toNat) r = x ∧ Limbs (2 ^ wd.toNat) r ∧ r.length < 1000000) Q) := by
  subst hx
  intro mean mg mb edp eun egd ecn ecs ea eccd ecl eouter eA₀ ebase eh₀ eL em s Q E c1 c2 c3 c4 c5 c6 c7 hpre hret
  exact primorial_call w n wd t1 t2 mean mg mb edp eun egd ecn ecs ea eccd ecl eouter eA₀ ebase eh₀ eL em s Q E c1 c2 c3 c4 c5 c6 c7 hpre (fun r vs n' ns h' tk' a b c d e => hret r vs n' ns h' tk' a b c d ⟨e.1, e.2.1, by omega⟩)
theorem bin2 (w : World) (n k wd : Int) (t1 t2 t3 : Tok) (x : Int) (hx : binV n k = x) : Call w 128 60 800 [.int n t1, .int k t2, .int wd t3, .ref 135] (fun h => 0 ≤ k ∧ k ≤ n ∧ n ≤ 32 ∧ 4 ≤ wd ∧ wd ≤ 8)
    (fun s Q => RetL s (fun r => val (2 ^ wd.toNat) r = x ∧ Limbs (2 ^ wd.toNat) r ∧ r.length < 1000000) Q) := by
  subst hx
  intro mean mg mb edp eun egd ecn ecs ea eccd ecl eouter eA₀ ebase eh₀ eL em s Q E c1 c2 c3 c4 c5 c6 c7 hpre hret
  exact binom_call w n k wd t1 t2 t3 mean mg mb edp eun egd ecn ecs ea eccd ecl eouter eA₀ ebase eh₀ eL em s Q E c1 c2 c3 c4 c5 c6 c7 hpre (fun r vs n' ns h' tk' a b c d e => hret r vs n' ns h' tk' a b c d ⟨e.1, e.2.1, by omega⟩)
theorem plain2 (w : World) (l : Addr) (vs : List Value) (ns : List Int) (wd : Int) (t : Tok) (x : Int) (hx : val (2 ^ wd.toNat) ns = x) : Call w 149 4 32 [.ref l, .int wd t]
    (fun h => h.IsList l vs.toArray ∧ IntsAre vs ns ∧ Limbs (2 ^ wd.toNat) ns ∧ ns.length < 1000000 ∧ x < 1152921504606846976 ∧ 4 ≤ wd ∧ wd ≤ 8)
    (fun s Q => RetV s (fun v => ∃ t, v = .int x t) Q) := by
  subst hx
  exact plain_call w l vs ns wd t
theorem div2 (w : World) (a b : Int) (t1 t2 : Tok) (x : Int) (hx : (Int.gcd a b : Int) = x) : Call w 161 4 32 [.int a t1, .int b t2]
    (fun h => 0 ≤ a ∧ 0 ≤ b)
    (fun s Q => RetV s (fun v => ∃ t, v = .int x t) Q) := by
  subst hx
  exact div_call w a b t1 t2
theorem law_turn (w : World) {tgt : Expr} {body : List Stmt} {sc : Scope} (hp : lawParts PySem.Challenge.pw_tk0044_01.main.body = some (tgt, body, sc)) {mean : ExcName → Option Value} {mg mb : Str → Option Value} {h₀ : Heap} {L fa : Addr} {cdv : Value} (KB0 : Below callerA h₀ [] h₀) (KX0 : (hd.heap_39 w.params).In h₀) (KT0 : Top hd.view_39 (looseW hd.view_39 []) mean mg mb h₀)
    {s : Shared} {m : Str → Option Value} {I : Addr} {oI on ow : Obj} {xn : Option Value} {n wd : Int} {tn tw : Tok} (F1 : Fr h₀ L s.heap m) (N1 : News h₀ L s.heap [(I, oI), (L + 1 + 1, on), (L + 1, ow)]) (hIn : (@Ne Nat (L + 1 + 1) I)) (hIw : (@Ne Nat (L + 1) I)) (hdn : on.data = .cell xn) (hdw : ow.data = .cell (some (.int wd tw)))
    (hn0 : 2 ≤ n) (hn1 : n ≤ 19) (hw0 : 4 ≤ wd) (hw1 : wd ≤ 8) (E : Value → Shared → Prop) (Q : Flow → Shared → Prop) :
    wpAny (model PySem.Challenge.rw_tk0044_01.row.prog w) (callerA.deeper (envOfC (Str.ofString "law") sc L fa cdv)) (assign tgt (envOfC (Str.ofString "law") sc L fa cdv) (.int n tn)) (fun _ s₃ => wpAny (model PySem.Challenge.rw_tk0044_01.row.prog w) (callerA.deeper (envOfC (Str.ofString "law") sc L fa cdv)) (execs body (envOfC (Str.ofString "law") sc L fa cdv))
      (GrPost h₀ L s (fun c : Obj => [(L + 1 + 1, c), (L + 1, ow)]) (fun _ => []) [Str.ofString "is_prime", Str.ofString "told", Str.ofString "whole", Str.ofString "ahead", Str.ofString "parts"] m (fun c => ∃ x, c.data = .cell x) I oI (I, oI) Q) E s₃) E s := by
  have e : lawParts PySem.Challenge.pw_tk0044_01.main.body = some (_, _, _) := rfl
  have hp' := e.symm.trans hp
  injection hp' with hp'
  injection hp' with hp1 hp'
  injection hp' with hp2 hp3
  subst hp1 hp2 hp3
  clear hp e
  revert KX0
  k_fill
  intro KX0
  obtain ⟨bp, hbp⟩ : ∃ b, decide (trL n = []) = b := ⟨_, rfl⟩
  obtain ⟨sn, hsn⟩ : ∃ b, sieveL n = b := ⟨_, rfl⟩
  obtain ⟨sm, hsm⟩ : ∃ b, sieveL (n - 1) = b := ⟨_, rfl⟩
  obtain ⟨fm, hfm⟩ : ∃ x, factV 4 (n - 1) = x := ⟨_, rfl⟩
  obtain ⟨fn, hfn⟩ : ∃ x, factV 4 n = x := ⟨_, rfl⟩
  obtain ⟨pm, hpm⟩ : ∃ x, prodL (sieveL (n - 1)) = x := ⟨_, rfl⟩
  obtain ⟨pn, hpn⟩ : ∃ x, prodL (sieveL n) = x := ⟨_, rfl⟩
  have hbf : 0 ≤ fm ∧ fm < 1152921504606846976 ∧ 0 ≤ fn ∧ fn < 1152921504606846976 := by have h := (plain_at hn0 hn1).1; rw [hfm, hfn] at h; exact h
  have hbq : 0 ≤ pm ∧ pm < 1152921504606846976 ∧ 0 ≤ pn ∧ pn < 1152921504606846976 := by have h := (plain_at hn0 hn1).2.1; rw [hpm, hpn] at h; exact h
  obtain ⟨gx, hgx⟩ : ∃ x, (Int.gcd pm n : Int) = x := ⟨_, rfl⟩
  k_with_none
  k_with "exec If" => refine Stop.out ?_
  k_with "GrPost" => dsimp only [GrPost]
  k_with "GrEnd" => refine Stop.out ?_
  k_with "call ref" => (k_here; (with_reducible show wpAny _ _ (PySem.call (Value.ref 154) _) _ _ _); k_dflt (refine' (tried_call2 w n) _ bp hbp _ _ _ _ _ _ _ _ _ _ _ _ _ _ _ _ _ _ _ _ ?c1 ?c2 ?c3 ?c4 ?c5 ?c6 ?c7 ?c8 (RetV.use ?cF ?cN ?_); (case c1 => k_asm); (case c2 => k_asm); (case c3 => k_asm); (case c4 => k_asm); (case c5 => first | exact rfl | assumption); (case c8 => exact ⟨by omega, by omega⟩);  (case c6 => ktr_room); (case c7 => ktr_units); (case cF => k_asm); (case cN => k_asm)); rintro v9 h9 tk9 F9 N9 rfl; (try dsimp only); (try k_fold))
  k_with "call ref" => (k_here; (with_reducible show wpAny _ _ (PySem.call (Value.ref 60) _) _ _ _); k_dflt (refine' (sieve_call2 w n) _ sn hsn _ _ _ _ _ _ _ _ _ _ _ _ _ _ _ _ _ _ _ _ ?c1 ?c2 ?c3 ?c4 ?c5 ?c6 ?c7 ?c8 (RetL.use ?cF ?cN ?_); (case c1 => k_asm); (case c2 => k_asm); (case c3 => k_asm); (case c4 => k_asm); (case c5 => first | exact rfl | assumption); (case c8 => exact ⟨by omega, by omega⟩);  (case c6 => ktr_room); (case c7 => ktr_units); (case cF => k_asm); (case cN => k_asm)); rintro r9 vs9 n9 ns9 h9 tk9 F9 N9 o9 i9 rfl; (try dsimp only); (try k_fold))
  k_steps
  unfold Stop
  rename Fr _ _ _ _ => F2
  rename News _ _ _ _ => N2
  k_with_none
  k_with "CompSrcT" => refine Stop.out ?_
  k_with "eval Name" => refine Stop.out ?_
  k_with "eval ListComp" => refine Stop.out ?_
  k_with "exec Assign" => refine Stop.out ?_
  k_with "call ref" => (k_here; (with_reducible show wpAny _ _ (PySem.call (Value.ref 154) _) _ _ _); k_dflt (refine' (tried_call w n) _ _ _ _ _ _ _ _ _ _ _ _ _ _ _ _ _ _ _ _ _ ?c1 ?c2 ?c3 ?c4 ?c5 ?c6 ?c7 ?c8 (RetV.use ?cF ?cN ?_); (case c1 => k_asm); (case c2 => k_asm); (case c3 => k_asm); (case c4 => k_asm); (case c5 => first | exact rfl | assumption); (case c8 => exact ⟨by omega, by omega⟩);  (case c6 => ktr_room); (case c7 => ktr_units); (case cF => k_asm); (case cN => k_asm)); rintro v9 h9 tk9 F9 N9 rfl; (try dsimp only); (try k_fold))
  k_with "call ref" => (k_here; (with_reducible show wpAny _ _ (PySem.call (Value.ref 60) _) _ _ _); k_dflt (refine' (sieve_call2 w (n - 1)) _ sm hsm _ _ _ _ _ _ _ _ _ _ _ _ _ _ _ _ _ _ _ _ ?c1 ?c2 ?c3 ?c4 ?c5 ?c6 ?c7 ?c8 (RetL.use ?cF ?cN ?_); (case c1 => k_asm); (case c2 => k_asm); (case c3 => k_asm); (case c4 => k_asm); (case c5 => first | exact rfl | assumption); (case c8 => exact ⟨by omega, by omega⟩);  (case c6 => ktr_room); (case c7 => ktr_units); (case cF => k_asm); (case cN => k_asm)); rintro r9 vs9 n9 ns9 h9 tk9 F9 N9 o9 i9 P9; (try dsimp only); (try k_fold))
  k_steps
  unfold Stop
  refine' nameX_L ?F ?v ?_ ?a ?b
  case' F => k_asm
  case' a => exact rfl
  case' b => exact rfl
  case' v => rfl
  k_with_none
  k_dflt (refine LCt.ListComp_T (F₀ := by k_asm) (by with_unfolding_all rfl) (by decide) (by rfl) (by decide) (by rfl) ?_)
  change wpAny _ _ _ (fun v s' => Stop _) _ _
  k_steps
  unfold Stop
  rename Fr _ _ _ _ => F3
  rename News _ _ _ _ => N3
  obtain ⟨led, hled, N4⟩ : ∃ led, led = _ ∧ News h₀ L _ led := ⟨_, rfl, N3⟩
  refine LCt.CompSrcT.range (n := (n - 1).toNat) (by rfl) F3 N4 (by assumption) (range_small (by omega) (by omega) (by omega) (by omega) (by omega) (by omega)).1 (by unfold Builtin.Range.rangeSize; simp only [show (1:Int) > 0 by decide, if_true]; split <;> omega) (by rw [sizeLine_eq]; omega) ?_
  intro g
  refine comp_restT (n := (n - 1).toNat) (fun i ys news => news = led ∧ IntsAre ys ((rangeKs 2 i).filter fun x => decide (trL x = []))) ?_ ?_ _ 0 [] _ (Nat.zero_add _) ⟨rfl, .nil⟩
  · rintro i ys news v I2 oI2 C oC D m₂ h tk E' hi ⟨t, rfl⟩ ⟨rfl, hL⟩ hC hx F5 N5 off ne
    subst hled
    obtain ⟨b, hb⟩ : ∃ b, decide (trL (2 + (i : Int)) = []) = b := ⟨_, rfl⟩
    have hf : (rangeKs 2 (i + 1)) = rangeKs 2 i ++ [2 + (i : Int)] := by simp [rangeKs, List.range_succ]
    k_with "call ref" => (k_here; (with_reducible show wpAny _ _ (PySem.call (Value.ref 154) _) _ _ _); k_dflt (refine' (tried_call2 w (2 + (i : Int))) _ _ hb _ _ _ _ _ _ _ _ _ _ _ _ _ _ _ _ _ _ _ _ ?c1 ?c2 ?c3 ?c4 ?c5 ?c6 ?c7 ?c8 (RetV.use ?cF ?cN ?_); (case c1 => k_asm); (case c2 => k_asm); (case c3 => k_asm); (case c4 => k_asm); (case c5 => first | exact rfl | assumption); (case c8 => exact ⟨by omega, by omega⟩);  (case c6 => ktr_room); (case c7 => ktr_units); (case cF => k_asm); (case cN => k_asm)); rintro v9 h9 tk9 F9 N9 rfl; (try dsimp only); (try k_fold))
    k_with "CompEnd" => refine Stop.out ?_
    cases b
    · k_steps
      unfold Stop
      rename Fr _ _ _ _ => F6
      rename News _ _ _ _ => N6
      refine LCg.CompEnd.intro F6 N6 _ (fun p hp => hp) off trivial ⟨rfl, ?_⟩
      rw [hf, List.filter_append, List.filter_cons_of_neg (by rw [hb]; exact Bool.false_ne_true), List.filter_nil, List.append_nil]
      exact hL
    · k_steps
      unfold Stop
      rename Fr _ _ _ _ => F6
      rename News _ _ _ _ => N6
      refine LCg.CompEnd.intro F6 N6 _ (fun p hp => hp) off trivial ⟨rfl, ?_⟩
      rw [hf, List.filter_append, List.filter_cons_of_pos (by rw [hb]), List.filter_nil]
      exact hL.append (.cons _ _ .nil)
  rintro ys news ⟨rfl, hL⟩ D h tk F5 N5 off
  subst hled
  clear F3 N3 N4
  have hA : (!decide (sn = (rangeKs 2 (n - 1).toNat).filter fun x => decide (trL x = []))) = false := by rw [decide_eq_true (hsn.symm.trans (plain_at hn0 hn1).2.2.1)]; rfl
  have hB : (!decide (sn = sm)) = bp := by have h := (plain_at hn0 hn1).2.2.2.1; rw [hsn, hsm, hbp] at h; exact h
  k_with_none
  k_with "exec Assign" => refine Stop.out ?_
  k_with "call ref" => (k_here; (with_reducible show wpAny _ _ (PySem.call (Value.ref 60) _) _ _ _); k_dflt (refine' (sieve_call2 w (n - 1)) _ sm hsm _ _ _ _ _ _ _ _ _ _ _ _ _ _ _ _ _ _ _ _ ?c1 ?c2 ?c3 ?c4 ?c5 ?c6 ?c7 ?c8 (RetL.use ?cF ?cN ?_); (case c1 => k_asm); (case c2 => k_asm); (case c3 => k_asm); (case c4 => k_asm); (case c5 => first | exact rfl | assumption); (case c8 => exact ⟨by omega, by omega⟩);  (case c6 => ktr_room); (case c7 => ktr_units); (case cF => k_asm); (case cN => k_asm)); rintro r9 vs9 n9 ns9 h9 tk9 F9 N9 o9 i9 rfl; (try dsimp only); (try k_fold))
  k_with "compareOp NotEq ref ref" => (k_here; k_dflt (refine' ne_intsK ?k1 ?k2 ?k3 ?k4 ?k5 ?_; (case k1 => exact news_list (by assumption) (by kst_entry)); (case k2 => assumption); (case k3 => exact news_list (by assumption) (by kst_entry)); (case k4 => assumption); (case k5 => ktr_units)); first | rw [hA] | rw [hB])
  k_with "ite" => (refine ite_neg (by rw [hB, bne_self_eq_false]; exact Bool.false_ne_true) ?_)
  k_steps
  unfold Stop
  clear off hL
  k_with_none
  k_with "exec If" => refine Stop.out ?_
  k_with "call ref" => (k_here; (with_reducible show wpAny _ _ (PySem.call (Value.ref 149) _) _ _ _); k_dflt (refine' (plain2 w r9 vs9 ns9 wd) _ _ P9a _ _ _ _ _ _ _ _ _ _ _ _ _ _ _ _ _ _ _ _ ?c1 ?c2 ?c3 ?c4 ?c5 ?c6 ?c7 ?c8 (RetV.use ?cF ?cN ?_); (case c1 => k_asm); (case c2 => k_asm); (case c3 => k_asm); (case c4 => k_asm); (case c5 => first | exact rfl | assumption); (case c8 => exact ⟨news_list N9 (by kst_entry), i9, P9b, P9c, by omega, hw0, hw1⟩);  (case c6 => ktr_room); (case c7 => ktr_units); (case cF => k_asm); (case cN => k_asm)); rintro v9 h9 tk9 F9 N9 ⟨t9, rfl⟩; (try dsimp only); (try k_fold))
  k_with "call ref" => (k_here; (with_reducible show wpAny _ _ (PySem.call (Value.ref 107) _) _ _ _); k_dflt (refine' (fact2 w (n - 1) wd) _ _ fm hfm (by omega) _ _ _ _ _ _ _ _ _ _ _ _ _ _ _ _ _ _ _ _ ?c1 ?c2 ?c3 ?c4 ?c5 ?c6 ?c7 ?c8 (RetL.use ?cF ?cN ?_); (case c1 => k_asm); (case c2 => k_asm); (case c3 => k_asm); (case c4 => k_asm); (case c5 => first | exact rfl | assumption); (case c8 => exact ⟨by omega, hw0, hw1⟩);  (case c6 => ktr_room); (case c7 => ktr_units); (case cF => k_asm); (case cN => k_asm)); rintro r9 vs9 n9 ns9 h9 tk9 F9 N9 o9 i9 ⟨P9a, P9b, P9c⟩; (try dsimp only); (try k_fold))
  k_with "call ref" => (k_here; (with_reducible show wpAny _ _ (PySem.call (Value.ref 114) _) _ _ _); k_dflt (refine' (prim2 w (n - 1) wd) _ _ pm hpm _ _ _ _ _ _ _ _ _ _ _ _ _ _ _ _ _ _ _ _ ?c1 ?c2 ?c3 ?c4 ?c5 ?c6 ?c7 ?c8 (RetL.use ?cF ?cN ?_); (case c1 => k_asm); (case c2 => k_asm); (case c3 => k_asm); (case c4 => k_asm); (case c5 => first | exact rfl | assumption); (case c8 => exact ⟨by omega, by omega, hw0, hw1⟩);  (case c6 => ktr_room); (case c7 => ktr_units); (case cF => k_asm); (case cN => k_asm)); rintro r9 vs9 n9 ns9 h9 tk9 F9 N9 o9 i9 ⟨P9a, P9b, P9c⟩; (try dsimp only); (try k_fold))
  k_steps
  unfold Stop
  have hC : (fm.fmod n == n - 1) = bp := by have h := (plain_at hn0 hn1).2.2.2.2.1; rw [hfm, hbp] at h; exact h
  have hD : (gx == 1) = bp := by have h := (plain_at hn0 hn1).2.2.2.2.2.1; rw [hpm, hgx, hbp] at h; exact h
  k_with_none
  k_with "CompSrc" => refine Stop.out ?_
  k_with "call ref" => (k_here; (with_reducible show wpAny _ _ (PySem.call (Value.ref 161) _) _ _ _); k_dflt (refine' (div2 w pm n) _ _ gx hgx _ _ _ _ _ _ _ _ _ _ _ _ _ _ _ _ _ _ _ _ ?c1 ?c2 ?c3 ?c4 ?c5 ?c6 ?c7 ?c8 (RetV.use ?cF ?cN ?_); (case c1 => k_asm); (case c2 => k_asm); (case c3 => k_asm); (case c4 => k_asm); (case c5 => first | exact rfl | assumption); (case c8 => exact ⟨by omega, by omega⟩);  (case c6 => ktr_room); (case c7 => ktr_units); (case cF => k_asm); (case cN => k_asm)); rintro v9 h9 tk9 F9 N9 ⟨t9, rfl⟩; (try dsimp only); (try k_fold))
  k_with "ite" => (refine ite_neg (by first | (rw [hC, bne_self_eq_false]; exact Bool.false_ne_true) | (rw [hD, bne_self_eq_false]; exact Bool.false_ne_true) | (simp [hC]; done) | (simp [hD]; done)) ?_)
  k_steps
  unfold Stop
  have hfd : n.fdiv 2 = n / 2 := Int.fdiv_eq_ediv_of_nonneg _ (by omega)
  have hbin : ∀ k, 1 ≤ k → k ≤ n / 2 → 0 ≤ binV n k ∧ binV n k < 1152921504606846976 := fun k h1 h2 => (plain_at hn0 hn1).2.2.2.2.2.2.1 k (mem_range1 h1 (by omega))
  rename Fr _ _ _ _ => F7
  rename News _ _ _ _ => N7
  obtain ⟨led, hled, N8⟩ : ∃ led, led = _ ∧ News h₀ L _ led := ⟨_, rfl, N7⟩
  refine LCg.CompSrc.range (n := (n / 2).toNat) (by rfl) F7 N8 (by assumption) (range_small (by omega) (by omega) (by omega) (by omega) (by omega) (by omega)).1 (by unfold Builtin.Range.rangeSize; simp only [show (1:Int) > 0 by decide, if_true]; split <;> omega) (by rw [sizeLine_eq]; omega) ?_
  intro g3
  refine comp_rest (n := (n / 2).toNat) (fun i ys news => news = led ∧ IntsAre ys ((rangeKs 1 i).map (binV n))) ?_ ?_ _ 0 [] _ (Nat.zero_add _) ⟨rfl, .nil⟩
  · rintro i ys news v I2 oI2 C oC D3 m₂ h tk E' hi ⟨t, rfl⟩ ⟨rfl, hL⟩ hC2 hx F5 N5 off ne
    subst hled
    obtain ⟨bx, hbx⟩ : ∃ b, binV n (1 + (i : Int)) = b := ⟨_, rfl⟩
    have hb2 := hbin (1 + (i : Int)) (by omega) (by omega)
    rw [hbx] at hb2
    have hf : (rangeKs 1 (i + 1)) = rangeKs 1 i ++ [1 + (i : Int)] := by simp [rangeKs, List.range_succ]
    k_with_none
    k_with "call ref" => (k_here; (with_reducible show wpAny _ _ (PySem.call (Value.ref 128) _) _ _ _); k_dflt (refine' (bin2 w n (1 + (i : Int)) wd) _ _ _ bx hbx _ _ _ _ _ _ _ _ _ _ _ _ _ _ _ _ _ _ _ _ ?c1 ?c2 ?c3 ?c4 ?c5 ?c6 ?c7 ?c8 (RetL.use ?cF ?cN ?_); (case c1 => k_asm); (case c2 => k_asm); (case c3 => k_asm); (case c4 => k_asm); (case c5 => first | exact rfl | assumption); (case c8 => exact ⟨by omega, by omega, by omega, hw0, hw1⟩);  (case c6 => ktr_room); (case c7 => ktr_units); (case cF => k_asm); (case cN => k_asm)); rintro r9 vs9 n9 ns9 h9 tk9 F9 N9 o9 i9 ⟨P9a, P9b, P9c⟩; (try dsimp only); (try k_fold))
    k_with "call ref" => (k_here; (with_reducible show wpAny _ _ (PySem.call (Value.ref 149) _) _ _ _); k_dflt (refine' (plain2 w r9 vs9 ns9 wd) _ _ P9a _ _ _ _ _ _ _ _ _ _ _ _ _ _ _ _ _ _ _ _ ?c1 ?c2 ?c3 ?c4 ?c5 ?c6 ?c7 ?c8 (RetV.use ?cF ?cN ?_); (case c1 => k_asm); (case c2 => k_asm); (case c3 => k_asm); (case c4 => k_asm); (case c5 => first | exact rfl | assumption); (case c8 => exact ⟨news_list N9 (by kst_entry), i9, P9b, P9c, by omega, hw0, hw1⟩);  (case c6 => ktr_room); (case c7 => ktr_units); (case cF => k_asm); (case cN => k_asm)); rintro v9 h9 tk9 F9 N9 ⟨t9, rfl⟩; (try dsimp only); (try k_fold))
    k_with "CompEnd" => refine Stop.out ?_
    k_steps
    unfold Stop
    refine LCg.CompEnd.intro F9 N9 _ (fun p hp => List.mem_cons_of_mem _ hp) off trivial ⟨rfl, ?_⟩
    rw [hf, List.map_append, List.map_cons, List.map_nil, hbx]
    exact hL.append (.cons _ _ .nil)
  rintro ys news ⟨rfl, hL⟩ D3 h tk F8 N10 off3
  subst hled
  clear F7 N7 N8
  obtain ⟨bl, hbl⟩ : ∃ l, (rangeKs 1 (n / 2).toNat).map (binV n) = l := ⟨_, rfl⟩
  rw [hbl] at hL
  k_with_none
  k_with "eval Compare" => refine Stop.out ?_
  k_steps
  unfold Stop
  k_with_none
  walk_at "eval Compare"
  k_dflt (refine LCt.ListComp_T (F₀ := by k_asm) (by with_unfolding_all rfl) (by decide) (by rfl) (by decide) (by rfl) ?_)
  change wpAny _ _ _ (fun v s' => Stop _) _ _
  k_steps
  unfold Stop
  have hyl := hL.length
  have hbll : bl.length = (n / 2).toNat := by rw [← hbl, List.length_map, rangeKs_length]
  obtain ⟨led, hled, N11⟩ : ∃ led, led = _ ∧ News h₀ L _ led := ⟨_, rfl, N10⟩
  refine LCt.CompSrcT.ledger (by rfl) F8 N11 (by rw [hled]; exact List.Mem.head _) (by rw [List.size_toArray, sizeLine_eq]; omega) ?_
  intro g4
  refine comp_restT (n := ys.toArray.size) (fun i zs news => news = led ∧ IntsAre zs ((bl.take i).filter fun x => x.fmod n != 0)) ?_ ?_ _ 0 [] _ (Nat.zero_add _) ⟨rfl, .nil⟩
  · rintro i zs news v I2 oI2 C oC D4 m₂ h4 tk4 E' hi hv ⟨rfl, hL4⟩ hC2 hx F11 N12 off ne
    subst hled
    obtain ⟨p, tp, rfl, hpv⟩ := IntsAre.at hL i v (by simpa using hv)
    have hq : bl.take (i + 1) = bl.take i ++ [p] := by rw [List.take_add_one, hpv]; rfl
    k_with_none
    k_with "CompEnd" => refine Stop.out ?_
    k_steps
    all_goals unfold Stop
    · have hp0 : p.fmod n ≠ 0 := by assumption
      refine LCg.CompEnd.intro F11 N12 _ (fun p hp => hp) off (.inr ⟨_, .head _, rfl, _, rfl⟩) ⟨rfl, ?_⟩
      rw [hq, List.filter_append, List.filter_cons_of_pos (by simpa using hp0), List.filter_nil]
      exact hL4.append (.cons _ _ .nil)
    · have hp0 : p.fmod n = 0 := by assumption
      refine LCg.CompEnd.intro F11 N12 _ (fun p hp => hp) off (.inr ⟨_, .head _, rfl, _, rfl⟩) ⟨rfl, ?_⟩
      rw [hq, List.filter_append, List.filter_cons_of_neg (by simpa using hp0), List.filter_nil, List.append_nil]
      exact hL4
  rintro zs news ⟨rfl, hL4⟩ D4 h tk F12 N13 off4
  subst hled
  rw [List.take_of_length_le (by rw [List.size_toArray]; omega)] at hL4
  have hE : decide ((bl.filter fun x => x.fmod n != 0) = []) = bp := by have h := (plain_at hn0 hn1).2.2.2.2.2.2.2.1; rw [hbl, hbp] at h; exact h
  have hG0 : bl.getD (Int.toNat 0) 0 = n := by have h := (plain_at hn0 hn1).2.2.2.2.2.2.2.2.1; rw [hbl] at h; exact h
  clear F8 N10 N11
  k_with_none
  k_with "compareOp Eq ref ref" => (k_here; k_dflt (refine' eq_intsK (us := []) (ms := []) ?k1 ?k2 ?k3 .nil ?k5 ?_; (case k1 => exact news_list (by assumption) (by kst_entry)); (case k2 => assumption); (case k3 => exact news_list (by assumption) (by kst_entry)); (case k5 => ktr_units)))
  k_with "ite" => (refine ite_neg (by first | (rw [hE, bne_self_eq_false]; exact Bool.false_ne_true) | exact fun h => h hG0 | exact fun h => (of_decide_eq_true h) hG0 | exact fun h => (bne_iff_ne.mp h) hG0) ?_)
  k_with "exec If" => refine Stop.out ?_
  k_steps
  · exact absurd hG0 (by assumption)
  unfold Stop
  k_with_none
  have hH : fn = fm * n := by have h := (plain_at hn0 hn1).2.2.2.2.2.2.2.2.2.1; rw [hfn, hfm] at h; exact h
  have hmu : IntMulOk fm n := mulok_small (by omega) (by omega)
  have hmp : IntMulOk pm n := mulok_small (by omega) (by omega)
  k_with "GrPost" => dsimp only [GrPost]
  k_with "GrEnd" => refine Stop.out ?_
  k_with "ite" => (refine ite_neg (by first | exact fun h => h hH | exact fun h => (of_decide_eq_true h) hH | exact fun h => (bne_iff_ne.mp h) hH) ?_)
  k_with "call ref" => (k_here; (with_reducible show wpAny _ _ (PySem.call (Value.ref 149) _) _ _ _); k_dflt (refine' (plain2 w r9 vs9 ns9 wd) _ _ P9a _ _ _ _ _ _ _ _ _ _ _ _ _ _ _ _ _ _ _ _ ?c1 ?c2 ?c3 ?c4 ?c5 ?c6 ?c7 ?c8 (RetV.use ?cF ?cN ?_); (case c1 => k_asm); (case c2 => k_asm); (case c3 => k_asm); (case c4 => k_asm); (case c5 => first | exact rfl | assumption); (case c8 => exact ⟨news_list N9 (by kst_entry), i9, P9b, P9c, by omega, hw0, hw1⟩);  (case c6 => ktr_room); (case c7 => ktr_units); (case cF => k_asm); (case cN => k_asm)); rintro v9 h9 tk9 F9 N9 ⟨t9, rfl⟩; (try dsimp only); (try k_fold))
  k_with "call ref" => (k_here; (with_reducible show wpAny _ _ (PySem.call (Value.ref 107) _) _ _ _); k_dflt (refine' (fact2 w n wd) _ _ fn hfn (by omega) _ _ _ _ _ _ _ _ _ _ _ _ _ _ _ _ _ _ _ _ ?c1 ?c2 ?c3 ?c4 ?c5 ?c6 ?c7 ?c8 (RetL.use ?cF ?cN ?_); (case c1 => k_asm); (case c2 => k_asm); (case c3 => k_asm); (case c4 => k_asm); (case c5 => first | exact rfl | assumption); (case c8 => exact ⟨by omega, hw0, hw1⟩);  (case c6 => ktr_room); (case c7 => ktr_units); (case cF => k_asm); (case cN => k_asm)); rintro r9 vs9 n9 ns9 h9 tk9 F9 N9 o9 i9 ⟨P9a, P9b, P9c⟩; (try dsimp only); (try k_fold))
  k_with "call ref" => (k_here; (with_reducible show wpAny _ _ (PySem.call (Value.ref 114) _) _ _ _); k_dflt (refine' (prim2 w n wd) _ _ pn hpn _ _ _ _ _ _ _ _ _ _ _ _ _ _ _ _ _ _ _ _ ?c1 ?c2 ?c3 ?c4 ?c5 ?c6 ?c7 ?c8 (RetL.use ?cF ?cN ?_); (case c1 => k_asm); (case c2 => k_asm); (case c3 => k_asm); (case c4 => k_asm); (case c5 => first | exact rfl | assumption); (case c8 => exact ⟨by omega, by omega, hw0, hw1⟩);  (case c6 => ktr_room); (case c7 => ktr_units); (case cF => k_asm); (case cN => k_asm)); rintro r9 vs9 n9 ns9 h9 tk9 F9 N9 o9 i9 ⟨P9a, P9b, P9c⟩; (try dsimp only); (try k_fold))
  k_steps
  · exact absurd hH (by assumption)
  · exact absurd (plain_new hn0 hn1 hbp hpm hpn (by assumption)) (by assumption)
  · unfold Stop
    rename _ = Data.cell (some (Value.int n tn)) => hdc
    refine GrEnd.intro _ F9 N9 (by kst_entry) (by kst_entry) (List.forall_mem_cons.mpr ⟨by kst_entry, List.forall_mem_cons.mpr ⟨by kst_entry, fun _ h => nomatch h⟩⟩) (List.forall_mem_cons.mpr ⟨hIn, List.forall_mem_cons.mpr ⟨hIw, fun _ h => nomatch h⟩⟩) (fun _ h => nomatch h) (by ksw_same) ⟨_, hdc⟩
  · exact absurd (plain_old hn0 hn1 hbp hpm hpn (by assumption)) (by assumption)
  · unfold Stop
    rename _ = Data.cell (some (Value.int n tn)) => hdc
    refine GrEnd.intro _ F9 N9 (by kst_entry) (by kst_entry) (List.forall_mem_cons.mpr ⟨by kst_entry, List.forall_mem_cons.mpr ⟨by kst_entry, fun _ h => nomatch h⟩⟩) (List.forall_mem_cons.mpr ⟨hIn, List.forall_mem_cons.mpr ⟨hIw, fun _ h => nomatch h⟩⟩) (fun _ h => nomatch h) (by ksw_same) ⟨_, hdc⟩
theorem fresh_N15 : True := by
  k_with_none
  w_top off
  trivial
theorem gr_mono {h₀ : Heap} {L : Addr} {s : Shared} {Led : Obj → List (Addr × Obj)} {stored : List Str} {m m₀ : Str → Option Value} {P : Obj → Prop} {I : Addr} {oI : Obj} {lo : Addr × Obj} {Q : Flow → Shared → Prop} (hm : ∀ z, stored.contains z = false → m z = m₀ z) (f : Flow) (s₂ : Shared)
    (h : GrPost h₀ L s Led (fun _ => []) stored m P I oI lo Q f s₂) : GrPost h₀ L s Led (fun _ => []) stored m₀ P I oI lo Q f s₂ := by
  have fin : GrEnd h₀ L s Led (fun _ => []) stored m P I oI lo s₂ → GrEnd h₀ L s Led (fun _ => []) stored m₀ P I oI lo s₂ := by
    rintro ⟨c', h', tk, m', news', e, F', N', a, b, c, d, g, hr, k⟩
    exact ⟨c', h', tk, m', news', e, F', N', a, b, c, d, g, fun z h1 h2 => (hr z h1 h2).trans (hm z h2), k⟩
  cases f with
  | ret v => exact h
  | brk => exact h
  | next => exact fin h
  | cont => exact fin h
theorem law_loop (w : World) {x : Str} {px : Pos} {body : List Stmt} {sc : Scope} (hp : lawParts PySem.Challenge.pw_tk0044_01.main.body = some (.Name x px, body, sc)) {mean : ExcName → Option Value} {mg mb : Str → Option Value} {h₀ : Heap} {L fa : Addr} {cdv : Value} (KB0 : Below callerA h₀ [] h₀) (KX0 : (hd.heap_39 w.params).In h₀) (KT0 : Top hd.view_39 (looseW hd.view_39 []) mean mg mb h₀)
    {s : Shared} {m : Str → Option Value} {r : Addr} {a₀ b₀ : Int} {t₀ u₀ v₀ : Tok} {on ow : Obj} {xn : Option Value} {wd : Int} {tw : Tok} (hr : IsRange s.heap r a₀ b₀ 1 t₀ u₀ v₀) (F : Fr h₀ L s.heap m) (N : News h₀ L s.heap [(L + 1 + 1, on), (L + 1, ow)]) (hdn : on.data = .cell xn) (hdw : ow.data = .cell (some (.int wd tw)))
    (ha : 2 ≤ a₀) (hab : a₀ ≤ b₀) (hb : b₀ ≤ 20) (hw0 : 4 ≤ wd) (hw1 : wd ≤ 8) (E : Value → Shared → Prop) (Q : Flow → Shared → Prop)
    (hQ : ∀ (u : Str → Option Value) h tk, Fr h₀ L h u → Q .next { s with heap := h, toks := tk }) :
    wpAny (model PySem.Challenge.rw_tk0044_01.row.prog w) (callerA.deeper (envOfC (Str.ofString "law") sc L fa cdv)) (pyIter (.ref r)) (fun it s₂ => TurnsAt PySem.Challenge.rw_tk0044_01.row.prog w (callerA.deeper (envOfC (Str.ofString "law") sc L fa cdv)) h₀ (envOfC (Str.ofString "law") sc L fa cdv) (.Name x px) body Q E it s₂) E s := by
  refine range_tgt (σ := Obj) (n := (b₀ - a₀).toNat) (fun c => [(L + 1 + 1, c), (L + 1, ow)]) (fun _ => []) [Str.ofString "is_prime", Str.ofString "told", Str.ofString "whole", Str.ofString "ahead", Str.ofString "parts"] (fun _ c => ∃ x, c.data = .cell x) on
    rfl hr (range_small (by omega) (by omega) (by omega) (by omega) (by omega) (by omega)).1 (by unfold Builtin.Range.rangeSize; simp only [show (1:Int) > 0 by decide, if_true]; split <;> omega) F N (fun _ h => nomatch h) ⟨xn, hdn⟩ ?_ ?_
  · rintro c i t u I oI h tk hi ⟨xc, hc⟩ hne F1 N1
    refine wpAny_mono (law_turn w hp KB0 KX0 KT0 (s := { s with heap := h, toks := tk }) F1 N1 (hne _ (.head _)) (hne _ (.tail _ (.head _))) hc hdw (by omega) (by omega) hw0 hw1 E Q) (fun _ s₃ h₃ => wpAny_mono h₃ (fun f s₂ p => gr_mono (fun z hz => ?_) f s₂ p) fun _ _ e => e) fun _ _ e => e
    simp only [kstB, hz]
    rfl
  · intro c u h tk _ F1 _
    exact hQ _ h tk F1
theorem fresh_N16 : True := by
  k_with_none
  w_top off
  trivial
theorem w_bd (x : Int) : 4 ≤ 4 + x.fmod 5 ∧ 4 + x.fmod 5 ≤ 8 := by
  have h1 := Int.fmod_nonneg_of_pos x (show (0:Int) < 5 by decide)
  have h2 := Int.fmod_lt_of_pos x (show (0:Int) < 5 by decide)
  omega
theorem a_bd (x : Int) : 2 ≤ 2 + x.fmod 15 := by
  have h1 := Int.fmod_nonneg_of_pos x (show (0:Int) < 15 by decide)
  omega
theorem f_bd (x y : Int) : 2 + x.fmod 15 ≤ 2 + x.fmod 15 + 2 + y.fmod 3 ∧ 2 + x.fmod 15 + 2 + y.fmod 3 ≤ 20 := by
  have h1 := Int.fmod_nonneg_of_pos x (show (0:Int) < 15 by decide)
  have h2 := Int.fmod_lt_of_pos x (show (0:Int) < 15 by decide)
  have h3 := Int.fmod_nonneg_of_pos y (show (0:Int) < 3 by decide)
  have h4 := Int.fmod_lt_of_pos y (show (0:Int) < 3 by decide)
  omega
theorem post_true (ks : List Int) : PySem.Challenge.rw_tk0044_01.row.claim.post [ofPy (PyData.list (List.map PyData.int ks))] (WData.bool true) [ofPy (PyData.list (List.map PyData.int ks))] = true := by
  wrow_post
theorem fresh_PW1 : True := by
  k_with_none
  w_top off
  trivial
theorem main : PySem.Challenge.rw_tk0044_01.Holds := by
  apply hd
  k_with_none
  k_with "exec For Name Call cons nil" => refine Stop.out ?_
  k_with "pyIter ref" => refine Stop.out ?_
  w_strict (k_go0; (all_goals try k_fold); k_steps
            all_goals (unfold Stop; (rename Fr _ _ _ _ => F9); (refine For_turns F9 ?_); k_steps)
            all_goals (unfold Stop; (rename News _ _ _ _ => N9); (refine law_loop _ rfl (by k_asm) (by k_asm) (by k_asm) (by k_asm) (by k_asm) (fun p hp => N9 p (.tail _ (.tail _ (.tail _ (.tail _ hp))))) (by k_asm) (by k_asm) (by exact a_bd _) (by exact (f_bd _ _).1) (by exact (f_bd _ _).2) (by exact (w_bd _).1) (by exact (w_bd _).2) _ _ ?_))
            all_goals ((intro u9 h9 tk9 F9); dsimp only; walk1; walk1; walk1; dsimp only; k_unfold; (try dsimp only); w_end; (exact goodW_bool (by assumption) (by assumption) (raisesW_false (by wrow_none_raised)) (post_true _))))
end Mine
theorem PySem.Challenge.cw_tk0044_01_holds : PySem.Challenge.rw_tk0044_01.Holds := by
  exact Mine.main
