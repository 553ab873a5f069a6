import PyProof.Rows.All
import Wide.All
import OpenK.AllK
import Wide.FinOn
import PySem.Challenge.RW_nu0151_01
open PySem PySem.W PyProof.Rows
set_option Elab.async false
namespace Mine

section
set_option maxRecDepth 100000 in
set_option maxHeartbeats 8000000 in
open_top hd for PySem.Challenge.rw_nu0151_01

end

section

def Stop (P : Prop) : Prop := P
theorem stop_ {P : Prop} (h : Stop P) : P := h
theorem Stop.go {P : Prop} (h : P) : Stop P := h

/-- the end of a loop's turn: the iterator stands, and J holds of the frame's map and of the rest of the ledger -/
def JEnd (h₀ : Heap) (L : Addr) (s₁ : Shared) (I : Addr) (it : Obj) (J : (Str → Option Value) → List (Addr × Obj) → Prop) (s₂ : Shared) : Prop :=
  ∃ h' tk m' news', s₂ = { s₁ with heap := h', toks := tk } ∧ Fr h₀ L h' m' ∧ News h₀ L h' ((I, it) :: news') ∧ (∀ p ∈ news', p.1 ≠ I ∨ p.2.cls ≠ it.cls) ∧ J m' news'
def JPost (h₀ : Heap) (L : Addr) (s₁ : Shared) (I : Addr) (it : Obj) (J : (Str → Option Value) → List (Addr × Obj) → Prop) (Q : Flow → Shared → Prop) (f : Flow) (s₂ : Shared) : Prop :=
  match f with
  | .ret v => Q (.ret v) s₂
  | .brk => Q .next s₂
  | _ => JEnd h₀ L s₁ I it J s₂

theorem JEnd.intro {h₀ : Heap} {L I : Addr} {it : Obj} {J : (Str → Option Value) → List (Addr × Obj) → Prop} {s₁ : Shared} {h' : Heap} {tk : Nat} {m' : Str → Option Value} {all : List (Addr × Obj)} (news' : List (Addr × Obj)) (F : Fr h₀ L h' m') (N : News h₀ L h' all)
    (sub : ∀ p ∈ (I, it) :: news', p ∈ all) (off : ∀ p ∈ news', p.1 ≠ I ∨ p.2.cls ≠ it.cls) (r : J m' news') : JEnd h₀ L s₁ I it J { s₁ with heap := h', toks := tk } := ⟨h', tk, m', news', rfl, F, fun p hp => N p (sub p hp), off, r⟩

theorem off_of {h₀ h : Heap} {L I : Addr} {it : Obj} {news : List (Addr × Obj)} (N : News h₀ L h ((I, it) :: news)) (off : ∀ p ∈ news, p.1 ≠ I ∨ p.2.cls ≠ it.cls) : ∀ p ∈ news, p.1 ≠ I := fun p hp e => by
  rcases off p hp with h1 | h1
  · exact h1 e
  · have a := (N _ (List.mem_cons_of_mem _ hp)).1
    have b := (N _ List.mem_cons_self).1
    rw [e] at a
    exact h1 (congrArg Obj.cls (Option.some.inj (a.symm.trans b)))

section
variable {prog : Program} {w : World} {A : Around} {E : Value → Shared → Prop} {s : Shared} {env : Env} {h₀ : Heap} {x : Str} {body : List Stmt} {Q : Flow → Shared → Prop}

theorem JPost.unr {I : Addr} {it : Obj} {J K : (Str → Option Value) → List (Addr × Obj) → Prop} {L : Addr} {s₁ s₂ : Shared} {f : Flow} (hJ : ∀ m n, J m n → K m n) (h : JPost h₀ L s₁ I it J Q f s₂) : UnrPost h₀ L s₁ I it K Q f s₂ := by
  have e : JEnd h₀ L s₁ I it J s₂ → UnrEnd h₀ L s₁ I it K s₂ := fun ⟨h', tk, m', news', e, F, N, off, r⟩ => ⟨h', tk, m', news', e, F, N, off_of N off, hJ _ _ r⟩
  cases f with
  | ret v => exact h
  | brk => exact h
  | next => exact e h
  | cont => exact e h

theorem iter_rangeJ {r : Addr} {a₀ b₀ : Int} {t₀ u₀ v₀ : Tok} {n : Nat} {m₀ : Str → Option Value} {news : List (Addr × Obj)} (J : Nat → (Str → Option Value) → List (Addr × Obj) → Prop)
    (hh : A.handled = none) (hr : IsRange s.heap r a₀ b₀ 1 t₀ u₀ v₀) (hsmall : Builtin.Range.small a₀ b₀ 1 = true) (hn : Builtin.Range.rangeSize a₀ b₀ 1 = (n : Int)) (F : Fr h₀ env.locals s.heap m₀) (N : News h₀ env.locals s.heap news)
    (h0 : J 0 m₀ news)
    (turn : ∀ (I : Addr) (i : Nat) m nw t h tk, (∀ p ∈ news, p.1 < I) → i < n → J i m nw → Fr h₀ env.locals h (fun y => if y = x then some (.int (a₀ + (i : Int)) t) else m y) →
      News h₀ env.locals h ((I, itR (a₀ + ((i + 1 : Nat) : Int)) ((n : Int) - ((i + 1 : Nat) : Int))) :: nw) →
      wpAny (model prog w) A (execs body env) (JPost h₀ env.locals { s with heap := h, toks := tk } I (itR (a₀ + ((i + 1 : Nat) : Int)) ((n : Int) - ((i + 1 : Nat) : Int))) (J (i + 1)) Q) E { s with heap := h, toks := tk })
    (done : ∀ m nw h tk, J n m nw → Fr h₀ env.locals h m → News h₀ env.locals h nw → Q .next { s with heap := h, toks := tk }) :
    wpAny (model prog w) A (pyIter (.ref r)) (fun it s₂ => LoopAtV prog w A h₀ env x body Q E it s₂) E s := by
  refine iter_rangeUnr hh hr hsmall hn F N fun I hI => ?_
  have all : ∀ k i m nw, i + k = n → J i m nw → RangeRest prog w A E h₀ env x body Q s I a₀ n k i m nw := by
    intro k
    induction k with
    | zero =>
      intro i m nw e hJ
      have e' : i = n := by omega
      subst e'
      exact RangeRest.zero fun h tk F N => done m nw h tk hJ F N
    | succ k ih =>
      intro i m nw e hJ
      refine RangeRest.succ fun t h tk F N => ?_
      exact wpAny_mono (turn I i m nw t h tk hI (by omega) hJ F N) (fun f s₂ p => JPost.unr (fun m n hj => ih (i + 1) m n (by omega) hj) p) fun _ _ e => e
  exact all n 0 m₀ news (by omega) h0

theorem iter_listJ {ax : Addr} {vs : List Value} {n : Nat} {m₀ : Str → Option Value} {news : List (Addr × Obj)} (J : Nat → (Str → Option Value) → List (Addr × Obj) → Prop)
    (hh : A.handled = none) (F : Fr h₀ env.locals s.heap m₀) (N : News h₀ env.locals s.heap news) (hm : (ax, listOf vs.toArray n) ∈ news)
    (h0 : J 0 m₀ news) (hmem : ∀ i m nw, J i m nw → (ax, listOf vs.toArray n) ∈ nw)
    (turn : ∀ (I : Addr) (it : Obj) (i : Nat) v m nw h tk, it.cls = .type "list_iterator" → (∀ p ∈ news, p.1 < I) → vs[i]? = some v → J i m nw → Fr h₀ env.locals h (fun y => if y = x then some v else m y) →
      News h₀ env.locals h ((I, it) :: nw) →
      wpAny (model prog w) A (execs body env) (JPost h₀ env.locals { s with heap := h, toks := tk } I it (J (i + 1)) Q) E { s with heap := h, toks := tk })
    (done : ∀ m nw h tk, J vs.length m nw → Fr h₀ env.locals h m → News h₀ env.locals h nw → Q .next { s with heap := h, toks := tk }) :
    wpAny (model prog w) A (pyIter (.ref ax)) (fun it s₂ => LoopAtV prog w A h₀ env x body Q E it s₂) E s := by
  refine iter_listUnr hh F N hm rfl rfl fun I hI => ?_
  have all : ∀ r i m nw, vs.drop i = r → i ≤ vs.length → J i m nw → ListRest prog w A E h₀ env x body Q s I (ax, listOf vs.toArray n) r m nw := by
    intro r
    induction r with
    | nil =>
      intro i m nw e hi hJ
      have e' : i = vs.length := by have := congrArg List.length e; simp at this; omega
      subst e'
      exact ListRest.zero fun h tk F N => done m nw h tk hJ F N
    | cons v r ih =>
      intro i m nw e hi hJ
      have hlt : i < vs.length := by
        have := congrArg List.length e
        simp at this
        omega
      have hv : vs[i]? = some v := by
        have : (vs.drop i)[0]? = some v := by rw [e]; rfl
        simpa using this
      have hr : vs.drop (i + 1) = r := by rw [← List.tail_drop, e]; rfl
      refine ListRest.succ fun it h tk hc F N => ?_
      exact wpAny_mono (turn I it i v m nw h tk hc hI hv hJ F N) (fun f s₂ p => JPost.unr (fun m n hj => ⟨hmem _ _ _ hj, ih (i + 1) m n hr hlt hj⟩) p) fun _ _ e => e
  exact all vs 0 m₀ news rfl (Nat.zero_le _) h0

theorem iter_revJ {ax I : Addr} {vs : List Value} {n : Nat} {m₀ : Str → Option Value} {news : List (Addr × Obj)} (J : Nat → (Str → Option Value) → List (Addr × Obj) → Prop)
    (hh : A.handled = none) (F : Fr h₀ env.locals s.heap m₀) (N : News h₀ env.locals s.heap ((I, revObj ax ((vs.length : Int) - 1)) :: news)) (hof : ∀ p ∈ news, p.1 ≠ I) (hm : (ax, listOf vs.toArray n) ∈ news)
    (h0 : J 0 m₀ news) (hmem : ∀ i m nw, J i m nw → (ax, listOf vs.toArray n) ∈ nw)
    (turn : ∀ (it : Obj) (i : Nat) v m nw h tk, it.cls = .type "list_reverseiterator" → vs.reverse[i]? = some v → J i m nw → Fr h₀ env.locals h (fun y => if y = x then some v else m y) →
      News h₀ env.locals h ((I, it) :: nw) →
      wpAny (model prog w) A (execs body env) (JPost h₀ env.locals { s with heap := h, toks := tk } I it (J (i + 1)) Q) E { s with heap := h, toks := tk })
    (done : ∀ m nw h tk, J vs.length m nw → Fr h₀ env.locals h m → News h₀ env.locals h nw → Q .next { s with heap := h, toks := tk }) :
    wpAny (model prog w) A (pyIter (.ref I)) (fun it s₂ => LoopAtV prog w A h₀ env x body Q E it s₂) E s := by
  have offI : ∀ l : List (Addr × Obj), (∀ p ∈ l, p.1 ≠ I) → OffI I (revObj ax ((vs.length : Int) - 1)) l := by
    intro l
    induction l with
    | nil => exact fun _ => trivial
    | cons p r ih => exact fun h => ⟨.inl (h p (.head _)), ih fun q hq => h q (.tail _ hq)⟩
  refine iter_revUnr hh F N (offI _ hof) hm rfl rfl ?_
  have all : ∀ r i m nw, vs.reverse.drop i = r → i ≤ vs.length → J i m nw → RevRest prog w A E h₀ env x body Q s I (ax, listOf vs.toArray n) r m nw := by
    intro r
    induction r with
    | nil =>
      intro i m nw e hi hJ
      have e' : i = vs.length := by have := congrArg List.length e; simp at this; omega
      subst e'
      exact RevRest.zero fun h tk F N => done m nw h tk hJ F N
    | cons v r ih =>
      intro i m nw e hi hJ
      have hlt : i < vs.length := by
        have := congrArg List.length e
        simp at this
        omega
      have hv : vs.reverse[i]? = some v := by
        have : (vs.reverse.drop i)[0]? = some v := by rw [e]; rfl
        simpa using this
      have hr : vs.reverse.drop (i + 1) = r := by rw [← List.tail_drop, e]; rfl
      refine RevRest.succ fun it h tk hc F N => ?_
      exact wpAny_mono (turn it i v m nw h tk hc hv hJ F N) (fun f s₂ p => JPost.unr (fun m n hj => ⟨hmem _ _ _ hj, ih (i + 1) m n hr hlt hj⟩) p) fun _ _ e => e
  exact all vs.reverse 0 m₀ news rfl (Nat.zero_le _) h0
end

/-- the frame's map, with one name's value said -/
theorem fr_say {h₀ h : Heap} {L : Addr} {m : Str → Option Value} (y : Str) {v : Value} (hv : m y = some v) (F : Fr h₀ L h m) : Fr h₀ L h (fun z => if z = y then some v else m z) := by
  have e : (fun z => if z = y then some v else m z) = m := by
    funext z
    by_cases h1 : z = y
    · rw [if_pos h1, h1, hv]
    · rw [if_neg h1]
  rw [e]; exact F
/-- the same behind the loop's own name -/
theorem fr_say2 {h₀ h : Heap} {L : Addr} {m : Str → Option Value} {x : Str} {u : Value} (y : Str) {v : Value} (hv : m y = some v) (F : Fr h₀ L h (fun z => if z = x then some u else m z)) :
    Fr h₀ L h (fun z => if z = x then some u else if z = y then some v else m z) := by
  have e : (fun z => if z = y then some v else m z) = m := by
    funext z
    by_cases h1 : z = y
    · rw [if_pos h1, h1, hv]
    · rw [if_neg h1]
  have e2 : (fun z => if z = x then some u else if z = y then some v else m z) = fun z => if z = x then some u else m z := by
    funext z
    have := congrFun e z
    rw [this]
  rw [e2]; exact F
theorem news_sub {h₀ h : Heap} {L : Addr} {l l' : List (Addr × Obj)} (N : News h₀ L h l) (hs : ∀ p ∈ l', p ∈ l) : News h₀ L h l' := fun p hp => N p (hs p hp)
theorem news_pick {h₀ h : Heap} {L : Addr} {p : Addr × Obj} {l all : List (Addr × Obj)} (N : News h₀ L h all) (hp : p ∈ all) (T : News h₀ L h l) : News h₀ L h (p :: l) := fun q hq =>
  (List.mem_cons.mp hq).elim (fun e => e ▸ N p hp) (T q)
theorem news_app {h₀ h : Heap} {L : Addr} {a b : List (Addr × Obj)} (A : News h₀ L h a) (B : News h₀ L h b) : News h₀ L h (a ++ b) := fun p hp => (List.mem_append.mp hp).elim (A p) (B p)
theorem pre_nil {pn : Addr} : ∀ p ∈ ([] : List (Addr × Obj)), p.1 ≠ pn := fun p hp => absurd hp List.not_mem_nil
theorem pre_cons {pn a : Addr} {o : Obj} {l : List (Addr × Obj)} (h : @Ne Nat a pn) (h' : ∀ p ∈ l, p.1 ≠ pn) : ∀ p ∈ (a, o) :: l, p.1 ≠ pn := fun p hp =>
  (List.mem_cons.mp hp).elim (fun e => e ▸ h) (h' p)
theorem pre0 {h₀ h : Heap} {L : Addr} {x : Addr × Obj} {l : List (Addr × Obj)} (N : News h₀ L h (x :: l)) : News h₀ L h ([] ++ x :: l) := N
theorem pre1 {h₀ h : Heap} {L : Addr} {a x : Addr × Obj} {l : List (Addr × Obj)} (N : News h₀ L h (a :: x :: l)) : News h₀ L h ([a] ++ x :: l) := N
theorem pre2 {h₀ h : Heap} {L : Addr} {a b x : Addr × Obj} {l : List (Addr × Obj)} (N : News h₀ L h (a :: b :: x :: l)) : News h₀ L h ([a, b] ++ x :: l) := N
theorem pre3 {h₀ h : Heap} {L : Addr} {a b c x : Addr × Obj} {l : List (Addr × Obj)} (N : News h₀ L h (a :: b :: c :: x :: l)) : News h₀ L h ([a, b, c] ++ x :: l) := N
theorem pre4 {h₀ h : Heap} {L : Addr} {a b c d x : Addr × Obj} {l : List (Addr × Obj)} (N : News h₀ L h (a :: b :: c :: d :: x :: l)) : News h₀ L h ([a, b, c, d] ++ x :: l) := N
theorem pre5 {h₀ h : Heap} {L : Addr} {a b c d e x : Addr × Obj} {l : List (Addr × Obj)} (N : News h₀ L h (a :: b :: c :: d :: e :: x :: l)) : News h₀ L h ([a, b, c, d, e] ++ x :: l) := N
/-- two entries of a ledger that hold different objects stand at different places -/
theorem news_ne {h₀ h : Heap} {L : Addr} {l : List (Addr × Obj)} (N : News h₀ L h l) {a b : Addr} {o o' : Obj} (ha : (a, o) ∈ l) (hb : (b, o') ∈ l) (hne : o ≠ o') : a ≠ b := fun e => by
  have h1 := (N _ ha).1
  have h2 := (N _ hb).1
  dsimp only at h1 h2
  rw [e] at h1
  exact hne (Option.some.inj (h1.symm.trans h2))

theorem news_neC {h₀ h : Heap} {L : Addr} {l : List (Addr × Obj)} (N : News h₀ L h l) {a b : Addr} {o o' : Obj} (ha : (a, o) ∈ l) (hb : (b, o') ∈ l) (hne : o.cls ≠ o'.cls) : a ≠ b := news_ne N ha hb fun e => hne (congrArg Obj.cls e)

theorem news_same {h₀ h : Heap} {L : Addr} {l : List (Addr × Obj)} (N : News h₀ L h l) {a : Addr} {o o' : Obj} (ha : (a, o) ∈ l) (hb : (a, o') ∈ l) : o = o' :=
  Option.some.inj ((N _ ha).1.symm.trans (N _ hb).1)

/-- a cell of the row: the info's place, its dict's place, its dict -/
structure Cell where
  x : Addr
  d : Addr
  o : Obj
def led (cs : List Cell) : List (Addr × Obj) := cs.flatMap fun c => [(c.x, instObj 87 c.d), (c.d, c.o)]
def rowOf (cs : List Cell) : List Value := cs.map fun c => .ref c.x
theorem led_nil : led [] = [] := rfl
theorem led_cons (c : Cell) (r : List Cell) : led (c :: r) = (c.x, instObj 87 c.d) :: (c.d, c.o) :: led r := rfl
theorem led_append (a b : List Cell) : led (a ++ b) = led a ++ led b := by simp [led]
theorem mem_led {cs : List Cell} {p : Addr × Obj} : p ∈ led cs ↔ ∃ c ∈ cs, p = (c.x, instObj 87 c.d) ∨ p = (c.d, c.o) := by
  simp [led]
theorem led_x {cs : List Cell} {c : Cell} (h : c ∈ cs) : (c.x, instObj 87 c.d) ∈ led cs := mem_led.mpr ⟨c, h, .inl rfl⟩
theorem led_d {cs : List Cell} {c : Cell} (h : c ∈ cs) : (c.d, c.o) ∈ led cs := mem_led.mpr ⟨c, h, .inr rfl⟩
theorem rowOf_length (cs : List Cell) : (rowOf cs).length = cs.length := by simp [rowOf]
theorem rowOf_get {cs : List Cell} {i : Nat} {c : Cell} (h : cs[i]? = some c) : (rowOf cs)[i]? = some (.ref c.x) := by simp [rowOf, h]

/-- what an info says -/
structure R where
  xa : Int
  ya : Int
  xo : Int
  yo : Int
  pa : Int
  bond : Str
  gl : Int

/-- a dict that says it -/
inductive IsInfo (P : Params) : Obj → R → Prop
  | mk (k1 k2 k3 k4 k5 k6 k7 k8 k9 k10 k11 k12 k13 k14 k15 : Tok) (code cluster mask usf lid lpart lcount kind : Value) (gl xa ya xo yo pa : Int) (tg ta tb tc td te tf : Tok) (bond : Str) :
    IsInfo P (dictOf [⟨PyData.keyHash P (Str.ofString "code"), .str (Str.ofString "code") k1, code⟩, ⟨PyData.keyHash P (Str.ofString "glyph"), .str (Str.ofString "glyph") k2, .int gl tg⟩,
      ⟨PyData.keyHash P (Str.ofString "cluster"), .str (Str.ofString "cluster") k3, cluster⟩, ⟨PyData.keyHash P (Str.ofString "mask"), .str (Str.ofString "mask") k4, mask⟩,
      ⟨PyData.keyHash P (Str.ofString "is_unsafe"), .str (Str.ofString "is_unsafe") k5, usf⟩, ⟨PyData.keyHash P (Str.ofString "lig_id"), .str (Str.ofString "lig_id") k6, lid⟩,
      ⟨PyData.keyHash P (Str.ofString "lig_part"), .str (Str.ofString "lig_part") k7, lpart⟩, ⟨PyData.keyHash P (Str.ofString "lig_count"), .str (Str.ofString "lig_count") k8, lcount⟩,
      ⟨PyData.keyHash P (Str.ofString "kind"), .str (Str.ofString "kind") k9, kind⟩, ⟨PyData.keyHash P (Str.ofString "x_advance"), .str (Str.ofString "x_advance") k10, .int xa ta⟩,
      ⟨PyData.keyHash P (Str.ofString "y_advance"), .str (Str.ofString "y_advance") k11, .int ya tb⟩, ⟨PyData.keyHash P (Str.ofString "x_offset"), .str (Str.ofString "x_offset") k12, .int xo tc⟩,
      ⟨PyData.keyHash P (Str.ofString "y_offset"), .str (Str.ofString "y_offset") k13, .int yo td⟩, ⟨PyData.keyHash P (Str.ofString "parent"), .str (Str.ofString "parent") k14, .int pa te⟩,
      ⟨PyData.keyHash P (Str.ofString "bond"), .str (Str.ofString "bond") k15, .str bond tf⟩] 15) ⟨xa, ya, xo, yo, pa, bond, gl⟩

/-- an info's dict, laid open in any goal that speaks of it -/
@[elab_as_elim] theorem IsInfo.open_ {P : Params} {o : Obj} {r : R} (h : IsInfo P o r) {M : Obj → Prop}
    (k : ∀ (k1 k2 k3 k4 k5 k6 k7 k8 k9 k10 k11 k12 k13 k14 k15 : Tok) (code cluster mask usf lid lpart lcount kind : Value) (tg ta tb tc td te tf : Tok),
      M (dictOf [⟨PyData.keyHash P (Str.ofString "code"), .str (Str.ofString "code") k1, code⟩, ⟨PyData.keyHash P (Str.ofString "glyph"), .str (Str.ofString "glyph") k2, .int r.gl tg⟩,
      ⟨PyData.keyHash P (Str.ofString "cluster"), .str (Str.ofString "cluster") k3, cluster⟩, ⟨PyData.keyHash P (Str.ofString "mask"), .str (Str.ofString "mask") k4, mask⟩,
      ⟨PyData.keyHash P (Str.ofString "is_unsafe"), .str (Str.ofString "is_unsafe") k5, usf⟩, ⟨PyData.keyHash P (Str.ofString "lig_id"), .str (Str.ofString "lig_id") k6, lid⟩,
      ⟨PyData.keyHash P (Str.ofString "lig_part"), .str (Str.ofString "lig_part") k7, lpart⟩, ⟨PyData.keyHash P (Str.ofString "lig_count"), .str (Str.ofString "lig_count") k8, lcount⟩,
      ⟨PyData.keyHash P (Str.ofString "kind"), .str (Str.ofString "kind") k9, kind⟩, ⟨PyData.keyHash P (Str.ofString "x_advance"), .str (Str.ofString "x_advance") k10, .int r.xa ta⟩,
      ⟨PyData.keyHash P (Str.ofString "y_advance"), .str (Str.ofString "y_advance") k11, .int r.ya tb⟩, ⟨PyData.keyHash P (Str.ofString "x_offset"), .str (Str.ofString "x_offset") k12, .int r.xo tc⟩,
      ⟨PyData.keyHash P (Str.ofString "y_offset"), .str (Str.ofString "y_offset") k13, .int r.yo td⟩, ⟨PyData.keyHash P (Str.ofString "parent"), .str (Str.ofString "parent") k14, .int r.pa te⟩,
      ⟨PyData.keyHash P (Str.ofString "bond"), .str (Str.ofString "bond") k15, .str r.bond tf⟩] 15)) : M o := by
  cases h
  exact k ..

def Infos (P : Params) (cs : List Cell) (rs : List R) : Prop := Paired (fun c r => IsInfo P c.o r) cs rs

theorem Infos.snoc {P : Params} {cs : List Cell} {rs : List R} {c : Cell} {r : R} (h : Infos P cs rs) (hi : IsInfo P c.o r) : Infos P (cs ++ [c]) (rs ++ [r]) := Paired.snoc h hi
theorem Infos.length {P : Params} {cs : List Cell} {rs : List R} (h : Infos P cs rs) : cs.length = rs.length := Paired.length h
theorem IsInfo.cls {P : Params} {o : Obj} {r : R} (h : IsInfo P o r) : o.cls = .type "dict" := by cases h; rfl

theorem rowOf_push (cs : List Cell) (c : Cell) : (rowOf cs).toArray.push (.ref c.x) = (rowOf (cs ++ [c])).toArray := by simp [rowOf]
theorem led_snoc (cs : List Cell) (c : Cell) : led (cs ++ [c]) = led cs ++ [(c.x, instObj 87 c.d), (c.d, c.o)] := by rw [led_append]; rfl
theorem Infos.get {P : Params} {cs : List Cell} {rs : List R} (h : Infos P cs rs) : ∀ {i : Nat} {c : Cell}, cs[i]? = some c → ∃ r, rs[i]? = some r ∧ IsInfo P c.o r := by
  induction h with
  | nil => intro i c e; simp at e
  | cons hi _ ih =>
    intro i c e
    cases i with
    | zero => cases e; exact ⟨_, rfl, hi⟩
    | succ i => exact ih (by simpa using e)
theorem Infos.getR {P : Params} {cs : List Cell} {rs : List R} (h : Infos P cs rs) : ∀ {i : Nat} {r : R}, rs[i]? = some r → ∃ c, cs[i]? = some c ∧ IsInfo P c.o r := by
  induction h with
  | nil => intro i c e; simp at e
  | cons hi _ ih =>
    intro i c e
    cases i with
    | zero => cases e; exact ⟨_, rfl, hi⟩
    | succ i => exact ih (by simpa using e)
theorem Infos.mem {P : Params} {cs : List Cell} {rs : List R} (h : Infos P cs rs) {c : Cell} (hc : c ∈ cs) : ∃ r, r ∈ rs ∧ IsInfo P c.o r := by
  obtain ⟨i, hi⟩ := List.getElem?_of_mem hc
  obtain ⟨r, hr, hI⟩ := h.get hi
  exact ⟨r, List.mem_of_getElem? hr, hI⟩
theorem Infos.off {P : Params} {cs : List Cell} {rs : List R} (h : Infos P cs rs) (n : String) (hn : n ≠ "dict") : ∀ p ∈ led cs, p.2.cls ≠ .type n := by
  intro p hp
  obtain ⟨c, hc, rfl | rfl⟩ := mem_led.mp hp
  · intro e; cases e
  · obtain ⟨r, _, hI⟩ := h.mem hc
    rw [hI.cls]
    exact fun e => hn (Value.type.inj e).symm

end

section

/-- a call of a def of the text's: from this ledger, it comes back with a value and a ledger of which Post speaks -/
def Ctr (w : World) (f : Addr) (k : Nat) (args : List Value) (news : List (Addr × Obj)) (Post : Value → List (Addr × Obj) → Prop) : Prop :=
  ∀ (mean : ExcName → Option Value) (mg mb : Str → Option Value) (dp un : Nat) (gd : Option (List Code)) (cn : Str) (cs : Scope) (a : Addr) (ccd : Value) (cl : List (Str × Addr)) (outer : List Env)
    (A₀ : Around) (base h₀ : Heap) (L : Addr) (m : Str → Option Value) (s : Shared) (Q E : Value → Shared → Prop),
    Below A₀ base outer h₀ → Fr h₀ L s.heap m → (hd.heap_39 w.params).In h₀ → News h₀ L s.heap news → Top hd.view_39 (looseW hd.view_39 []) mean mg mb h₀ → cs.kind = .function →
    dp + k < recursionLimit → un + 8 * k < cLine →
    (∀ v h' tk' news', Post v news' → Fr h₀ L h' m → News h₀ L h' news' → Q v { s with heap := h', toks := tk' }) →
    wpAny (model PySem.Challenge.rw_nu0151_01.row.prog w) (ktrTop dp un gd cn cs L a ccd cl outer) (call (.ref f) args) Q E s

theorem Ctr.use {w : World} {f : Addr} {k : Nat} {args : List Value} {news all : List (Addr × Obj)} {Post : Value → List (Addr × Obj) → Prop} (C : Ctr w f k args news Post)
    {mean : ExcName → Option Value} {mg mb : Str → Option Value} {dp un : Nat} {gd : Option (List Code)} {cn : Str} {cs : Scope} {a : Addr} {ccd : Value} {cl : List (Str × Addr)} {outer : List Env}
    {A₀ : Around} {base h₀ : Heap} {L : Addr} {m : Str → Option Value} {s : Shared} {Q E : Value → Shared → Prop}
    (B : Below A₀ base outer h₀) (F : Fr h₀ L s.heap m) (X : (hd.heap_39 w.params).In h₀) (N : News h₀ L s.heap all) (T : Top hd.view_39 (looseW hd.view_39 []) mean mg mb h₀) (hk : cs.kind = .function)
    (hd : dp + k < recursionLimit) (hu : un + 8 * k < cLine) (hs : ∀ p ∈ news, p ∈ all)
    (h : ∀ v h' tk' news', Post v news' → Fr h₀ L h' m → News h₀ L h' news' → Q v { s with heap := h', toks := tk' }) :
    wpAny (model PySem.Challenge.rw_nu0151_01.row.prog w) (ktrTop dp un gd cn cs L a ccd cl outer) (call (.ref f) args) Q E s :=
  C mean mg mb dp un gd cn cs a ccd cl outer A₀ base h₀ L m s Q E B F X (fun p hp => N p (hs p hp)) T hk hd hu h

theorem Ctr.use' {w : World} {f : Addr} {k : Nat} {args : List Value} {news : List (Addr × Obj)} {Post : Value → List (Addr × Obj) → Prop} (C : Ctr w f k args news Post)
    {mean : ExcName → Option Value} {mg mb : Str → Option Value} {dp un : Nat} {gd : Option (List Code)} {cn : Str} {cs : Scope} {a : Addr} {ccd : Value} {cl : List (Str × Addr)} {outer : List Env}
    {A₀ : Around} {base h₀ : Heap} {L : Addr} {m : Str → Option Value} {s : Shared} {Q E : Value → Shared → Prop}
    (N : News h₀ L s.heap news) (B : Below A₀ base outer h₀) (F : Fr h₀ L s.heap m) (X : (hd.heap_39 w.params).In h₀) (T : Top hd.view_39 (looseW hd.view_39 []) mean mg mb h₀) (hk : cs.kind = .function)
    (hd : dp + k < recursionLimit) (hu : un + 8 * k < cLine)
    (h : ∀ v h' tk' news', Post v news' → Fr h₀ L h' m → News h₀ L h' news' → Q v { s with heap := h', toks := tk' }) :
    wpAny (model PySem.Challenge.rw_nu0151_01.row.prog w) (ktrTop dp un gd cn cs L a ccd cl outer) (call (.ref f) args) Q E s :=
  C mean mg mb dp un gd cn cs a ccd cl outer A₀ base h₀ L m s Q E B F X N T hk hd hu h

/-- the pen's object -/
abbrev penO (cl : Addr) (gr st pl : Int) (t1 t2 t3 n : Nat) : Obj := listOf [.ref cl, .int gr t1, .int st t2, .int pl t3].toArray n

theorem fdiv_0 {a b : Int} (h : 0 ≤ a) (hb : 0 < b) : 0 ≤ a.fdiv b := Int.fdiv_nonneg h (Int.le_of_lt hb)
theorem fdiv_lt {a b c : Int} (h : 0 ≤ a) (hb : 0 < b) (hc : a < c) : a.fdiv b < c := by
  rw [Int.fdiv_eq_ediv_of_nonneg _ (Int.le_of_lt hb)]
  exact Int.lt_of_le_of_lt (Int.ediv_le_self _ h) hc
theorem fmod_0 {a b : Int} (hb : 0 < b) : 0 ≤ a.fmod b := by
  rw [Int.fmod_eq_emod_of_nonneg _ (Int.le_of_lt hb)]
  exact Int.emod_nonneg _ (Int.ne_of_gt hb)
theorem fmod_lt {a b : Int} (hb : 0 < b) : a.fmod b < b := by
  rw [Int.fmod_eq_emod_of_nonneg _ (Int.le_of_lt hb)]
  exact Int.emod_lt_of_pos _ hb

/-- what is known of a pen -/
structure PenOk (gr st pl : Int) : Prop where
  g0 : 0 ≤ gr
  g1 : gr < 10 ^ 240
  s0 : 0 ≤ st
  s1 : st < 2147483647
  p0 : 0 ≤ pl
  p1 : pl < 1000

end

section

/-- where an info hangs, if it hangs within the row -/
def step (rs : List R) (a : Nat) : Option Nat :=
  match rs[a]? with
  | some r => if r.pa ≠ 0 ∧ 0 ≤ (a : Int) + r.pa ∧ (a : Int) + r.pa < (rs.length : Int) then some ((a : Int) + r.pa).toNat else none
  | none => none
theorem step_lt {rs : List R} {a b : Nat} (h : step rs a = some b) : b < rs.length := by
  unfold step at h
  split at h
  · split at h
    · cases h; omega
    · cases h
  · cases h
theorem step_lt' {rs : List R} {a b : Nat} (h : step rs a = some b) : a < rs.length := by
  unfold step at h
  split at h
  · rename_i r hr; exact (List.getElem?_eq_some_iff.mp hr).1
  · cases h
theorem step_ne {rs : List R} {a b : Nat} (h : step rs a = some b) : a ≠ b := by
  unfold step at h
  split at h
  · split at h
    · cases h; omega
    · cases h
  · cases h
theorem step_some {rs : List R} {a : Nat} {r : R} (hr : rs[a]? = some r) (h1 : r.pa ≠ 0) (h2 : 0 ≤ (a : Int) + r.pa) (h3 : (a : Int) + r.pa < (rs.length : Int)) : step rs a = some ((a : Int) + r.pa).toNat := by
  unfold step; rw [hr]; simp [h1, h2, h3]
theorem step_zero {rs : List R} {a : Nat} {r : R} (hr : rs[a]? = some r) (h1 : r.pa = 0) : step rs a = none := by
  unfold step; rw [hr]; simp [h1]
theorem step_low {rs : List R} {a : Nat} {r : R} (hr : rs[a]? = some r) (h1 : (a : Int) + r.pa < 0) : step rs a = none := by
  unfold step; rw [hr]; simp only; rw [if_neg (by omega)]
theorem step_high {rs : List R} {a : Nat} {r : R} (hr : rs[a]? = some r) (h1 : (rs.length : Int) ≤ (a : Int) + r.pa) : step rs a = none := by
  unfold step; rw [hr]; simp only; rw [if_neg (by omega)]

/-- a chain's line -/
inductive Path (rs : List R) : Nat → List Nat → Nat → Prop
  | nil (a : Nat) : Path rs a [] a
  | cons {a b c : Nat} {l : List Nat} : step rs a = some b → Path rs b l c → Path rs a (a :: l) c
theorem Path.snoc {rs : List R} {a b c : Nat} {l : List Nat} (h : Path rs a l b) (hs : step rs b = some c) : Path rs a (l ++ [b]) c := by
  induction h with
  | nil a => exact .cons hs (.nil _)
  | cons h1 _ ih => exact .cons h1 (ih hs)
theorem Path.unsnoc {rs : List R} {k : Nat} : ∀ {l : List Nat} {a c : Nat}, Path rs a (l ++ [k]) c → Path rs a l k ∧ step rs k = some c
  | [], _, _, .cons h1 (.nil _) => ⟨.nil _, h1⟩
  | _ :: _, _, _, .cons h1 p => let ⟨q, h⟩ := Path.unsnoc p; ⟨.cons h1 q, h⟩
theorem Path.split {rs : List R} {k : Nat} : ∀ {l : List Nat} {a c : Nat}, Path rs a l c → k ∈ l → ∃ l' b, step rs k = some b ∧ Path rs b l' c
  | _ :: _, a, _, .cons h1 p, hk => by
    rcases List.mem_cons.mp hk with rfl | hk
    · exact ⟨_, _, h1, p⟩
    · exact Path.split p hk
theorem Path.lt {rs : List R} {l : List Nat} {a c : Nat} (h : Path rs a l c) : ∀ k ∈ l, k < rs.length := by
  induction h with
  | nil a => intro k hk; nomatch hk
  | cons h1 _ ih =>
    intro k hk
    rcases List.mem_cons.mp hk with rfl | hk
    · exact step_lt' h1
    · exact ih k hk
theorem Path.end_lt {rs : List R} {l : List Nat} {a c : Nat} (h : Path rs a l c) (ha : a < rs.length) : c < rs.length := by
  induction h with
  | nil a => exact ha
  | cons h1 _ ih => exact ih (step_lt h1)
/-- the line is the same where the places of the line are the same -/
theorem Path.of_same {rs rs' : List R} {l : List Nat} {a c : Nat} (h : Path rs a l c) (hl : rs'.length = rs.length) (hs : ∀ k ∈ l, rs'[k]? = rs[k]?) : Path rs' a l c := by
  induction h with
  | nil a => exact .nil _
  | cons h1 _ ih =>
    refine .cons ?_ (ih fun k hk => hs k (.tail _ hk))
    unfold step at h1 ⊢
    rw [hs _ (.head _), hl]
    exact h1

/-- different places below n: n at most -/
theorem nodup_len : ∀ (n : Nat) (l : List Nat), l.Nodup → (∀ k ∈ l, k < n) → l.length ≤ n
  | 0, [], _, _ => Nat.le_refl _
  | 0, k :: _, _, h => absurd (h k (.head _)) (Nat.not_lt_zero _)
  | n + 1, l, hnd, h => by
    have h1 : (l.erase n).Nodup := hnd.erase n
    have h2 : ∀ k ∈ l.erase n, k < n := fun k hk => by
      have hk' := (hnd.mem_erase_iff).mp hk
      have := h k hk'.2
      have := hk'.1
      omega
    have h3 := nodup_len n _ h1 h2
    have h4 : l.length ≤ (l.erase n).length + 1 := by
      rw [List.length_erase]; split <;> omega
    omega

def slice (rs : List R) (a b : Nat) : List R := (rs.take b).drop a
def sumX (l : List R) : Int := (l.map (·.xa)).sum
def sumY (l : List R) : Int := (l.map (·.ya)).sum
/-- what is taken from the offsets of a mark at i that hangs on j -/
def takeX (bw : Bool) (rs : List R) (i j : Nat) : Int := if bw then -sumX (slice rs (j + 1) (i + 1)) else sumX (slice rs j i)
def takeY (bw : Bool) (rs : List R) (i j : Nat) : Int := if bw then -sumY (slice rs (j + 1) (i + 1)) else sumY (slice rs j i)
def isMark (r : R) : Bool := decide (r.bond = Str.ofString "mark")
/-- an info settled -/
def newR (bw : Bool) (rs : List R) (i j : Nat) (r o : R) : R :=
  if isMark r then { r with pa := 0, xo := r.xo + o.xo - takeX bw rs i j, yo := r.yo + o.yo - takeY bw rs i j }
  else { r with pa := 0, yo := r.yo + o.yo }

/-- where an info that hangs on no ring comes to stand -/
inductive FinV (rs : List R) (bw : Bool) : Nat → Int → Int → Prop
  | root {i : Nat} {r : R} : rs[i]? = some r → step rs i = none → FinV rs bw i r.xo r.yo
  | mark {i j : Nat} {r : R} {x y : Int} : rs[i]? = some r → step rs i = some j → isMark r = true → FinV rs bw j x y → FinV rs bw i (r.xo + x - takeX bw rs i j) (r.yo + y - takeY bw rs i j)
  | curs {i j : Nat} {r : R} {x y : Int} : rs[i]? = some r → step rs i = some j → isMark r = false → FinV rs bw j x y → FinV rs bw i r.xo (r.yo + y)

theorem FinV.no_ring {rs : List R} {bw : Bool} {a : Nat} {x y : Int} (h : FinV rs bw a x y) : ∀ l, Path rs a l a → l = [] := by
  have key : ∀ {i j : Nat}, step rs i = some j → (∀ l, Path rs j l j → l = []) → ∀ l, Path rs i l i → l = [] := by
    intro i j hs ih l p
    cases p with
    | nil => rfl
    | cons h1 p' =>
      rw [hs] at h1
      cases h1
      have := ih _ (p'.snoc hs)
      exact absurd this (by simp)
  induction h with
  | root hr hs =>
    intro l p
    cases p with
    | nil => rfl
    | cons h1 _ => rw [hs] at h1; cases h1
  | mark hr hs _ _ ih => exact key hs ih
  | curs hr hs _ _ ih => exact key hs ih

theorem FinV.det {rs : List R} {bw : Bool} {a : Nat} {x y : Int} (h : FinV rs bw a x y) : ∀ {x' y' : Int}, FinV rs bw a x' y' → x' = x ∧ y' = y := by
  induction h with
  | root hr hs =>
    intro x' y' h'
    cases h' with
    | root hr' _ => rw [hr] at hr'; cases hr'; exact ⟨rfl, rfl⟩
    | mark _ hs' _ _ => rw [hs] at hs'; cases hs'
    | curs _ hs' _ _ => rw [hs] at hs'; cases hs'
  | mark hr hs hm _ ih =>
    intro x' y' h'
    cases h' with
    | root _ hs' => rw [hs] at hs'; cases hs'
    | mark hr' hs' _ hj =>
      rw [hr] at hr'; cases hr'
      rw [hs] at hs'; cases hs'
      obtain ⟨rfl, rfl⟩ := ih hj
      exact ⟨rfl, rfl⟩
    | curs hr' _ hm' _ =>
      rw [hr] at hr'; cases hr'
      rw [hm] at hm'; cases hm'
  | curs hr hs hm _ ih =>
    intro x' y' h'
    cases h' with
    | root _ hs' => rw [hs] at hs'; cases hs'
    | curs hr' hs' _ hj =>
      rw [hr] at hr'; cases hr'
      rw [hs] at hs'; cases hs'
      obtain ⟨rfl, rfl⟩ := ih hj
      exact ⟨rfl, rfl⟩
    | mark hr' _ hm' _ =>
      rw [hr] at hr'; cases hr'
      rw [hm] at hm'; cases hm'

/-- it stands where it shall -/
def Good (rs₀ : List R) (bw : Bool) (rs : List R) (i : Nat) : Prop := ∀ r x y, rs[i]? = some r → FinV rs₀ bw i x y → r.xo = x ∧ r.yo = y

/-- the row while it is settled -/
structure Inv (rs₀ : List R) (bw : Bool) (rs : List R) : Prop where
  len : rs.length = rs₀.length
  at_ : ∀ (i : Nat) (r₀ r : R), rs₀[i]? = some r₀ → rs[i]? = some r → r.xa = r₀.xa ∧ r.ya = r₀.ya ∧ r.gl = r₀.gl ∧ r.bond = r₀.bond ∧ (r = r₀ ∨ (r.pa = 0 ∧ Good rs₀ bw rs i))

theorem Inv.start (rs : List R) (bw : Bool) : Inv rs bw rs := ⟨rfl, fun i r₀ r h h' => by rw [h] at h'; cases h'; exact ⟨rfl, rfl, rfl, rfl, .inl rfl⟩⟩

theorem map_same {rs₀ rs : List R} (f : R → Int) (hl : rs.length = rs₀.length) (h : ∀ (i : Nat) (r₀ r : R), rs₀[i]? = some r₀ → rs[i]? = some r → f r = f r₀) : rs.map f = rs₀.map f := by
  apply List.ext_getElem?
  intro i
  simp only [List.getElem?_map]
  cases h0 : rs₀[i]? with
  | none =>
    have : rs[i]? = none := by
      rw [List.getElem?_eq_none_iff] at h0 ⊢; omega
    rw [this]
  | some r₀ =>
    have hi : i < rs.length := by rw [hl]; exact (List.getElem?_eq_some_iff.mp h0).1
    have : rs[i]? = some rs[i] := List.getElem?_eq_getElem hi
    rw [this]
    simp [h i r₀ rs[i] h0 this]
theorem Inv.takeX {rs₀ rs : List R} {bw : Bool} (h : Inv rs₀ bw rs) (i j : Nat) : takeX bw rs i j = takeX bw rs₀ i j := by
  have e := map_same (·.xa) h.len fun i r₀ r h1 h2 => (h.at_ i r₀ r h1 h2).1
  simp only [Mine.takeX, sumX, slice, List.map_drop, List.map_take, e]
theorem Inv.takeY {rs₀ rs : List R} {bw : Bool} (h : Inv rs₀ bw rs) (i j : Nat) : takeY bw rs i j = takeY bw rs₀ i j := by
  have e := map_same (·.ya) h.len fun i r₀ r h1 h2 => (h.at_ i r₀ r h1 h2).2.1
  simp only [Mine.takeY, sumY, slice, List.map_drop, List.map_take, e]

/-- an info that still hangs is as it was, and hangs as it did -/
theorem Inv.step_of {rs₀ rs : List R} {bw : Bool} (h : Inv rs₀ bw rs) {i j : Nat} (hs : step rs i = some j) : rs[i]? = rs₀[i]? ∧ step rs₀ i = some j := by
  have hi : i < rs.length := step_lt' hs
  have h1 : rs[i]? = some rs[i] := List.getElem?_eq_getElem hi
  have hi0 : i < rs₀.length := h.len ▸ hi
  have h0 : rs₀[i]? = some rs₀[i] := List.getElem?_eq_getElem hi0
  rcases (h.at_ i _ _ h0 h1).2.2.2.2 with e | ⟨e, _⟩
  · have e2 : rs[i]? = rs₀[i]? := by rw [h1, h0, e]
    refine ⟨e2, ?_⟩
    unfold step at hs ⊢
    rw [← e2, ← h.len]; exact hs
  · rw [step_zero h1 e] at hs; cases hs
/-- an info that does not hang stands where it shall -/
theorem Inv.good_of_none {rs₀ rs : List R} {bw : Bool} (h : Inv rs₀ bw rs) {i : Nat} (hs : step rs i = none) : Good rs₀ bw rs i := by
  intro r x y hr hv
  have hi : i < rs.length := (List.getElem?_eq_some_iff.mp hr).1
  have hi0 : i < rs₀.length := h.len ▸ hi
  have h0 : rs₀[i]? = some rs₀[i] := List.getElem?_eq_getElem hi0
  rcases (h.at_ i _ _ h0 hr).2.2.2.2 with e | ⟨_, g⟩
  · subst e
    have hs0 : step rs₀ i = none := by
      unfold step at hs ⊢
      rw [h0, ← h.len, ← hr]; exact hs
    cases hv with
    | root hr' _ => rw [h0] at hr'; cases hr'; exact ⟨rfl, rfl⟩
    | mark _ hs' _ _ => rw [hs0] at hs'; cases hs'
    | curs _ hs' _ _ => rw [hs0] at hs'; cases hs'
  · exact g r x y hr hv
theorem Inv.path {rs₀ rs : List R} {bw : Bool} (h : Inv rs₀ bw rs) {a b : Nat} {l : List Nat} (p : Path rs a l b) : Path rs₀ a l b := by
  induction p with
  | nil a => exact .nil _
  | cons h1 _ ih => exact .cons (h.step_of h1).2 ih
/-- the end of a chain's line stands where it shall -/
theorem Inv.good_end {rs₀ rs : List R} {bw : Bool} (h : Inv rs₀ bw rs) {a b : Nat} {l : List Nat} (p : Path rs a l b) (he : b ∈ l ∨ step rs b = none) : Good rs₀ bw rs b := by
  rcases he with hb | hb
  · intro r x y _ hv
    obtain ⟨l', c, hs, p'⟩ := (h.path p).split hb
    exact absurd (hv.no_ring _ (.cons hs p')) (by simp)
  · exact h.good_of_none hb

theorem isMark_of {r r' : R} (h : r.bond = r'.bond) : isMark r = isMark r' := by unfold isMark; rw [h]
/-- one info settled -/
theorem Inv.set {rs₀ rs : List R} {bw : Bool} (h : Inv rs₀ bw rs) {i j : Nat} {r o : R} (hs : step rs i = some j) (hr : rs[i]? = some r) (ho : rs[j]? = some o) (g : Good rs₀ bw rs j) :
    Inv rs₀ bw (rs.set i (newR bw rs i j r o)) ∧ Good rs₀ bw (rs.set i (newR bw rs i j r o)) i := by
  have hi : i < rs.length := step_lt' hs
  obtain ⟨e1, hs0⟩ := h.step_of hs
  have hr0 : rs₀[i]? = some r := by rw [← e1, hr]
  have hget : (rs.set i (newR bw rs i j r o))[i]? = some (newR bw rs i j r o) := by simp [hi]
  have good : Good rs₀ bw (rs.set i (newR bw rs i j r o)) i := by
    intro r' x y hr' hv
    rw [hget] at hr'
    cases hr'
    cases hv with
    | root _ hs' => rw [hs0] at hs'; cases hs'
    | mark hr' hs' hm hj =>
      rw [hr0] at hr'; cases hr'
      rw [hs0] at hs'; cases hs'
      obtain ⟨g1, g2⟩ := g o _ _ ho hj
      simp only [newR, hm, if_true, h.takeX, h.takeY, g1, g2]
      exact ⟨trivial, trivial⟩
    | curs hr' hs' hm hj =>
      rw [hr0] at hr'; cases hr'
      rw [hs0] at hs'; cases hs'
      obtain ⟨g1, g2⟩ := g o _ _ ho hj
      simp only [newR, hm, g2]
      exact ⟨rfl, rfl⟩
  refine ⟨⟨by simp [h.len], ?_⟩, good⟩
  intro k r₀ r' hk hk'
  by_cases hik : i = k
  · subst hik
    rw [hget] at hk'
    cases hk'
    rw [hr0] at hk; cases hk
    have e : (newR bw rs i j r o).xa = r.xa ∧ (newR bw rs i j r o).ya = r.ya ∧ (newR bw rs i j r o).gl = r.gl ∧ (newR bw rs i j r o).bond = r.bond ∧ (newR bw rs i j r o).pa = 0 := by
      unfold newR; split <;> simp
    exact ⟨e.1, e.2.1, e.2.2.1, e.2.2.2.1, .inr ⟨e.2.2.2.2, good⟩⟩
  · have hk2 : rs[k]? = some r' := by rw [List.getElem?_set_ne hik] at hk'; exact hk'
    obtain ⟨a1, a2, a3, a4, a5⟩ := h.at_ k r₀ r' hk hk2
    refine ⟨a1, a2, a3, a4, a5.imp id fun ⟨z, g'⟩ => ⟨z, ?_⟩⟩
    intro r'' x y hr'' hv
    rw [List.getElem?_set_ne hik] at hr''
    exact g' r'' x y hr'' hv
theorem Good.set {rs₀ rs : List R} {bw : Bool} {i k : Nat} {r : R} (hik : i ≠ k) (g : Good rs₀ bw rs k) : Good rs₀ bw (rs.set i r) k := by
  intro r' x y hr' hv
  rw [List.getElem?_set_ne hik] at hr'
  exact g r' x y hr' hv

/-- what settle does to a row -/
structure Settled (bw : Bool) (rs₀ rs : List R) : Prop where
  len : rs.length = rs₀.length
  at_ : ∀ (i : Nat) (r₀ r : R), rs₀[i]? = some r₀ → rs[i]? = some r → r.xa = r₀.xa ∧ r.ya = r₀.ya ∧ r.gl = r₀.gl ∧ r.bond = r₀.bond ∧ r.pa = 0 ∧ ∀ x y, FinV rs₀ bw i x y → r.xo = x ∧ r.yo = y

end

section

theorem paired_get {α β : Type} {F : α → β → Prop} : ∀ {l₁ : List α} {l₂ : List β}, l₁.length = l₂.length → (∀ (i : Nat) a b, l₁[i]? = some a → l₂[i]? = some b → F a b) → Paired F l₁ l₂
  | [], [], _, _ => .nil
  | [], _ :: _, e, _ => by simp at e
  | _ :: _, [], e, _ => by simp at e
  | _ :: _, _ :: _, e, h => .cons (h 0 _ _ rfl rfl) (paired_get (by simpa using e) fun i a b h1 h2 => h (i + 1) a b (by simpa using h1) (by simpa using h2))
theorem paired_drop {α β : Type} {F : α → β → Prop} : ∀ {l₁ : List α} {l₂ : List β}, Paired F l₁ l₂ → ∀ k : Nat, Paired F (l₁.drop k) (l₂.drop k)
  | _, _, h, 0 => h
  | _, _, .nil, _ + 1 => .nil
  | _, _, .cons _ h, k + 1 => paired_drop h k
theorem paired_take {α β : Type} {F : α → β → Prop} : ∀ {l₁ : List α} {l₂ : List β}, Paired F l₁ l₂ → ∀ k : Nat, Paired F (l₁.take k) (l₂.take k)
  | _, _, _, 0 => .nil
  | _, _, .nil, _ + 1 => .nil
  | _, _, .cons h1 h, k + 1 => .cons h1 (paired_take h k)

theorem pick_nat {items : List Value} {a b : Nat} : kms_pick items (some (a : Int)) (some (b : Int)) = (items.take b).drop a := by
  unfold kms_pick kms_lo kms_hi
  simp only [if_neg (show ¬ ((a : Int) < 0) by omega), if_neg (show ¬ ((b : Int) < 0) by omega), Int.toNat_natCast]
  rw [List.drop_take, kmk_drop_min]
  by_cases h : b ≤ items.length
  · rw [Nat.min_eq_left h]
    by_cases h2 : a ≤ items.length
    · rw [Nat.min_eq_left h2]
    · rw [List.drop_of_length_le (by omega)]; simp
  · rw [Nat.min_eq_right (by omega)]
    by_cases h2 : a ≤ items.length
    · rw [Nat.min_eq_left h2, List.take_of_length_le (by rw [List.length_drop]; omega), List.take_of_length_le (by rw [List.length_drop]; omega)]
    · rw [List.drop_of_length_le (by omega)]; simp

theorem row_slice {prog : Program} {w : World} {A : Around} {E : Value → Shared → Prop} {s : Shared} {h₀ : Heap} {L : Addr} {m : Str → Option Value} {news : List (Addr × Obj)} {value slice : PySem.Expr} {l : Addr} {vs : List Value} {n a b : Nat} {z1 z2 : Int} {u1 u2 : Tok} {Q : Value → Shared → Prop}
    (F : Fr h₀ L s.heap m) (N : News h₀ L s.heap news) (hm : (l, listOf vs.toArray n) ∈ news) (e1 : z1 = (a : Int)) (e2 : z2 = (b : Int)) (hz : vs.length ≤ 1000)
    (h : ∀ D h', Fr h₀ L h' m → News h₀ L h' ((D, listOf ((vs.take b).drop a).toArray 0) :: news) → (∀ p ∈ news, p.1 < D) → Q (.ref D) { s with heap := h' })
    (hs : subscripted slice false (.ref l) (.ref s.heap.objs.size) = operate [.ref s.heap.objs.size, .ref l] (getItem (.ref l) (.ref s.heap.objs.size))) (ht : ∀ r, letTemporaryGo value (.ref l) r = pure ()) :
    wpAny (model prog w) A (subscriptTail value slice (.ref l) (.ref s.heap.objs.size)) Q E { s with heap := s.heap.push { cls := .type "slice", data := .fields #[.int z1 u1, .int z2 u2, .none] } } := by
  have hl : s.heap.IsList l vs.toArray := ⟨_, (N _ hm).1, rfl, n, rfl⟩
  refine kms_slice_lit F N hl (.int _ _) (.int _ _) (zs := (vs.take b).drop a) ?_ h hs ht ?_
  · rw [e1, e2]; exact pick_nat
  · rw [List.size_toArray]; exact Nat.le_trans hz (by decide)
theorem row_item {prog : Program} {w : World} {A : Around} {E : Value → Shared → Prop} {s : Shared} {h₀ : Heap} {L : Addr} {news : List (Addr × Obj)} {value slice : PySem.Expr} {l : Addr} {vs : List Value} {n h : Nat} {z : Int} {u : Tok} {v : Value} {Q : Value → Shared → Prop}
    (N : News h₀ L s.heap news) (hm : (l, listOf vs.toArray n) ∈ news) (hz : z = (h : Int)) (hx : vs[h]? = some v) (hb : h < 2 ^ 32) (k : Q v s)
    (hs : subscripted slice false (.ref l) (.int z u) = operate [.ref l, .int z u] (getItem (.ref l) (.int z u)) := by with_unfolding_all rfl) :
    wpAny (model prog w) A (subscriptTail value slice (.ref l) (.int z u)) Q E s := by
  subst hz
  have hl : s.heap.IsList l vs.toArray := ⟨_, (N _ hm).1, rfl, n, rfl⟩
  exact tail_any hl.typeIs slot_list_getitem.lookup (wpAny_getItem_list hl (by omega) (by omega) (by simpa using hx) k) hs

theorem row_len {prog : Program} {w : World} {A : Around} {E : Value → Shared → Prop} {s : Shared} {h₀ : Heap} {L : Addr} {news : List (Addr × Obj)} {l : Addr} {vs : List Value} {n q : Nat} {Q : Value → Shared → Prop}
    (N : News h₀ L s.heap news) (hm : (l, listOf vs.toArray n) ∈ news) (hk : vs.length = q) (hz : q ≤ 1000) (h : Q (.int (q : Int) (s.toks + 1)) { s with toks := s.toks + 1 + 1 }) :
    wpAny (model prog w) A (call (.builtin "len") [.ref l]) Q E s := by
  have hl : s.heap.IsList l vs.toArray := ⟨_, (N _ hm).1, rfl, n, rfl⟩
  have e : vs.toArray.size = q := by rw [List.size_toArray]; exact hk
  refine len_list hl (by omega) ?_
  rw [e]; exact h

end

section

/-- the same places, other dicts -/
def SameXD (cs cs' : List Cell) : Prop := cs'.map (·.x) = cs.map (·.x) ∧ cs'.map (·.d) = cs.map (·.d)
theorem SameXD.refl (cs : List Cell) : SameXD cs cs := ⟨rfl, rfl⟩
theorem SameXD.trans {a b c : List Cell} (h : SameXD a b) (h' : SameXD b c) : SameXD a c := ⟨h'.1.trans h.1, h'.2.trans h.2⟩
theorem SameXD.row {cs cs' : List Cell} (h : SameXD cs cs') : rowOf cs' = rowOf cs := by
  have e : ∀ l : List Cell, rowOf l = (l.map (·.x)).map Value.ref := fun l => by simp [rowOf]
  rw [e, e, h.1]
theorem SameXD.nodup {cs cs' : List Cell} (h : SameXD cs cs') (hn : (cs.map (·.d)).Nodup) : (cs'.map (·.d)).Nodup := by rw [h.2]; exact hn
theorem SameXD.len {cs cs' : List Cell} (h : SameXD cs cs') : cs'.length = cs.length := by have := congrArg List.length h.1; simpa using this
theorem SameXD.memd {cs cs' : List Cell} (h : SameXD cs cs') {c : Cell} (hc : c ∈ cs') : ∃ c' ∈ cs, c'.d = c.d := by
  have : c.d ∈ cs'.map (·.d) := List.mem_map.mpr ⟨c, hc, rfl⟩
  rw [h.2] at this
  obtain ⟨c', h1, h2⟩ := List.mem_map.mp this
  exact ⟨c', h1, h2⟩
theorem SameXD.memx {cs cs' : List Cell} (h : SameXD cs cs') {c : Cell} (hc : c ∈ cs') : ∃ c' ∈ cs, c'.x = c.x := by
  have : c.x ∈ cs'.map (·.x) := List.mem_map.mpr ⟨c, hc, rfl⟩
  rw [h.1] at this
  obtain ⟨c', h1, h2⟩ := List.mem_map.mp this
  exact ⟨c', h1, h2⟩
theorem SameXD.off {cs cs' : List Cell} (h : SameXD cs cs') {oth : List (Addr × Obj)} (hoff : ∀ p ∈ oth, ∀ c ∈ cs, p.1 ≠ c.d) : ∀ p ∈ oth, ∀ c ∈ cs', p.1 ≠ c.d := fun p hp c hc => by
  obtain ⟨c', h1, h2⟩ := h.memd hc
  rw [← h2]; exact hoff p hp c' h1
theorem SameXD.lt {cs cs' : List Cell} (h : SameXD cs cs') {a : Addr} (hl : ∀ p ∈ led cs, p.1 < a) : ∀ p ∈ led cs', p.1 < a := fun p hp => by
  obtain ⟨c, hc, rfl | rfl⟩ := mem_led.mp hp
  · obtain ⟨c', h1, h2⟩ := h.memx hc
    show c.x < a
    rw [← h2]; exact hl _ (led_x h1)
  · obtain ⟨c', h1, h2⟩ := h.memd hc
    show c.d < a
    rw [← h2]; exact hl _ (led_d h1)

def rest_ (d : Addr) (l : List (Addr × Obj)) : List (Addr × Obj) := l.filter fun p => decide (p.1 ≠ d)
theorem mem_rest {d : Addr} {l : List (Addr × Obj)} {p : Addr × Obj} : p ∈ rest_ d l ↔ p ∈ l ∧ p.1 ≠ d := by simp [rest_]
theorem rest_off {d : Addr} {l : List (Addr × Obj)} : ∀ p ∈ rest_ d l, p.1 ≠ d := fun _ hp => (mem_rest.mp hp).2

theorem led_set {cs : List Cell} {i : Nat} {x d : Addr} {o o' : Obj} {oth : List (Addr × Obj)} (hci : cs[i]? = some ⟨x, d, o⟩) (hnd : (cs.map (·.d)).Nodup) (hxd : ∀ c ∈ cs, c.x ≠ d) (hoff : ∀ p ∈ oth, ∀ c ∈ cs, p.1 ≠ c.d) :
    ∀ p ∈ led (cs.set i ⟨x, d, o'⟩) ++ oth, p ∈ (d, o') :: rest_ d (led cs ++ oth) := by
  have hcm := List.mem_of_getElem? hci
  have hlt : i < cs.length := (List.getElem?_eq_some_iff.mp hci).1
  intro p hp
  rcases List.mem_append.mp hp with hp | hp
  · obtain ⟨c, hc, he⟩ := mem_led.mp hp
    obtain ⟨k, hk⟩ := List.getElem?_of_mem hc
    by_cases hik : i = k
    · subst hik
      rw [List.getElem?_set_self hlt] at hk
      cases hk
      rcases he with rfl | rfl
      · exact .tail _ (mem_rest.mpr ⟨List.mem_append_left _ (led_x (c := ⟨x, d, o⟩) hcm), hxd _ hcm⟩)
      · exact .head _
    · rw [List.getElem?_set_ne hik] at hk
      have hc' := List.mem_of_getElem? hk
      have hne : c.d ≠ d := fun e => hik (by
        have h1 : (cs.map (·.d))[i]? = some d := by simp [hci]
        have h2 : (cs.map (·.d))[k]? = some d := by simp [hk, e]
        exact (List.getElem?_inj (List.getElem?_eq_some_iff.mp h1).1 hnd).mp (h1.trans h2.symm))
      rcases he with rfl | rfl
      · exact .tail _ (mem_rest.mpr ⟨List.mem_append_left _ (led_x hc'), hxd _ hc'⟩)
      · exact .tail _ (mem_rest.mpr ⟨List.mem_append_left _ (led_d hc'), hne⟩)
  · exact .tail _ (mem_rest.mpr ⟨List.mem_append_right _ hp, hoff p hp _ hcm⟩)
theorem led_focus {cs : List Cell} {i : Nat} {x d : Addr} {o : Obj} {oth : List (Addr × Obj)} (hci : cs[i]? = some ⟨x, d, o⟩) : ∀ p ∈ (d, o) :: rest_ d (led cs ++ oth), p ∈ led cs ++ oth := by
  intro p hp
  rcases List.mem_cons.mp hp with rfl | hp
  · exact List.mem_append_left _ (led_d (List.mem_of_getElem? hci))
  · exact (mem_rest.mp hp).1
theorem same_set {cs : List Cell} {i : Nat} {x d : Addr} {o o' : Obj} (hci : cs[i]? = some ⟨x, d, o⟩) : SameXD cs (cs.set i ⟨x, d, o'⟩) := by
  constructor
  · apply List.ext_getElem?
    intro k
    simp only [List.getElem?_map]
    by_cases hik : i = k
    · subst hik
      rw [List.getElem?_set_self (List.getElem?_eq_some_iff.mp hci).1, hci]; rfl
    · rw [List.getElem?_set_ne hik]
  · apply List.ext_getElem?
    intro k
    simp only [List.getElem?_map]
    by_cases hik : i = k
    · subst hik
      rw [List.getElem?_set_self (List.getElem?_eq_some_iff.mp hci).1, hci]; rfl
    · rw [List.getElem?_set_ne hik]
theorem Infos.set {P : Params} {cs : List Cell} {rs : List R} (h : Infos P cs rs) {c : Cell} {r : R} (i : Nat) (hI : IsInfo P c.o r) : Infos P (cs.set i c) (rs.set i r) := by
  refine paired_get (by simp [h.length]) ?_
  intro k a b h1 h2
  by_cases hik : i = k
  · subst hik
    have hl : i < cs.length := by simpa using (List.getElem?_eq_some_iff.mp h1).1
    have hl2 : i < rs.length := by simpa using (List.getElem?_eq_some_iff.mp h2).1
    rw [List.getElem?_set_self hl] at h1
    rw [List.getElem?_set_self hl2] at h2
    cases h1; cases h2; exact hI
  · rw [List.getElem?_set_ne hik] at h1 h2
    obtain ⟨r', e, hI'⟩ := h.get h1
    rw [e] at h2; cases h2; exact hI'
theorem cells_xd {P : Params} {h₀ h : Heap} {L : Addr} {cs : List Cell} {rs : List R} {l : List (Addr × Obj)} (N : News h₀ L h l) (hs : ∀ p ∈ led cs, p ∈ l) (hInf : Infos P cs rs) : ∀ c ∈ cs, ∀ c' ∈ cs, c.x ≠ c'.d := by
  intro c hc c' hc'
  obtain ⟨r, _, hI⟩ := hInf.mem hc'
  refine news_neC N (hs _ (led_x hc)) (hs _ (led_d hc')) ?_
  rw [hI.cls]
  intro e; cases e

end

section

theorem ints_snoc {vs : List Value} {ns : List Int} (h : IntsAre vs ns) (a : Int) (t : Tok) : IntsAre (vs ++ [.int a t]) (ns ++ [a]) := by
  induction h with
  | nil => exact .cons _ _ .nil
  | cons _ _ _ ih => exact .cons _ _ ih

section
variable {prog : Program} {w : World} {A : Around} {E : Value → Shared → Prop} {s : Shared} {h₀ : Heap} {L : Addr} {m : Str → Option Value} {env : Env} {elt : PySem.Expr} {x : Str} {scope : Scope} {cl : List (Str × Addr)} {S : List (Addr × Obj) → Prop} {P : Nat → Value → Prop} {Fin : List Value → List (Addr × Obj) → Prop} {news : List (Addr × Obj)}

/-- a comprehension by what holds of the items made so far -/
theorem compJ {n : Nat} (J : Nat → List Value → List (Addr × Obj) → Prop) (h0 : J 0 [] news)
    (turn : ∀ i ys nw v I oI C oC D m₂ h tk (E' : Value → Shared → Prop), i < n → P i v → J i ys nw → LCg.NsObj oC m₂ → m₂ x = some v → Fr h₀ L h m → News h₀ L h ((I, oI) :: (C, oC) :: (D, LCg.lst ys) :: nw) → LCg.Off3 I C D nw → ((@Ne Nat I C) ∧ (@Ne Nat I D) ∧ (@Ne Nat C D)) →
      wpAny (model prog w) A (eval elt (compEnvC scope cl C env)) (LCg.CompEnd h₀ L m { s with heap := h, toks := tk } I oI C oC D (LCg.lst ys) S (fun y nw' => J (i + 1) (ys ++ [y]) nw')) E' { s with heap := h, toks := tk })
    (fin : ∀ ys nw, J n ys nw → Fin ys nw) : LCg.CompRest prog w A h₀ L m env elt x scope cl s S P Fin n 0 [] news := by
  have key : ∀ (j i : Nat) (ys : List Value) (nw : List (Addr × Obj)), i + j = n → J i ys nw → LCg.CompRest prog w A h₀ L m env elt x scope cl s S P Fin j i ys nw := by
    intro j
    induction j with
    | zero =>
      intro i ys nw hi hJ
      have e : i = n := by omega
      subst e
      exact LCg.CompRest.zero (fin ys nw hJ)
    | succ j ih =>
      intro i ys nw hi hJ
      refine LCg.CompRest.succ ?_
      intro v I oI C oC D m₂ h tk E' hv hC hx F N off ne
      refine wpAny_mono (turn i ys nw v I oI C oC D m₂ h tk E' (by omega) hv hJ hC hx F N off ne) (fun y s₂ hq => ?_) fun _ _ e => e
      obtain ⟨h', tk', nw', e, F', N', off', hS, hJ'⟩ := hq
      exact ⟨h', tk', nw', e, F', N', off', hS, ih (i + 1) _ _ (by omega) hJ'⟩
  exact key n 0 [] news (by omega) h0
end

theorem dat_get {news : List (Addr × Obj)} : ∀ {vs : List Value} {ds : List Dat}, DatAll news vs ds → ∀ {i : Nat} {v : Value}, vs[i]? = some v → ∃ d, ds[i]? = some d ∧ DatIn news v d
  | _, _, .nil, i, v, e => by simp at e
  | _, _, .cons h r, 0, v, e => by cases e; exact ⟨_, rfl, h⟩
  | _, _, .cons h r, i + 1, v, e => dat_get r (by simpa using e)
theorem dat_len {news : List (Addr × Obj)} {vs : List Value} {ds : List Dat} (h : DatAll news vs ds) : vs.length = ds.length := h.length
theorem dat_drop {news : List (Addr × Obj)} : ∀ {vs : List Value} {ds : List Dat}, DatAll news vs ds → ∀ k : Nat, DatAll news (vs.drop k) (ds.drop k)
  | _, _, h, 0 => h
  | _, _, .nil, _ + 1 => .nil
  | _, _, .cons _ h, k + 1 => dat_drop h k
theorem dat_take {news : List (Addr × Obj)} : ∀ {vs : List Value} {ds : List Dat}, DatAll news vs ds → ∀ k : Nat, DatAll news (vs.take k) (ds.take k)
  | _, _, _, 0 => .nil
  | _, _, .nil, _ + 1 => .nil
  | _, _, .cons h1 h, k + 1 => .cons h1 (dat_take h k)

/-- a row as its tuple says it -/
def tupR (r : R) : Dat := .tuple [.int r.xa, .int r.ya, .int r.xo, .int r.yo]
inductive TupAt (news : List (Addr × Obj)) (v : Value) (r : R) : Prop
  | mk (a : Addr) (n : Nat) (t1 t2 t3 t4 : Tok) (e : v = .ref a) (m : (a, ({ cls := .type "tuple", data := .seq [.int r.xa t1, .int r.ya t2, .int r.xo t3, .int r.yo t4].toArray n } : Obj)) ∈ news)
theorem dat_int {news : List (Addr × Obj)} {v : Value} {k : Int} (h : DatIn news v (.int k)) : ∃ t, v = .int k t := by
  cases h
  exact ⟨_, rfl⟩
theorem dat_tup {news : List (Addr × Obj)} {v : Value} {ds : List Dat} (h : DatIn news v (.tuple ds)) : ∃ a vs n, v = .ref a ∧ (a, ({ cls := .type "tuple", data := .seq (List.toArray vs) n } : Obj)) ∈ news ∧ DatAll news vs ds := by
  cases h with
  | tuple hm r => exact ⟨_, _, _, rfl, hm, r⟩
theorem dat_more {news : List (Addr × Obj)} {vs : List Value} {k : Int} {ds : List Dat} (h : DatAll news vs (.int k :: ds)) : ∃ t vs', vs = .int k t :: vs' ∧ DatAll news vs' ds := by
  cases h with
  | cons h1 r =>
    obtain ⟨t, rfl⟩ := dat_int h1
    exact ⟨t, _, rfl, r⟩
theorem dat_end {news : List (Addr × Obj)} {vs : List Value} (h : DatAll news vs []) : vs = [] := by
  cases h; rfl
theorem tup_at {news : List (Addr × Obj)} {v : Value} {r : R} (h : DatIn news v (tupR r)) : TupAt news v r := by
  obtain ⟨a, vs, n, rfl, hm, h0⟩ := dat_tup h
  obtain ⟨t1, vs1, rfl, h1⟩ := dat_more h0
  obtain ⟨t2, vs2, rfl, h2⟩ := dat_more h1
  obtain ⟨t3, vs3, rfl, h3⟩ := dat_more h2
  obtain ⟨t4, vs4, rfl, h4⟩ := dat_more h3
  cases dat_end h4
  exact ⟨a, n, t1, t2, t3, t4, rfl, hm⟩
theorem pick_from {items : List Value} {a : Nat} : kms_pick items (some (a : Int)) none = items.drop a := by
  unfold kms_pick kms_lo kms_hi
  simp only [if_neg (show ¬ ((a : Int) < 0) by omega), Int.toNat_natCast]
  rw [kmk_drop_min]
  by_cases h2 : a ≤ items.length
  · rw [Nat.min_eq_left h2, List.take_of_length_le (by rw [List.length_drop]; omega)]
  · rw [List.drop_of_length_le (by omega)]; simp
theorem pick_upto {items : List Value} {b : Nat} : kms_pick items none (some (b : Int)) = items.take b := by
  unfold kms_pick kms_lo kms_hi
  simp only [if_neg (show ¬ ((b : Int) < 0) by omega), Int.toNat_natCast, List.drop_zero, Nat.sub_zero]
  rw [kmk_take_min]
theorem row_from {prog : Program} {w : World} {A : Around} {E : Value → Shared → Prop} {s : Shared} {h₀ : Heap} {L : Addr} {m : Str → Option Value} {news : List (Addr × Obj)} {value slice : PySem.Expr} {l : Addr} {vs : List Value} {n a : Nat} {z1 : Int} {u1 : Tok} {Q : Value → Shared → Prop}
    (F : Fr h₀ L s.heap m) (N : News h₀ L s.heap news) (hm : (l, listOf vs.toArray n) ∈ news) (e1 : z1 = (a : Int)) (hz : vs.length ≤ 1000)
    (h : ∀ D h', Fr h₀ L h' m → News h₀ L h' ((D, listOf (vs.drop a).toArray 0) :: news) → (∀ p ∈ news, p.1 < D) → Q (.ref D) { s with heap := h' })
    (hs : subscripted slice false (.ref l) (.ref s.heap.objs.size) = operate [.ref s.heap.objs.size, .ref l] (getItem (.ref l) (.ref s.heap.objs.size))) (ht : ∀ r, letTemporaryGo value (.ref l) r = pure ()) :
    wpAny (model prog w) A (subscriptTail value slice (.ref l) (.ref s.heap.objs.size)) Q E { s with heap := s.heap.push { cls := .type "slice", data := .fields #[.int z1 u1, .none, .none] } } := by
  have hl : s.heap.IsList l vs.toArray := ⟨_, (N _ hm).1, rfl, n, rfl⟩
  refine kms_slice_lit F N hl (.int _ _) .none (zs := vs.drop a) ?_ h hs ht ?_
  · rw [e1]; exact pick_from
  · rw [List.size_toArray]; exact Nat.le_trans hz (by decide)
theorem row_upto {prog : Program} {w : World} {A : Around} {E : Value → Shared → Prop} {s : Shared} {h₀ : Heap} {L : Addr} {m : Str → Option Value} {news : List (Addr × Obj)} {value slice : PySem.Expr} {l : Addr} {vs : List Value} {n b : Nat} {z2 : Int} {u2 : Tok} {Q : Value → Shared → Prop}
    (F : Fr h₀ L s.heap m) (N : News h₀ L s.heap news) (hm : (l, listOf vs.toArray n) ∈ news) (e2 : z2 = (b : Int)) (hz : vs.length ≤ 1000)
    (h : ∀ D h', Fr h₀ L h' m → News h₀ L h' ((D, listOf (vs.take b).toArray 0) :: news) → (∀ p ∈ news, p.1 < D) → Q (.ref D) { s with heap := h' })
    (hs : subscripted slice false (.ref l) (.ref s.heap.objs.size) = operate [.ref s.heap.objs.size, .ref l] (getItem (.ref l) (.ref s.heap.objs.size))) (ht : ∀ r, letTemporaryGo value (.ref l) r = pure ()) :
    wpAny (model prog w) A (subscriptTail value slice (.ref l) (.ref s.heap.objs.size)) Q E { s with heap := s.heap.push { cls := .type "slice", data := .fields #[.none, .int z2 u2, .none] } } := by
  have hl : s.heap.IsList l vs.toArray := ⟨_, (N _ hm).1, rfl, n, rfl⟩
  refine kms_slice_lit F N hl .none (.int _ _) (zs := vs.take b) ?_ h hs ht ?_
  · rw [e2]; exact pick_upto
  · rw [List.size_toArray]; exact Nat.le_trans hz (by decide)

/-- the end of an element that is an int; the ledger stands -/
def IntEnd (h₀ : Heap) (L : Addr) (m : Str → Option Value) (s₁ : Shared) (all : List (Addr × Obj)) (kk : Int) (y : Value) (s₂ : Shared) : Prop :=
  ∃ h' tk t, y = .int kk t ∧ s₂ = { s₁ with heap := h', toks := tk } ∧ Fr h₀ L h' m ∧ News h₀ L h' all
theorem IntEnd.intro {h₀ : Heap} {L : Addr} {m : Str → Option Value} {s₁ : Shared} {all : List (Addr × Obj)} {kk z : Int} {t : Tok} {h' : Heap} {tk : Nat} (F : Fr h₀ L h' m) (N : News h₀ L h' all) (e : z = kk) : IntEnd h₀ L m s₁ all kk (.int z t) { s₁ with heap := h', toks := tk } := ⟨h', tk, t, by rw [e], rfl, F, N⟩
/-- the end of an element that is a new tuple of plain data -/
def TupEnd (h₀ : Heap) (L : Addr) (m : Str → Option Value) (s₁ : Shared) (I C D : Addr) (all : List (Addr × Obj)) (ds : List Dat) (y : Value) (s₂ : Shared) : Prop :=
  ∃ h' tk D2 items n, y = .ref D2 ∧ s₂ = { s₁ with heap := h', toks := tk } ∧ Fr h₀ L h' m ∧ News h₀ L h' ((D2, ({ cls := .type "tuple", data := .seq (List.toArray items) n } : Obj)) :: all) ∧ DatAll [] items ds ∧ (@Ne Nat D2 I ∧ @Ne Nat D2 C ∧ @Ne Nat D2 D)

section
variable {prog : Program} {w : World} {A : Around} {E : Value → Shared → Prop} {s s₁ : Shared} {h₀ : Heap} {L : Addr} {m : Str → Option Value} {env : Env} {elt : PySem.Expr} {x : Str} {scope : Scope} {cl : List (Str × Addr)} {Fin : Shared → List Value → List (Addr × Obj) → Prop} {all news : List (Addr × Obj)}

theorem compInts {ks : List Int} {vs : List Value} {ax : Addr} {k : Nat} (hh : A.handled = none) (F : Fr h₀ L s₁.heap m) (N : News h₀ L s₁.heap all) (hm : (ax, listOf vs.toArray k) ∈ all) (hlen : vs.length = ks.length) (hz : vs.length ≤ 1000)
    (turn : ∀ g (i : Nat) kk v I oI C oC D m₂ ys h tk (E' : Value → Shared → Prop), vs[i]? = some v → ks[i]? = some kk → LCg.NsObj oC m₂ → m₂ x = some v → Fr h₀ L h m → News h₀ L h ((I, oI) :: (C, oC) :: (D, LCg.lst ys) :: all) → LCg.Off3 I C D all → ((@Ne Nat I C) ∧ (@Ne Nat I D) ∧ (@Ne Nat C D)) →
      wpAny (model prog w) A (eval elt (compEnvC scope cl C env)) (IntEnd h₀ L m { s₁ with heap := g } ((I, oI) :: (C, oC) :: (D, LCg.lst ys) :: all) kk) E' { s₁ with heap := h, toks := tk })
    (fin : ∀ g ys, IntsAre ys ks → Fin { s₁ with heap := g } ys all) : LCg.CompSrc prog w A h₀ L m env elt x scope cl Fin (.ref ax) s₁ := by
  refine LCg.CompSrc.ledger hh F N hm (by rw [List.size_toArray]; exact Nat.le_trans hz (by decide)) fun g => ?_
  refine compJ (fun i ys nw => nw = all ∧ IntsAre ys (ks.take i)) ⟨rfl, .nil⟩ ?_ ?_
  · rintro i ys nw v I oI C oC D m₂ h tk E' hi hv ⟨rfl, hys⟩ hC hx F' N' off ne
    have hv' : vs[i]? = some v := by simpa using hv
    have hi' : i < ks.length := by rw [← hlen]; simpa using hi
    have hk : ks[i]? = some ks[i] := List.getElem?_eq_getElem hi'
    refine wpAny_mono (turn g i _ v I oI C oC D m₂ ys h tk E' hv' hk hC hx F' N' off ne) (fun y s₂ hq => ?_) fun _ _ e => e
    obtain ⟨h', tk', t, rfl, rfl, F2, N2⟩ := hq
    refine ⟨h', tk', nw, rfl, F2, N2, off, .inr ⟨_, hm, rfl, _, rfl⟩, rfl, ?_⟩
    rw [List.take_add_one, hk]
    exact ints_snoc hys _ _
  · rintro ys nw ⟨rfl, hys⟩
    rw [List.size_toArray, hlen, List.take_length] at hys
    exact fin g ys hys

theorem compTups {dss : List (List Dat)} {vs : List Value} {ax : Addr} {k : Nat} (hh : A.handled = none) (F : Fr h₀ L s₁.heap m) (N : News h₀ L s₁.heap news) (hm : (ax, listOf vs.toArray k) ∈ news) (hlen : vs.length = dss.length) (hz : vs.length ≤ 1000)
    (turn : ∀ g (i : Nat) ds v I oI C oC D m₂ ys h tk all (E' : Value → Shared → Prop), vs[i]? = some v → dss[i]? = some ds → (∀ p ∈ news, p ∈ all) → LCg.NsObj oC m₂ → m₂ x = some v → Fr h₀ L h m → News h₀ L h ((I, oI) :: (C, oC) :: (D, LCg.lst ys) :: all) → LCg.Off3 I C D all → ((@Ne Nat I C) ∧ (@Ne Nat I D) ∧ (@Ne Nat C D)) →
      wpAny (model prog w) A (eval elt (compEnvC scope cl C env)) (TupEnd h₀ L m { s₁ with heap := g } I C D ((I, oI) :: (C, oC) :: (D, LCg.lst ys) :: all) ds) E' { s₁ with heap := h, toks := tk })
    (fin : ∀ g ys tl, DatAll tl ys (dss.map Dat.tuple) → (∀ p ∈ tl, p.2.cls = .type "tuple") → Fin { s₁ with heap := g } ys (tl ++ news)) : LCg.CompSrc prog w A h₀ L m env elt x scope cl Fin (.ref ax) s₁ := by
  refine LCg.CompSrc.ledger hh F N hm (by rw [List.size_toArray]; exact Nat.le_trans hz (by decide)) fun g => ?_
  refine compJ (fun i ys nw => ∃ tl, nw = tl ++ news ∧ DatAll tl ys ((dss.take i).map Dat.tuple) ∧ ∀ p ∈ tl, p.2.cls = .type "tuple") ⟨[], rfl, .nil, fun p hp => nomatch hp⟩ ?_ ?_
  · rintro i ys nw v I oI C oC D m₂ h tk E' hi hv ⟨tl, rfl, hys, htl⟩ hC hx F' N' off ne
    have hv' : vs[i]? = some v := by simpa using hv
    have hi' : i < dss.length := by rw [← hlen]; simpa using hi
    have hk : dss[i]? = some dss[i] := List.getElem?_eq_getElem hi'
    refine wpAny_mono (turn g i _ v I oI C oC D m₂ ys h tk (tl ++ news) E' hv' hk (fun p hp => List.mem_append_right _ hp) hC hx F' N' off ne) (fun y s₂ hq => ?_) fun _ _ e => e
    obtain ⟨h', tk', D2, items, n, rfl, rfl, F2, N2, hd, hne⟩ := hq
    refine ⟨h', tk', (D2, ({ cls := .type "tuple", data := .seq (List.toArray items) n } : Obj)) :: (tl ++ news), rfl, F2, news_sub N2 ?_, ⟨hne, off⟩, .inr ⟨_, .tail _ (List.mem_append_right _ hm), rfl, _, rfl⟩, (D2, ({ cls := .type "tuple", data := .seq (List.toArray items) n } : Obj)) :: tl, rfl, ?_, ?_⟩
    · intro p hp
      simp only [List.mem_cons] at hp ⊢
      rcases hp with h | h | h | h | h <;> simp [h]
    · rw [List.take_add_one, hk]
      simp only [Option.toList_some, List.map_append, List.map_cons, List.map_nil]
      exact DatAll.append (hys.mono fun p hp => .tail _ hp) (DatAll.one (.tuple (.head _) (hd.mono fun p hp => absurd hp List.not_mem_nil)))
    · intro p hp
      rcases List.mem_cons.mp hp with rfl | hp
      · rfl
      · exact htl p hp
  · rintro ys nw ⟨tl, rfl, hys, htl⟩
    rw [List.size_toArray, hlen, List.take_length] at hys
    exact fin g ys tl hys htl
end

end

section

/-- [:b] of a tuple -/
theorem tup_adjust (b n : Nat) (hb : b ≤ n) : Builtin.Slice.sliceAdjust none (some (b : Int)) 1 (n : Int) = (0, (b : Int)) := by
  unfold Builtin.Slice.sliceAdjust
  simp only [show ¬ ((1 : Int) < 0) by omega, show ¬ ((b : Int) < 0) by omega, if_false]
  congr 1
  omega
theorem tup_places (b : Nat) : Builtin.Slice.slicePlaces 0 (b : Int) 1 = b := by
  unfold Builtin.Slice.slicePlaces
  simp only [show (1 : Int) > 0 by omega, if_true, Int.ediv_one]
  split <;> omega
theorem tup_pick (xs : Array Value) (b : Nat) : ((List.range b).filterMap fun (k : Nat) => xs[((0 : Int) + (k : Int) * 1).toNat]?).toArray = (xs.toList.take b).toArray := by
  have e : (fun (k : Nat) => xs[((0 : Int) + (k : Int) * 1).toNat]?) = (fun x => xs[x]?) ∘ fun x => 0 + x := by
    funext k
    have : ((0 : Int) + (k : Int) * 1).toNat = 0 + k := by omega
    show xs[((0 : Int) + (k : Int) * 1).toNat]? = xs[0 + k]?
    rw [this]
  have h := pick_run xs 0 b
  rw [List.filterMap_map] at h
  rw [e, h, List.drop_zero]

section
variable {prog : Program} {w : World} {A : Around} {E : Value → Shared → Prop} {s : Shared}
theorem tup_bounds {sl : Addr} {b n : Nat} {u : Tok} {Q : Int × Int × Nat → Shared → Prop} (hs : s.heap.IsSliceOf sl .none (.int b u) .none) (hb : b ≤ n) (h : Q (0, 1, b) s) :
    wpAny (model prog w) A (Builtin.Slice.sliceApplied (.ref sl) (pure (n : Int))) Q E s := by
  obtain ⟨os, hos, -, hds⟩ := hs
  unfold Builtin.Slice.sliceApplied Builtin.Slice.sliceFields
  refine wpAny_bind (wpAny_bind (wpAny_field hos hds (x := .none) rfl (wpAny_bind (wpAny_field hos hds (x := .int b u) rfl (wpAny_bind (wpAny_field hos hds (x := .none) rfl (wpAny_pure ?_)))))))
  refine wpAny_bind (slicePart_none ?_)
  show wpAny _ _ (if ((1 : Int) == 0) = true then _ else _) _ _ s
  rw [if_neg (by decide)]
  refine wpAny_bind (slicePart_none (wpAny_bind (slicePart_int (wpAny_bind (wpAny_pure ?_)))))
  show wpAny _ _ (match Builtin.Slice.sliceAdjust none (some (b : Int)) 1 (n : Int) with | (lo, hi) => pure (lo, (1 : Int), Builtin.Slice.slicePlaces lo hi 1)) _ _ s
  rw [tup_adjust b n hb]
  show wpAny _ _ (pure ((0 : Int), (1 : Int), Builtin.Slice.slicePlaces 0 (b : Int) 1)) _ _ s
  rw [tup_places]
  exact wpAny_pure h

theorem tup_get {t sl : Addr} {items : Array Value} {b : Nat} {u : Tok} {Q : Value → Shared → Prop} (ht : IsTup s.heap t items) (hs : s.heap.IsSliceOf sl .none (.int b u) .none) (hb : b < items.size) (hz : items.size ≤ sizeLine)
    (h : Q (.ref s.heap.objs.size) { s with heap := s.heap.push { cls := .type "tuple", data := .seq (items.toList.take b).toArray } }) :
    wpAny (model prog w) A (getItem (.ref t) (.ref sl)) Q E s := by
  have hfit : sizeOk (.seq (items.toList.take b).toArray) := by
    show (items.toList.take b).toArray.size ≤ sizeLine
    rw [List.size_toArray, List.length_take]
    omega
  have hT : s.TypeIs (.ref sl) "slice" := by
    obtain ⟨os, hos, hcs, _⟩ := id hs
    exact ⟨os, hos, hcs⟩
  unfold getItem
  try with_reducible refine wpAny_holding ?_
  first | refine wpAny_bind (wpAny_pure ?_) | skip
  refine wpAny_bind (wpAny_sequenceKey ht.typeIs (by decide) ?_)
  refine wpAny_bind (wpAny_callSpecial?_slot (name := Str.ofString "__getitem__") ht.typeIs slot_tuple_getitem (wpAny_call_entry slot_tuple_getitem ht.typeIs entry_tuple_getitem ?_ (args_tuple_getitem _ _)))
  show wpAny _ _ (Builtin.Tuple.tupleItemsOf (.ref t) >>= _) _ _ s
  refine wpAny_bind (tupleItemsOf_ ht ?_)
  refine wpAny_bind (wpAny_typeOf hT ?_)
  rw [if_pos (by decide)]
  refine wpAny_bind (tup_bounds hs (Nat.le_of_lt hb) ?_)
  have hno : ¬ (((0 : Int) == 0 && (1 : Int) == 1 && b == items.size) = true) := by
    have : (b == items.size) = false := by rw [beq_eq_false_iff_ne]; omega
    rw [this]; simp
  show wpAny _ _ (if ((0 : Int) == 0 && (1 : Int) == 1 && b == items.size) = true then _ else _) _ _ s
  rw [if_neg hno, tup_pick]
  first
    | exact wpAny_bind (m := Builtin.Tuple.tupleExact _) (wpAny_newObj_type (wpAny_pure ⟨_, rfl, wpAny_pure h⟩) hfit)
    | exact wpAny_bind (m := Builtin.Tuple.tupleExact _) (wpAny_newObj_type (wpAny_bind (wpAny_pure (wpAny_pure ⟨_, rfl, wpAny_pure h⟩))) hfit)
    | exact wpAny_bind (wpAny_bind (m := Builtin.Tuple.tupleExact _) (wpAny_newObj_type (wpAny_pure (wpAny_pure ⟨_, rfl, wpAny_pure h⟩)) hfit))
    | exact wpAny_bind (wpAny_bind (m := Builtin.Tuple.tupleExact _) (wpAny_newObj_type (wpAny_pure ⟨_, rfl, wpAny_pure h⟩) hfit))

/-- the walk's step -/
theorem tup_upto {h₀ : Heap} {L : Addr} {m : Str → Option Value} {news : List (Addr × Obj)} {value slice : PySem.Expr} {t : Addr} {vs : List Value} {n b : Nat} {z : Int} {u : Tok} {Q : Value → Shared → Prop}
    (F : Fr h₀ L s.heap m) (N : News h₀ L s.heap news) (hm : (t, ({ cls := .type "tuple", data := .seq (List.toArray vs) n } : Obj)) ∈ news) (e : z = (b : Int)) (hb : b < vs.length) (hz : vs.length ≤ 1000)
    (h : ∀ (D : Addr) h', Fr h₀ L h' m → News h₀ L h' ((D, ({ cls := .type "tuple", data := .seq (List.toArray (vs.take b)) } : Obj)) :: news) → (∀ p ∈ news, p.1 < D) → Q (.ref D) { s with heap := h' })
    (hs : subscripted slice false (.ref t) (.ref s.heap.objs.size) = operate [.ref s.heap.objs.size, .ref t] (getItem (.ref t) (.ref s.heap.objs.size))) (hg : ∀ r, letTemporaryGo value (.ref t) r = pure ()) :
    wpAny (model prog w) A (subscriptTail value slice (.ref t) (.ref s.heap.objs.size)) Q E { s with heap := s.heap.push { cls := .type "slice", data := .fields #[.none, .int z u, .none] } } := by
  subst e
  have ht : IsTup s.heap t vs.toArray := ⟨_, (N _ hm).1, rfl, n, rfl⟩
  have ht' : IsTup (s.heap.push { cls := .type "slice", data := .fields #[.none, .int b u, .none] }) t vs.toArray := ht.keeps fun _ _ e => Heap.get?_push_of_some _ e
  refine subscriptTail_ops (s := { s with heap := s.heap.push { cls := .type "slice", data := .fields #[.none, .int b u, .none] } }) ht'.typeIs slot_tuple_getitem.lookup
    (tup_get ht' (Heap.IsSliceOf.new ..) (by simpa using hb) (by rw [List.size_toArray]; exact Nat.le_trans hz (by decide)) ?_) hs hg
  have N1 := News.push (F.push { cls := .type "slice", data := .fields #[.none, .int b u, .none] }) (N.grown fun _ _ e => Heap.get?_push_of_some _ e) { cls := .type "tuple", data := .seq (vs.toArray.toList.take b).toArray }
  refine h _ _ ((F.push _).push _) N1 ?_
  intro p hp
  show p.1 < (s.heap.push _).objs.size
  rw [Heap.size_push]
  exact Nat.lt_succ_of_lt (Heap.lt_size (N p hp).1)
end

end

section
theorem still_C2 : True := by
  w_top off
  trivial

set_option maxRecDepth 100000 in
set_option maxHeartbeats 8000000 in
theorem fill_it2 (w : World) (h : Heap) : (hd.heap_39 w.params).In h → PySem.Challenge.rw_nu0151_01 = PySem.Challenge.rw_nu0151_01 → True := by
  k_fill
  intros; trivial

theorem fold_state (ns : List Int) : ∀ a : Int, 0 ≤ a → a < 2147483647 → 0 ≤ ns.foldl (fun a' n' => (a' * 48271 + n'.fmod 2147483647 + 12345).fmod 2147483647) a ∧
    ns.foldl (fun a' n' => (a' * 48271 + n'.fmod 2147483647 + 12345).fmod 2147483647) a < 2147483647 := by
  induction ns with
  | nil => exact fun a h1 h2 => ⟨h1, h2⟩
  | cons n r ih => exact fun a _ _ => ih _ (fmod_0 (by decide)) (fmod_lt (by decide))

theorem news_two {h₀ h : Heap} {L : Addr} {a b : Addr × Obj} {r : List (Addr × Obj)} (N : News h₀ L h (a :: b :: r)) : News h₀ L h [a, b] := fun p hp => N p (by
  rcases List.mem_cons.mp hp with rfl | hp
  · exact .head _
  · rcases List.mem_cons.mp hp with rfl | hp
    · exact .tail _ (.head _)
    · nomatch hp)
theorem pow_pos10 (n : Nat) : (0 : Int) < 10 ^ n := Int.pow_pos (by decide)

set_option maxRecDepth 100000 in
set_option maxHeartbeats 8000000 in
theorem pen {w : World} {l : Addr} {vs : List Value} {ns : List Int}
    (hi : IntsAre vs ns) (hlen : ns.length ≤ 63)
    (mean : ExcName → Option Value) (mg mb : Str → Option Value) (dp un : Nat) (gd : Option (List Code)) (cn : Str) (cs : Scope) (a : Addr) (ccd : Value) (cl : List (Str × Addr)) (outer : List Env)
    (A₀ : Around) (base h₀ : Heap) (L : Addr) (m : Str → Option Value) (s : Shared) (Q E : Value → Shared → Prop) (hl : base.IsList l vs.toArray)
    (B : Below A₀ base outer h₀) (F : Fr h₀ L s.heap m) (X : (hd.heap_39 w.params).In h₀) (N : News h₀ L s.heap []) (T : Top hd.view_39 (looseW hd.view_39 []) mean mg mb h₀) (hk : cs.kind = .function)
    (hd : dp + 1 < recursionLimit) (hu : un + 8 * 1 < cLine)
    (ret : ∀ (pn cx : Addr) (gr st : Int) (t1 t2 t3 n nc : Nat) (ys : List Value) (ms : List Int) h' tk', IntsAre ys ms → ms.length ≤ 48 → PenOk gr st 0 → @LT.lt Nat _ cx pn → Fr h₀ L h' m →
      News h₀ L h' [(pn, penO cx gr st 0 t1 t2 t3 n), (cx, listOf ys.toArray nc)] → Q (.ref pn) { s with heap := h', toks := tk' }) :
    wpAny (model PySem.Challenge.rw_nu0151_01.row.prog w) (ktrTop dp un gd cn cs L a ccd cl outer) (call (.ref 146) [.ref l]) Q E s := by
  refine wpAny_call ?_
  k_dflt cell_enter
  k_steps
  all_goals (
    rename IntsAre _ (List.map _ _) => hI8
    rename News h₀ _ _ _ => kN
    rename Fr h₀ _ _ _ => kF
    rename _ ∧ _ => l1
    exact ret _ _ _ _ _ _ _ _ _ _ _ _ _ hI8 (by simp only [List.length_map, List.length_take]; omega) ⟨by first | exact fmod_0 (pow_pos10 _) | decide, by first | exact fmod_lt (pow_pos10 _) | exact pow_pos10 _, (fold_state _ 1 (by decide) (by decide)).1, (fold_state _ 1 (by decide) (by decide)).2, by decide, by decide⟩ l1.1 kF
      (news_two kN))

end

local macro_rules | `(tactic| k_ne) => `(tactic| first | assumption | (apply Ne.symm; assumption) | (apply Nat.ne_of_lt; assumption) | (apply Nat.ne_of_gt; assumption))
local macro_rules | `(tactic| k_all) => `(tactic| first | assumption | exact pre_nil | (refine pre_cons ?_ ?_; (focus k_ne); k_all))
local macro_rules | `(tactic| k_mem) => `(tactic| assumption)
local macro_rules | `(tactic| k_room) => `(tactic| ktr_room)
local macro_rules | `(tactic| k_units) => `(tactic| ktr_units)
section
theorem still_C1 : True := by
  w_top off
  trivial
local macro_rules | `(tactic| walk_at "none") => `(tactic| skip)

set_option maxRecDepth 100000 in
set_option maxHeartbeats 8000000 in
theorem fill_it (w : World) (h : Heap) : (hd.heap_39 w.params).In h → PySem.Challenge.rw_nu0151_01 = PySem.Challenge.rw_nu0151_01 → True := by
  k_fill
  intros; trivial

set_option maxRecDepth 100000 in
set_option maxHeartbeats 8000000 in
theorem draw {w : World} {news : List (Addr × Obj)} {pn cx : Addr} {gr st pl lim : Int} {t1 t2 t3 n nc tl : Nat} {vs : List Value} {ns : List Int}
    (hi : IntsAre vs ns) (hlen : ns.length ≤ 48) (hP : PenOk gr st pl) (hl0 : 0 < lim) (hl1 : lim ≤ 100)
    (hne : @Ne Nat cx pn) (hoff : ∀ p ∈ news, p.1 ≠ pn) :
    Ctr w 153 1 [.ref pn, .int lim tl] ((pn, penO cx gr st pl t1 t2 t3 n) :: (cx, listOf vs.toArray nc) :: news)
      (fun v nw => ∃ (gr' st' d : Int) (t1' t2' t3' td n' : Nat), v = .int d td ∧ nw = (pn, penO cx gr' st' (pl + 1) t1' t2' t3' n') :: (cx, listOf vs.toArray nc) :: news ∧
        0 ≤ gr' ∧ gr' < 10 ^ 240 ∧ 0 ≤ st' ∧ st' < 2147483647 ∧ 0 ≤ d ∧ d < lim) := by
  intro mean mg mb dp un gd cn cs a ccd cl outer A₀ base h₀ L m s Q E B F X N T hk hd hu ret
  obtain ⟨hg, hg', hs0, hs1, hp0, hp1⟩ := hP
  refine wpAny_call ?_
  k_dflt cell_enter
  k_steps
  · exact ret _ _ _ _ ⟨_, _, _, _, _, _, _, _, rfl, rfl, fdiv_0 hg hl0, fdiv_lt hg hl0 hg', hs0, hs1, fmod_0 hl0, fmod_lt hl0⟩ (by assumption) (by assumption)
  · exact ret _ _ _ _ ⟨_, _, _, _, _, _, _, _, rfl, rfl, hg, hg', fmod_0 (by decide), fmod_lt (by decide), fmod_0 hl0, fmod_lt hl0⟩ (by assumption) (by assumption)
  · exact ret _ _ _ _ ⟨_, _, _, _, _, _, _, _, rfl, rfl, hg, hg', fmod_0 (by decide), fmod_lt (by decide), fmod_0 hl0, fmod_lt hl0⟩ (by assumption) (by assumption)
theorem off_app {pn : Addr} {pre tl : List (Addr × Obj)} (h1 : ∀ p ∈ pre, p.1 ≠ pn) (h2 : ∀ p ∈ tl, p.1 ≠ pn) : ∀ p ∈ pre ++ tl, p.1 ≠ pn := fun p hp => (List.mem_append.mp hp).elim (h1 p) (h2 p)

theorem draw_at {w : World} {pre news : List (Addr × Obj)} {pn cx : Addr} {gr st pl lim : Int} {t1 t2 t3 n nc tl : Nat} {vs : List Value} {ns : List Int}
    (hi : IntsAre vs ns) (hlen : ns.length ≤ 48) (hP : PenOk gr st pl) (hl0 : 0 < lim) (hl1 : lim ≤ 100)
    (hne : @Ne Nat cx pn) (hpre : ∀ p ∈ pre, p.1 ≠ pn) (hoff : ∀ p ∈ news, p.1 ≠ pn) :
    Ctr w 153 1 [.ref pn, .int lim tl] (pre ++ (pn, penO cx gr st pl t1 t2 t3 n) :: (cx, listOf vs.toArray nc) :: news)
      (fun v nw => ∃ (gr' st' d : Int) (t1' t2' t3' td n' : Nat), v = .int d td ∧ nw = pre ++ (pn, penO cx gr' st' (pl + 1) t1' t2' t3' n') :: (cx, listOf vs.toArray nc) :: news ∧
        0 ≤ gr' ∧ gr' < 10 ^ 240 ∧ 0 ≤ st' ∧ st' < 2147483647 ∧ 0 ≤ d ∧ d < lim) := by
  intro mean mg mb dp un gd cn cs a ccd cl outer A₀ base h₀ L m s Q E B F X N T hk hd hu ret
  refine Ctr.use (draw (news := pre ++ news) (t1 := t1) (t2 := t2) (t3 := t3) (n := n) (nc := nc) hi hlen hP hl0 hl1 hne (off_app hpre hoff)) B F X N T hk hd hu (fun p hp => ?_) ?_
  · simp only [List.mem_cons, List.mem_append] at hp ⊢
    rcases hp with h | h | h | h <;> simp [h]
  · rintro v h' tk' nw ⟨gr', st', d, t1', t2', t3', td, n', rfl, rfl, h1, h2, h3, h4, h5, h6⟩ F' N'
    refine ret _ _ _ _ ⟨gr', st', d, t1', t2', t3', td, n', rfl, rfl, h1, h2, h3, h4, h5, h6⟩ F' (fun p hp => N' p ?_)
    simp only [List.mem_cons, List.mem_append] at hp ⊢
    rcases hp with h | h | h | h <;> simp [h]

/-- a draw at its place in the ledger, as the walk lays it: the facts behind it are handed on one by one -/
theorem draw_use {w : World} {pre news : List (Addr × Obj)} {pn cx : Addr} {gr st pl lim : Int} {t1 t2 t3 n nc tl : Nat} {vs : List Value} {ns : List Int}
    {mean : ExcName → Option Value} {mg mb : Str → Option Value} {dp un : Nat} {gd : Option (List Code)} {cn : Str} {cs : Scope} {a : Addr} {ccd : Value} {cl : List (Str × Addr)} {outer : List Env}
    {A₀ : Around} {base h₀ : Heap} {L : Addr} {m : Str → Option Value} {s : Shared} {Q E : Value → Shared → Prop}
    (N : News h₀ L s.heap (pre ++ (pn, penO cx gr st pl t1 t2 t3 n) :: (cx, listOf vs.toArray nc) :: news)) (F : Fr h₀ L s.heap m) (B : Below A₀ base outer h₀) (X : (hd.heap_39 w.params).In h₀) (T : Top hd.view_39 (looseW hd.view_39 []) mean mg mb h₀) (hk : cs.kind = .function)
    (hd : dp + 1 < recursionLimit) (hu : un + 8 * 1 < cLine)
    (hi : IntsAre vs ns) (hlen : ns.length ≤ 48) (hP : PenOk gr st pl) (hl0 : 0 < lim) (hl1 : lim ≤ 100)
    (hne : @Ne Nat cx pn) (hpre : ∀ p ∈ pre, p.1 ≠ pn) (hoff : ∀ p ∈ news, p.1 ≠ pn)
    (h : ∀ (h' : Heap) (tk' : Nat) (gr' st' d : Int) (t1' t2' t3' td n' : Nat), 0 ≤ gr' → gr' < 10 ^ 240 → 0 ≤ st' → st' < 2147483647 → 0 ≤ d → d < lim →
      Fr h₀ L h' m → News h₀ L h' (pre ++ (pn, penO cx gr' st' (pl + 1) t1' t2' t3' n') :: (cx, listOf vs.toArray nc) :: news) → Q (.int d td) { s with heap := h', toks := tk' }) :
    wpAny (model PySem.Challenge.rw_nu0151_01.row.prog w) (ktrTop dp un gd cn cs L a ccd cl outer) (call (.ref 153) [.ref pn, .int lim tl]) Q E s := by
  refine Ctr.use' (draw_at hi hlen hP hl0 hl1 hne hpre hoff) N B F X T hk hd hu ?_
  rintro v h' tk' nw ⟨gr', st', d, t1', t2', t3', td, n', rfl, rfl, g0, g1, s0, s1, d0, d1⟩ F' N'
  exact h h' tk' gr' st' d t1' t2' t3' td n' g0 g1 s0 s1 d0 d1 F' N'

end

local macro_rules | `(tactic| walk_at "subscriptTail Name Name ref int") => `(tactic| ((with_reducible show wpAny _ _ (subscriptTail _ _ (Value.ref _) (Value.int _ _)) _ _ _); k_dflt (refine' row_item ?N ?m ?z ?x ?b ?_ ?s; (case N => k_asm); (case m => first | k_mem | exact List.mem_cons_of_mem _ (by k_mem)); (case z => first | assumption | exact rfl); (case x => assumption); (case b => omega); (case s => with_unfolding_all rfl); k_whole)))
local macro_rules | `(tactic| walk_at "subscriptTail Name Slice ref ref") => `(tactic| refine stop_ ?_)
local macro_rules | `(tactic| walk_at "CompSrc") => `(tactic| refine stop_ ?_)
local macro_rules | `(tactic| walk_at "CompEnd") => `(tactic| refine stop_ ?_)
local macro_rules | `(tactic| walk_at "eval ListComp") => `(tactic| (k_here; k_dflt (refine LCg.ListComp_U (F₀ := by k_asm) (by with_unfolding_all rfl) (by decide) (by rfl) (by decide) (by rfl) ?_)))
section
local macro_rules | `(tactic| walk_at "pyIter ref") => `(tactic| refine stop_ ?_)
local macro_rules | `(tactic| walk_at "WhileStep2") => `(tactic| refine stop_ ?_)
local macro_rules | `(tactic| walk_at "call builtin:len") => `(tactic| ((with_reducible show wpAny _ _ (call (Value.builtin "len") [Value.ref _]) _ _ _); k_dflt (refine' row_len ?N ?m ?k ?z ?_; (case N => k_asm); (case m => k_mem); (case k => assumption); (case z => omega); k_whole)))
section
theorem still_C4 : True := by
  w_top off
  trivial

set_option maxRecDepth 100000 in
set_option maxHeartbeats 8000000 in
theorem fill_it4 (w : World) (h : Heap) : (hd.heap_39 w.params).In h → PySem.Challenge.rw_nu0151_01 = PySem.Challenge.rw_nu0151_01 → True := by
  k_fill
  intros; trivial

local macro_rules | `(tactic| walk_at "call ref") => `(tactic| refine stop_ ?_)
local macro_rules | `(tactic| walk_at "exec While BoolOp cons nil") => `(tactic| refine stop_ ?_)

theorem any_mem {l : List Nat} {h : Nat} (e : ((l.map Int.ofNat).any fun x => x == (h : Int)) = true) : h ∈ l := by
  obtain ⟨x, hx, e⟩ := List.any_eq_true.mp e
  obtain ⟨k, hk, rfl⟩ := List.mem_map.mp hx
  have : k = h := Int.ofNat.inj (beq_iff_eq.mp e)
  exact this ▸ hk
theorem any_not {l : List Nat} {h : Nat} (e : ((l.map Int.ofNat).any fun x => x == (h : Int)) = false) : h ∉ l := fun hm => by
  have : ((l.map Int.ofNat).any fun x => x == (h : Int)) = true := List.any_eq_true.mpr ⟨(h : Int), List.mem_map.mpr ⟨h, hm, rfl⟩, beq_self_eq_true _⟩
  rw [e] at this; cases this
inductive ChainJ (news : List (Addr × Obj)) (rs : List R) (lr : Addr) (a : Nat) (n : Nat) (m : Str → Option Value) (nw : List (Addr × Obj)) : Prop
  | mk (lc : Addr) (vs : List Value) (line : List Nat) (k h : Nat) (t : Tok) (f0 : nw = (lc, listOf vs.toArray k) :: news) (f1 : m (Str.ofString "row") = some (.ref lr)) (f2 : m (Str.ofString "line") = some (.ref lc)) (f3 : m (Str.ofString "here") = some (.int (h : Int) t)) (f4 : IntsAre vs (line.map Int.ofNat)) (f5 : Path rs a line h) (f6 : line.Nodup) (f7 : (∀ p ∈ news, p.1 < lc)) (f8 : n = rs.length + 1 - line.length)

theorem chain_step {h₀ h' : Heap} {L lc lr : Addr} {s : Shared} {tk : Nat} {m' : Str → Option Value} {news : List (Addr × Obj)} {rs : List R} {a n : Nat} {vs : List Value} {line : List Nat} {k h : Nat} {t u : Tok} {r : R} {Q : Flow → Shared → Prop}
    (F : Fr h₀ L h' m') (N : News h₀ L h' ((lc, listOf (vs.toArray.push (.int (h : Int) t)) (k + 1)) :: news)) (hm1 : m' (Str.ofString "row") = some (.ref lr)) (hm2 : m' (Str.ofString "line") = some (.ref lc)) (hm3 : m' (Str.ofString "here") = some (.int ((h : Int) + r.pa) u))
    (hi : IntsAre vs (line.map Int.ofNat)) (hp : Path rs a line h) (hnd : line.Nodup) (hlt : ∀ p ∈ news, p.1 < lc) (hn : n = rs.length + 1 - line.length) (hll : line.length ≤ rs.length) (hr : rs[h]? = some r)
    (e1 : r.pa ≠ 0) (e2 : 0 ≤ (h : Int) + r.pa) (e3 : (h : Int) + r.pa < (rs.length : Int)) (e4 : h ∉ line) : WhileStep2 h₀ L s (ChainJ news rs lr a) Q n .next { s with heap := h', toks := tk } := by
  have e5 : (((h : Int) + r.pa).toNat : Int) = (h : Int) + r.pa := Int.toNat_of_nonneg e2
  refine ⟨_, _, _, _, rs.length + 1 - (line ++ [h]).length, rfl, F, N, by simp; omega, lc, vs ++ [.int (h : Int) t], line ++ [h], k + 1, ((h : Int) + r.pa).toNat, u, by simp, hm1, hm2, by rw [e5]; exact hm3, ?_, hp.snoc (step_some hr e1 e2 e3), ?_, hlt, rfl⟩
  · rw [List.map_append]; exact ints_snoc hi _ _
  · rw [List.nodup_append]
    exact ⟨hnd, by simp, fun x hx y hy => by simp at hy; subst hy; exact fun e => e4 (e ▸ hx)⟩

inductive ChainPost (rs : List R) (a : Nat) (news : List (Addr × Obj)) (v : Value) (nw : List (Addr × Obj)) : Prop
  | mk (lc : Addr) (vs : List Value) (line : List Nat) (k b : Nat) (f0 : v = .ref lc) (f1 : nw = (lc, listOf vs.toArray k) :: news) (f2 : IntsAre vs (line.map Int.ofNat)) (f3 : Path rs a line b) (f4 : line.Nodup) (f5 : (b ∈ line ∨ step rs b = none)) (f6 : (∀ p ∈ news, p.1 < lc))

set_option maxRecDepth 100000 in
set_option maxHeartbeats 8000000 in
theorem chain {w : World} {news : List (Addr × Obj)} {lr : Addr} {a nl t1 : Nat} {cs : List Cell} {rs : List R}
    (hrow : (lr, listOf (rowOf cs).toArray nl) ∈ news) (hled : ∀ p ∈ led cs, p ∈ news) (hInf : Infos w.params cs rs) (ha : a < rs.length) (h8 : rs.length ≤ 8) :
    Ctr w 28 2 [.ref lr, .int (a : Int) t1] news
      (ChainPost rs a news) := by
  intro mean mg mb dp un gd cn cs' a' ccd cl outer A₀ base h₀ L m s Q E B F X N T hk hd hu ret
  refine wpAny_call ?_
  k_dflt cell_enter
  k_steps
  rename News _ _ _ _ => N1
  rename Fr _ _ _ _ => F1
  rename ∀ p ∈ news, p.1 < _ => l1
  refine Stop.go (While_inv2 (ChainJ news rs lr a) F1 N1 ⟨_, [], [], 0, a, t1, rfl, by with_unfolding_all rfl, by with_unfolding_all rfl, by with_unfolding_all rfl, .nil, .nil _, by simp, l1, rfl⟩ ?turn)
  clear F1 N1
  rintro n m₁ nw h₁ tk₁ F N ⟨lc, vs, line, k, h, t, rfl, hm1, hm2, hm3, hi, hp, hnd, hlt, hn⟩
  have hh : h < rs.length := hp.end_lt ha
  have hrl : (rowOf cs).length = rs.length := (rowOf_length cs).trans hInf.length
  have F := fr_say (Str.ofString "row") ((if_neg (by decide)).trans ((if_neg (by decide)).trans hm1)) (fr_say (Str.ofString "line") ((if_neg (by decide)).trans hm2) (fr_say _ hm3 F))
  obtain ⟨r, hr⟩ : ∃ r, rs[h]? = some r := ⟨_, List.getElem?_eq_getElem hh⟩
  obtain ⟨⟨x, d, o⟩, hc, hI⟩ := hInf.getR hr
  have hx := rowOf_get hc
  have hcm := List.mem_of_getElem? hc
  have mx := hled _ (led_x hcm)
  have md := hled _ (led_d hcm)
  dsimp only at hx mx md hI
  have off : ∀ p ∈ news, p.1 ≠ lc := fun p hp => Nat.ne_of_lt (hlt p hp)
  have hll : line.length ≤ rs.length := nodup_len _ _ hnd hp.lt
  have hvl : vs.length ≤ 8 := by rw [hi.length, List.length_map]; omega
  revert md
  refine hI.open_ ?_
  iterate 30 (intro _)
  intro md
  have end1 : ∀ h' tk', Fr h₀ L h' m → News h₀ L h' ((lc, listOf vs.toArray k) :: news) → (h ∈ line ∨ step rs h = none) → Q (.ref lc) { s with heap := h', toks := tk' } :=
    fun h' tk' F N e => ret _ _ _ _ ⟨lc, vs, line, k, h, rfl, rfl, hi, hp, hnd, e, hlt⟩ F N
  k_steps
  · exact end1 _ _ (by assumption) (by assumption) (.inl (any_mem (by assumption)))
  · rename News _ _ _ _ => N2
    rename Fr _ _ _ _ => F2
    exact chain_step F2 N2 (by with_unfolding_all rfl) (by with_unfolding_all rfl) (by with_unfolding_all rfl) hi hp hnd hlt hn hll hr (by assumption) (by assumption) (by assumption) (any_not (by assumption))
  · exact end1 _ _ (by assumption) (by assumption) (.inr (step_high hr (by omega)))
  · exact end1 _ _ (by assumption) (by assumption) (.inr (step_low hr (by omega)))
  · exact end1 _ _ (by assumption) (by assumption) (.inr (step_zero hr (by assumption)))

end

section
theorem still_C5 : True := by
  w_top off
  trivial
local macro_rules | `(tactic| walk_at "none") => `(tactic| skip)

set_option maxRecDepth 100000 in
set_option maxHeartbeats 8000000 in
theorem fill_it5 (w : World) (h : Heap) : (hd.heap_39 w.params).In h → PySem.Challenge.rw_nu0151_01 = PySem.Challenge.rw_nu0151_01 → True := by
  k_fill
  intros; trivial

local macro_rules | `(tactic| walk_at "call ref") => `(tactic| refine stop_ ?_)

local macro_rules | `(tactic| walk_at "exec For Name Name cons nil") => `(tactic| (k_here; (rename Fr _ _ _ _ => lF'); (with_unfolding_all refine' For_invVF lF' ?k1 ?k2 ?_; (case k1 => exact rfl); (case k2 => exact rfl); k_whole)))

/-- one of the infos whose advances are taken: the info itself, or another -/
def OneAt (P : Params) (news : List (Addr × Obj)) (x1 : Addr) (r1 : R) (v : Value) (r : R) : Prop :=
  (v = .ref x1 ∧ r.xa = r1.xa ∧ r.ya = r1.ya) ∨ ∃ x d o, v = .ref x ∧ (x, instObj 87 d) ∈ news ∧ (d, o) ∈ news ∧ IsInfo P o r

theorem Paired.at {α β : Type} {F : α → β → Prop} {l₁ : List α} {l₂ : List β} (h : Paired F l₁ l₂) : ∀ {i : Nat} {a : α}, l₁[i]? = some a → ∃ b, l₂[i]? = some b ∧ F a b := by
  induction h with
  | nil => intro i a e; simp at e
  | cons hf _ ih =>
    intro i a e
    cases i with
    | zero => cases e; exact ⟨_, rfl, hf⟩
    | succ i => exact ih (by simpa using e)

theorem sumX_take {rl : List R} {k : Nat} {r : R} (h : rl[k]? = some r) : sumX (rl.take (k + 1)) = sumX (rl.take k) + r.xa := by
  simp [sumX, List.take_add_one, h]
theorem sumY_take {rl : List R} {k : Nat} {r : R} (h : rl[k]? = some r) : sumY (rl.take (k + 1)) = sumY (rl.take k) + r.ya := by
  simp [sumY, List.take_add_one, h]

inductive TakeJ (P : Params) (news : List (Addr × Obj)) (x1 d1 : Addr) (r1 : R) (sg : Int) (rl : List R) (k : Nat) (m : Str → Option Value) (nw : List (Addr × Obj)) : Prop
  | mk (o : Obj) (t : Tok) (f0 : nw = (d1, o) :: news) (f1 : IsInfo P o { r1 with xo := r1.xo - sg * sumX (rl.take k), yo := r1.yo - sg * sumY (rl.take k) }) (f2 : m (Str.ofString "info") = some (.ref x1)) (f3 : m (Str.ofString "sign") = some (.int sg t))

theorem take_turn {P : Params} {h₀ h' : Heap} {L I x1 d1 : Addr} {s₁ : Shared} {tk : Nat} {it o : Obj} {news : List (Addr × Obj)} {r1 r' : R} {sg : Int} {rl : List R} {k : Nat} {t : Tok} {m' : Str → Option Value}
    (F : Fr h₀ L h' m') (N : News h₀ L h' ((I, it) :: (d1, o) :: news)) (hI : IsInfo P o r') (hm1 : m' (Str.ofString "info") = some (.ref x1)) (hm2 : m' (Str.ofString "sign") = some (.int sg t))
    (hI2 : Stop (∀ p ∈ news, p.1 < I)) (e1 : @Ne Nat I d1) (hr' : r' = { r1 with xo := r1.xo - sg * sumX (rl.take (k + 1)), yo := r1.yo - sg * sumY (rl.take (k + 1)) }) :
    JEnd h₀ L s₁ I it (TakeJ P news x1 d1 r1 sg rl (k + 1)) { s₁ with heap := h', toks := tk } := by
  subst hr'
  refine JEnd.intro _ F N (fun _ h => h) (fun p hp => .inl ?_) ⟨o, t, rfl, hI, hm1, hm2⟩
  rcases List.mem_cons.mp hp with rfl | hp
  · exact Ne.symm e1
  · exact Nat.ne_of_lt (hI2 p hp)

set_option maxRecDepth 100000 in
set_option maxHeartbeats 8000000 in
theorem takeAdv {w : World} {news : List (Addr × Obj)} {x1 d1 lb : Addr} {o1 : Obj} {r1 : R} {vs : List Value} {rl : List R} {nb ts : Nat} {sg : Int}
    (hI : IsInfo w.params o1 r1) (hx1 : (x1, instObj 87 d1) ∈ news) (hlb : (lb, listOf vs.toArray nb) ∈ news) (hoff : ∀ p ∈ news, p.1 ≠ d1) (hsg : sg = 1 ∨ sg = -1) (hb1 : 0 ≤ r1.xa ∧ r1.xa < 60 ∧ 0 ≤ r1.ya ∧ r1.ya < 3)
    (hv : Paired (OneAt w.params news x1 r1) vs rl) (hb : ∀ r ∈ rl, 0 ≤ r.xa ∧ r.xa < 60 ∧ 0 ≤ r.ya ∧ r.ya < 3) :
    Ctr w 42 2 [.ref x1, .ref lb, .int sg ts] ((d1, o1) :: news)
      (fun v nw => ∃ o, v = .none ∧ nw = (d1, o) :: news ∧ IsInfo w.params o { r1 with xo := r1.xo - sg * sumX rl, yo := r1.yo - sg * sumY rl }) := by
  intro mean mg mb dp un gd cn cs' a' ccd cl outer A₀ base h₀ L m s Q E B F X N T hk hd hu ret
  refine wpAny_call ?_
  k_dflt cell_enter
  k_steps
  rename News _ _ _ _ => N1
  rename Fr _ _ _ _ => F1
  have h0 : IsInfo w.params o1 { r1 with xo := r1.xo - sg * sumX (rl.take 0), yo := r1.yo - sg * sumY (rl.take 0) } := by simpa [sumX, sumY] using hI
  refine Stop.go (iter_listJ (TakeJ w.params news x1 d1 r1 sg rl) (by rfl) F1 N1 (.tail _ hlb) ⟨o1, ts, rfl, h0, by with_unfolding_all rfl, by with_unfolding_all rfl⟩ (fun i m nw ⟨_, _, e, _, _, _⟩ => by subst e; exact .tail _ hlb) ?turn ?done)
  case done =>
    rintro m nw h tk ⟨o, t, rfl, hIo, hm1, hm2⟩ F N
    clear F1 N1
    have el : vs.length = rl.length := Paired.length hv
    rw [el, List.take_length] at hIo
    dsimp only
    k_steps
    exact ret _ _ _ _ ⟨o, rfl, rfl, hIo⟩ (by assumption) (by assumption)
  case turn =>
    rintro I it i v m nw h tk hit hI' hvi ⟨o, t, rfl, hIo, hm1, hm2⟩ F N
    clear F1 N1
    have e1 : @Ne Nat I d1 := Nat.ne_of_gt (hI' _ (.head _))
    have hI2 : Stop (∀ p ∈ news, p.1 < I) := fun p hp => hI' p (.tail _ hp)
    clear hI'
    obtain ⟨r, hr, ho⟩ := Paired.at hv hvi
    obtain ⟨b1, b2, b3, b4⟩ := hb r (List.mem_of_getElem? hr)
    have F := fr_say2 (Str.ofString "info") ((if_neg (by decide)).trans hm1) (fr_say2 _ hm2 F)
    rcases ho with ⟨rfl, a1, a2⟩ | ⟨x, d, o', rfl, mx, md, ho⟩
    · revert N
      refine hIo.open_ ?_
      iterate 30 (intro _)
      intro N
      dsimp only at N
      k_steps
      rename News _ _ _ _ => N2
      rename Fr _ _ _ _ => F2
      exact take_turn F2 N2 (.mk ..) (by with_unfolding_all rfl) (by with_unfolding_all rfl) hI2 e1 (by simp only [sumX_take hr, sumY_take hr, a1, a2, Int.mul_add, R.mk.injEq, true_and, and_true]; omega)
    · revert md
      refine ho.open_ ?_
      iterate 30 (intro _)
      intro md
      revert N
      refine hIo.open_ ?_
      iterate 30 (intro _)
      intro N
      dsimp only at N
      k_steps
      rename News _ _ _ _ => N2
      rename Fr _ _ _ _ => F2
      exact take_turn F2 N2 (.mk ..) (by with_unfolding_all rfl) (by with_unfolding_all rfl) hI2 e1 (by simp only [sumX_take hr, sumY_take hr, Int.mul_add, R.mk.injEq, true_and, and_true]; omega)

end

section
theorem still_C3 : True := by
  w_top off
  trivial

set_option maxRecDepth 100000 in
set_option maxHeartbeats 8000000 in
theorem fill_it3 (w : World) (h : Heap) : (hd.heap_39 w.params).In h → PySem.Challenge.rw_nu0151_01 = PySem.Challenge.rw_nu0151_01 → True := by
  k_fill
  intros; trivial

set_option maxRecDepth 100000 in
set_option maxHeartbeats 8000000 in
theorem mkInfo {w : World} {news : List (Addr × Obj)} {c g u : Int} {tc tg tu : Nat} :
    Ctr w 87 2 [.int c tc, .int g tg, .int u tu] news
      (fun v nw => ∃ (x d : Addr) (o : Obj), v = .ref x ∧ nw = (x, instObj 87 d) :: (d, o) :: news ∧ IsInfo w.params o ⟨0, 0, 0, 0, 0, Str.ofString "", g⟩ ∧ (∀ p ∈ news, p.1 < d) ∧ @LT.lt Nat _ d x) := by
  intro mean mg mb dp un gd cn cs a ccd cl outer A₀ base h₀ L m s Q E B F X N T hk hd hu ret
  refine call_cls F X N (by k_is) (by k_is) (by k_is) fun x d h' F N l1 l2 => ?_
  k_sweep
  have l1' := l1
  replace l1 := allLt_of l1
  replace l2 := ltN l2
  k_dflt cell_enter
  k_steps
  rename News h₀ _ _ _ => kN
  rename Fr h₀ _ _ _ => kF
  exact ret _ _ _ _ ⟨_, _, _, rfl, rfl, .mk .., l1', l2⟩ kF kN

theorem mkInfo_use {w : World} {news : List (Addr × Obj)} {c g u : Int} {tc tg tu : Nat}
    {mean : ExcName → Option Value} {mg mb : Str → Option Value} {dp un : Nat} {gd : Option (List Code)} {cn : Str} {cs : Scope} {a : Addr} {ccd : Value} {cl : List (Str × Addr)} {outer : List Env}
    {A₀ : Around} {base h₀ : Heap} {L : Addr} {m : Str → Option Value} {s : Shared} {Q E : Value → Shared → Prop}
    (N : News h₀ L s.heap news) (F : Fr h₀ L s.heap m) (B : Below A₀ base outer h₀) (X : (hd.heap_39 w.params).In h₀) (T : Top hd.view_39 (looseW hd.view_39 []) mean mg mb h₀) (hk : cs.kind = .function)
    (hd : dp + 2 < recursionLimit) (hu : un + 8 * 2 < cLine)
    (h : ∀ (h' : Heap) (tk' : Nat) (x d : Addr) (o : Obj), IsInfo w.params o ⟨0, 0, 0, 0, 0, Str.ofString "", g⟩ → (∀ p ∈ news, p.1 < d) → @LT.lt Nat _ d x → Fr h₀ L h' m → News h₀ L h' ((x, instObj 87 d) :: (d, o) :: news) → Q (.ref x) { s with heap := h', toks := tk' }) :
    wpAny (model PySem.Challenge.rw_nu0151_01.row.prog w) (ktrTop dp un gd cn cs L a ccd cl outer) (call (.ref 87) [.int c tc, .int g tg, .int u tu]) Q E s := by
  refine Ctr.use' mkInfo N B F X T hk hd hu ?_
  rintro v h' tk' nw ⟨x, d, o, rfl, rfl, hI, l, l'⟩ F' N'
  exact h h' tk' x d o hI l l' F' N'

local macro_rules | `(tactic| walk_at "call ref") => `(tactic| refine stop_ ?_)

/-- an info as it is made -/
def FreshAt (i : Nat) (r : R) : Prop := 0 ≤ r.xa ∧ r.xa < 60 ∧ 0 ≤ r.ya ∧ r.ya < 3 ∧ r.pa = 0 ∧ r.bond = Str.ofString "" ∧ r.gl = (i : Int) + 5
def AllFresh (rs : List R) : Prop := ∀ i r, rs[i]? = some r → FreshAt i r
theorem AllFresh.snoc {rs : List R} {r : R} (h : AllFresh rs) (hr : FreshAt rs.length r) : AllFresh (rs ++ [r]) := by
  intro i r' e
  rcases Nat.lt_trichotomy i rs.length with h1 | h1 | h1
  · exact h i r' (by rwa [List.getElem?_append_left h1] at e)
  · subst h1
    simp at e
    subst e
    exact hr
  · have : (rs ++ [r])[i]? = none := List.getElem?_eq_none (by simp; omega)
    rw [this] at e; cases e

theorem infos_end {h₀ h' : Heap} {L I li pn cx x d : Addr} {it o op ox : Obj} {cs : List Cell} {nl : Nat} {news : List (Addr × Obj)}
    (N : News h₀ L h' ((x, instObj 87 d) :: (d, o) :: (I, it) :: (li, listOf ((rowOf cs).toArray.push (.ref x)) (nl + 1)) :: (pn, op) :: (cx, ox) :: (led cs ++ news))) :
    News h₀ L h' ((I, it) :: (li, listOf (rowOf (cs ++ [⟨x, d, o⟩])).toArray (nl + 1)) :: (pn, op) :: (cx, ox) :: (led (cs ++ [⟨x, d, o⟩]) ++ news)) := by
  refine news_sub N fun p hp => ?_
  rw [← rowOf_push cs ⟨x, d, o⟩] at hp
  simp only [led_snoc, List.mem_cons, List.mem_append, List.not_mem_nil, or_false] at hp ⊢
  rcases hp with h | h | h | h | (h | h | h) | h <;> simp [h]

inductive InfosJ (P : Params) (news : List (Addr × Obj)) (pn cx : Addr) (pl : Int) (vs : List Value) (nc : Nat) (i : Nat) (m : Str → Option Value) (nw : List (Addr × Obj)) : Prop
  | mk (cs : List Cell) (rs : List R) (gr st : Int) (t1 t2 t3 n' nl : Nat) (li : Addr) (f0 : nw = (li, listOf (rowOf cs).toArray nl) :: (pn, penO cx gr st (pl + 4 * (i : Int)) t1 t2 t3 n') :: (cx, listOf vs.toArray nc) :: (led cs ++ news)) (f1 : m (Str.ofString "pen") = some (.ref pn)) (f2 : m (Str.ofString "infos") = some (.ref li)) (f3 : @LT.lt Nat _ pn li) (f4 : @LT.lt Nat _ cx li) (f5 : (∀ p ∈ news, p.1 < li)) (f6 : (∀ p ∈ led cs, li < p.1)) (f7 : rs.length = i) (f8 : Infos P cs rs) (f9 : AllFresh rs) (f10 : (cs.map (·.d)).Nodup) (f11 : 0 ≤ gr) (f12 : gr < 10 ^ 240) (f13 : 0 ≤ st) (f14 : st < 2147483647)

theorem infos_turn {P : Params} {h₀ h' : Heap} {L I li pn cx x d : Addr} {s₁ : Shared} {tk : Nat} {it o : Obj} {cs : List Cell} {rs : List R} {r : R} {nl nc t1 t2 t3 n i : Nat} {news : List (Addr × Obj)} {gr st pl : Int} {vs : List Value} {m' : Str → Option Value}
    (F : Fr h₀ L h' m') (N : News h₀ L h' ((x, instObj 87 d) :: (d, o) :: (I, it) :: (li, listOf ((rowOf cs).toArray.push (.ref x)) (nl + 1)) :: (pn, penO cx gr st (pl + 4 * (i : Int) + 1 + 1 + 1 + 1) t1 t2 t3 n) :: (cx, listOf vs.toArray nc) :: (led cs ++ news)))
    (hI : IsInfo P o r) (hit : it.cls = .type "range_iterator") (hm1 : m' (Str.ofString "pen") = some (.ref pn)) (hm2 : m' (Str.ofString "infos") = some (.ref li)) (l1 : @LT.lt Nat _ pn li) (l2 : @LT.lt Nat _ cx li) (l3 : Stop (∀ p ∈ news, p.1 < li)) (l4 : Stop (∀ p ∈ led cs, li < p.1))
    (l5 : Stop (∀ p ∈ news, p.1 < I)) (hd : @LT.lt Nat _ li d) (hx : @LT.lt Nat _ d x) (hall : AllLt d (led cs ++ news)) (hlen : rs.length = i) (hInf : Infos P cs rs) (hfr : AllFresh rs) (hf : FreshAt i r) (hnd : (cs.map (·.d)).Nodup)
    (g0 : 0 ≤ gr) (g1 : gr < 10 ^ 240) (s0 : 0 ≤ st) (s1 : st < 2147483647) :
    JEnd h₀ L s₁ I it (InfosJ P news pn cx pl vs nc (i + 1)) { s₁ with heap := h', toks := tk } := by
  have N3 := infos_end N
  have hInf' : Infos P (cs ++ [⟨x, d, o⟩]) (rs ++ [r]) := hInf.snoc hI
  refine JEnd.intro _ F N3 (fun _ h => h) ?_ ⟨_, rs ++ [r], gr, st, t1, t2, t3, n, nl + 1, li, ?_, hm1, hm2, l1, l2, l3, ?_, by simp [hlen], hInf', hfr.snoc (hlen ▸ hf), ?_, g0, g1, s0, s1⟩
  · intro p hp
    rw [hit]
    simp only [List.mem_cons, List.mem_append] at hp
    rcases hp with rfl | rfl | rfl | h | h
    · exact .inr (fun e => absurd (Value.type.inj e) (by decide))
    · exact .inr (fun e => absurd (Value.type.inj e) (by decide))
    · exact .inr (fun e => absurd (Value.type.inj e) (by decide))
    · exact .inr (hInf'.off "range_iterator" (by decide) p h)
    · exact .inl (Nat.ne_of_lt (l5 p h))
  · have e : pl + 4 * ((i + 1 : Nat) : Int) = pl + 4 * (i : Int) + 1 + 1 + 1 + 1 := by omega
    rw [e]
  · intro p hp
    rw [led_snoc] at hp
    simp only [List.mem_cons, List.mem_append, List.not_mem_nil, or_false] at hp
    rcases hp with h | rfl | rfl
    · exact l4 p h
    · exact Nat.lt_trans hd hx
    · exact hd
  · rw [List.map_append, List.nodup_append]
    refine ⟨hnd, by simp, ?_⟩
    intro a ha b hb
    simp at hb
    subst hb
    obtain ⟨c, hc, rfl⟩ := List.mem_map.mp ha
    exact Nat.ne_of_lt (ktn_ltOf hall _ (List.mem_append_left _ (led_d hc)))

inductive InfosPost (P : Params) (news : List (Addr × Obj)) (pn cx : Addr) (pl cnt : Int) (vs : List Value) (nc : Nat) (v : Value) (nw : List (Addr × Obj)) : Prop
  | mk (cs : List Cell) (rs : List R) (gr' st' : Int) (t1' t2' t3' n' nl : Nat) (li : Addr) (f0 : v = .ref li) (f1 : nw = (li, listOf (rowOf cs).toArray nl) :: (pn, penO cx gr' st' (pl + 4 * cnt) t1' t2' t3' n') :: (cx, listOf vs.toArray nc) :: (led cs ++ news)) (f2 : @LT.lt Nat _ pn li) (f3 : @LT.lt Nat _ cx li) (f4 : (∀ p ∈ news, p.1 < li)) (f5 : (∀ p ∈ led cs, li < p.1)) (f6 : (rs.length : Int) = cnt) (f7 : Infos P cs rs) (f8 : AllFresh rs) (f9 : (cs.map (·.d)).Nodup) (f10 : 0 ≤ gr') (f11 : gr' < 10 ^ 240) (f12 : 0 ≤ st') (f13 : st' < 2147483647)

set_option maxRecDepth 100000 in
set_option maxHeartbeats 8000000 in
theorem infos {w : World} {news : List (Addr × Obj)} {pn cx : Addr} {gr st pl cnt : Int} {t1 t2 t3 n nc tl : Nat} {vs : List Value} {ns : List Int}
    (hi : IntsAre vs ns) (hlen : ns.length ≤ 48) (hP : PenOk gr st pl) (hl0 : 0 ≤ cnt) (hl1 : Stop (cnt ≤ 8)) (hpl : pl ≤ 100)
    (hne : @Ne Nat cx pn) (hoff : ∀ p ∈ news, p.1 ≠ pn) :
    Ctr w 160 5 [.ref pn, .int cnt tl] ((pn, penO cx gr st pl t1 t2 t3 n) :: (cx, listOf vs.toArray nc) :: news)
      (InfosPost w.params news pn cx pl cnt vs nc) := by
  intro mean mg mb dp un gd cn cs a ccd cl outer A₀ base h₀ L m s Q E B F X N T hk hd hu ret
  obtain ⟨hg, hg', hs0, hs1, hp0, hp1⟩ := hP
  refine wpAny_call ?_
  k_dflt cell_enter
  k_steps
  rename IsRange _ _ _ _ _ _ _ _ => rg
  rename News _ _ _ _ => N1
  rename Fr _ _ _ _ => F1
  rename _ ∧ _ => lt1
  refine Stop.go (iter_rangeJ (n := cnt.toNat) (InfosJ w.params news pn cx pl vs nc) (by rfl) rg ?small ?size F1 N1 ?h0 ?turn ?done)
  case small => exact small_one (by decide) (by decide) (by omega) (by have : cnt ≤ 8 := hl1; omega)
  case size => rw [rangeSize_nat, Int.sub_zero]
  case h0 =>
    exact ⟨[], [], gr, st, t1, t2, t3, n, 0, _, by simp [led_nil, rowOf], by with_unfolding_all rfl, by with_unfolding_all rfl, lt1.1, lt1.2.1, ktn_ltOf lt1.2.2, (fun p hp => nomatch hp), rfl, .nil, (fun i r e => by simp at e), by simp, hg, hg', hs0, hs1⟩
  case done => 
    rintro m nw h tk ⟨cs, rs, gr, st, t1, t2, t3, n', nl, li, rfl, hm1, hm2, l1, l2, l3, l4, hlen, hInf, hfr, hnd, hg, hg', hs0, hs1⟩ F N
    clear F1 N1 rg
    rw [Int.toNat_of_nonneg hl0] at N
    have F := fr_say _ hm2 F
    dsimp only
    k_steps
    exact ret _ _ _ _ ⟨cs, rs, gr, st, t1, t2, t3, n', nl, li, rfl, rfl, l1, l2, l3, l4, by rw [hlen, Int.toNat_of_nonneg hl0], hInf, hfr, hnd, hg, hg', hs0, hs1⟩ (by assumption) (by assumption)
  case turn =>
    rintro I i m nw t h tk hI hin ⟨cs, rs, gr, st, t1, t2, t3, n', nl, li, rfl, hm1, hm2, l1, l2, l3, l4, hlen, hInf, hfr, hnd, hg, hg', hs0, hs1⟩ F N
    clear F1 N1 rg
    have hin : (i : Int) < 8 := by have : cnt ≤ 8 := hl1; omega
    have hrow : (rowOf cs).length = i := ((rowOf_length cs).trans hInf.length).trans hlen
    have F := fr_say2 (Str.ofString "pen") ((if_neg (by decide)).trans hm1) (fr_say2 _ hm2 F)
    have o1 : ∀ p ∈ led cs ++ news, p.1 ≠ pn := fun p hp => (List.mem_append.mp hp).elim (fun h => Nat.ne_of_gt (Nat.lt_trans l1 (l4 p h))) (hoff p)
    have o2 : ∀ p ∈ led cs ++ news, p.1 ≠ li := fun p hp => (List.mem_append.mp hp).elim (fun h => Nat.ne_of_gt (l4 p h)) (fun h => Nat.ne_of_lt (l3 p h))
    have e1 : @Ne Nat I li := news_neC N (.head _) (.tail _ (.head _)) (by k_cls)
    have e2 : @Ne Nat I pn := news_neC N (.head _) (.tail _ (.tail _ (.head _))) (by k_cls)
    have e3 : @Ne Nat I cx := news_neC N (.head _) (.tail _ (.tail _ (.tail _ (.head _)))) (by k_cls)
    have hI' : Stop (∀ p ∈ news, p.1 < I) := fun p hp => hI p (by simp [hp])
    have l4' : Stop (∀ p ∈ led cs, li < p.1) := l4
    have l3' : Stop (∀ p ∈ news, p.1 < li) := l3
    clear hI l4 l3
    obtain ⟨tl', htl⟩ : ∃ t, t = led cs ++ news := ⟨_, rfl⟩
    rw [← htl] at N o1 o2
    k_steps
    refine Stop.go ?_
    k_dflt (refine mkInfo_use (by k_asm) (by k_asm) (by k_asm) (by k_asm) (by k_asm) (by first | exact rfl | assumption) (by ktr_room) (by ktr_units) ?_); intro h9 tk9 x9 d9 o9 hI9 l9 l8 F9; (replace l8 := ltN l8); (k_lt l9); (have z1 := ltN l9.1); (have z2 := ltN l9.2.1); (have z3 := ltN l9.2.2.1); (have z4 := ltN l9.2.2.2.1); (have z5 := Nat.lt_trans z3 l8); (refine hI9.open_ ?_); (iterate 30 (intro _)); intro N9; (dsimp only at N9); k_sweep; (try dsimp only); (try k_fold)
    k_steps
    iterate 4 (refine Stop.go ?_; k_dflt (refine draw_use (by first | exact pre0 (by k_asm) | exact pre1 (by k_asm) | exact pre2 (by k_asm) | exact pre3 (by k_asm) | exact pre4 (by k_asm) | exact pre5 (by k_asm)) (by k_asm) (by k_asm) (by k_asm) (by k_asm) (by first | exact rfl | assumption) (by ktr_room) (by ktr_units) (by assumption) (by assumption) ⟨by assumption, by assumption, by assumption, by assumption, by omega, by omega⟩ (by first | decide | omega) (by first | decide | omega) (by first | assumption | exact Nat.ne_of_lt (by assumption)) (by k_all) (by k_all) ?_); intro _ _ _ _ _ _ _ _ _ _ _ _ _ _ _ _ F9 N9; (try dsimp only [List.nil_append, List.cons_append] at N9); k_sweep; (try dsimp only); (try k_fold); k_steps)
    rename News _ _ _ _ => N2
    rename Fr _ _ _ _ => F2
    rename _ ∧ _ => l9
    subst htl
    exact infos_turn F2 N2 (.mk ..) rfl (by with_unfolding_all rfl) (by with_unfolding_all rfl) l1 l2 l3' l4' hI' l9.2.1 (by assumption) l9.2.2.2.2 hlen hInf hfr ⟨by assumption, by assumption, by assumption, by assumption, rfl, rfl, by simp⟩ hnd (by assumption) (by assumption) (by assumption) (by assumption)

end

section
theorem still_C6 : True := by
  w_top off
  trivial
local macro_rules | `(tactic| walk_at "none") => `(tactic| skip)

set_option maxRecDepth 100000 in
set_option maxHeartbeats 8000000 in
theorem fill_it6 (w : World) (h : Heap) : (hd.heap_39 w.params).In h → PySem.Challenge.rw_nu0151_01 = PySem.Challenge.rw_nu0151_01 → True := by
  k_fill
  intros; trivial

def bufO (P : Params) (k1 k2 k3 : Tok) (lr : Addr) (bw : Bool) (t3 : Nat) : Obj :=
  dictOf [⟨PyData.keyHash P (Str.ofString "row"), .str (Str.ofString "row") k1, .ref lr⟩, ⟨PyData.keyHash P (Str.ofString "is_backward"), .str (Str.ofString "is_backward") k2, .bool bw⟩,
    ⟨PyData.keyHash P (Str.ofString "last_lig"), .str (Str.ofString "last_lig") k3, .int 0 t3⟩] 3

local macro_rules | `(tactic| walk_at "call ref") => `(tactic| ((with_reducible show wpAny _ _ (call (Value.ref 42) _) _ _ _); refine stop_ ?_))

theorem slice_pair {P : Params} {news : List (Addr × Obj)} {cs : List Cell} {rs : List R} {x1 d1 : Addr} {o1 : Obj} {r r' : R} {i : Nat} (hInf : Infos P cs rs) (hci : cs[i]? = some ⟨x1, d1, o1⟩) (hr : rs[i]? = some r) (he : r'.xa = r.xa ∧ r'.ya = r.ya)
    (hnd : (cs.map (·.d)).Nodup) (hled : ∀ c ∈ cs, (c.x, instObj 87 c.d) ∈ news ∧ (c.d ≠ d1 → (c.d, c.o) ∈ news)) (a b : Nat) : Paired (OneAt P news x1 r') (((rowOf cs).take b).drop a) (slice rs a b) := by
  refine paired_drop (paired_take (paired_get ((rowOf_length cs).trans hInf.length) ?_) b) a
  intro k v q hv hq
  obtain ⟨c, hc, hI⟩ := hInf.getR hq
  have := rowOf_get hc
  rw [this] at hv
  cases hv
  by_cases hk : k = i
  · subst hk
    rw [hci] at hc; cases hc
    rw [hr] at hq; cases hq
    exact .inl ⟨rfl, he.1.symm, he.2.symm⟩
  · obtain ⟨m1, m2⟩ := hled c (List.mem_of_getElem? hc)
    refine .inr ⟨c.x, c.d, c.o, rfl, m1, m2 fun e => hk ?_, hI⟩
    have h1 : (cs.map (·.d))[k]? = some d1 := by simp [hc, e]
    have h2 : (cs.map (·.d))[i]? = some d1 := by simp [hci]
    have hk' : k < (cs.map (·.d)).length := (List.getElem?_eq_some_iff.mp h1).1
    exact (List.getElem?_inj hk' hnd).mp (h1.trans h2.symm)

theorem OneAt.mono {P : Params} {news news' : List (Addr × Obj)} {x1 : Addr} {r1 : R} (h : ∀ p ∈ news, p ∈ news') : ∀ v r, OneAt P news x1 r1 v r → OneAt P news' x1 r1 v r := by
  rintro v r (h1 | ⟨x, d, o, rfl, m1, m2, hI⟩)
  · exact .inl h1
  · exact .inr ⟨x, d, o, rfl, h _ m1, h _ m2, hI⟩

theorem take_call {w : World} {news : List (Addr × Obj)} {x1 d1 D : Addr} {o o1 : Obj} {r r' : R} {cs : List Cell} {rs : List R} {ts i a b : Nat} {sg : Int}
    {mean : ExcName → Option Value} {mg mb : Str → Option Value} {dp un : Nat} {gd : Option (List Code)} {cn : Str} {cs' : Scope} {a' : Addr} {ccd : Value} {cl : List (Str × Addr)} {outer : List Env}
    {A₀ : Around} {base h₀ : Heap} {L : Addr} {m : Str → Option Value} {s : Shared} {Q E : Value → Shared → Prop}
    (N : News h₀ L s.heap ((D, listOf (((rowOf cs).take b).drop a).toArray 0) :: (d1, o) :: news)) (hI : IsInfo w.params o r')
    (B : Below A₀ base outer h₀) (F : Fr h₀ L s.heap m) (X : (hd.heap_39 w.params).In h₀) (T : Top hd.view_39 (looseW hd.view_39 []) mean mg mb h₀) (hk : cs'.kind = .function)
    (hd : dp + 2 < recursionLimit) (hu : un + 8 * 2 < cLine)
    (hx1 : (x1, instObj 87 d1) ∈ news) (hoff : ∀ p ∈ news, p.1 ≠ d1) (hD : @LT.lt Nat _ d1 D) (hsg : sg = 1 ∨ sg = -1) (hInf : Infos w.params cs rs) (hci : cs[i]? = some ⟨x1, d1, o1⟩) (hr : rs[i]? = some r) (he : r'.xa = r.xa ∧ r'.ya = r.ya)
    (hnd : (cs.map (·.d)).Nodup) (hled : ∀ c ∈ cs, (c.x, instObj 87 c.d) ∈ news ∧ (c.d ≠ d1 → (c.d, c.o) ∈ news)) (hb : ∀ r ∈ rs, 0 ≤ r.xa ∧ r.xa < 60 ∧ 0 ≤ r.ya ∧ r.ya < 3)
    (h : ∀ h' tk' o', IsInfo w.params o' { r' with xo := r'.xo - sg * sumX (slice rs a b), yo := r'.yo - sg * sumY (slice rs a b) } → Fr h₀ L h' m → News h₀ L h' ((d1, o') :: news) → Q .none { s with heap := h', toks := tk' }) :
    wpAny (model PySem.Challenge.rw_nu0151_01.row.prog w) (ktrTop dp un gd cn cs' L a' ccd cl outer) (call (.ref 42) [.ref x1, .ref D, .int sg ts]) Q E s := by
  have hp := slice_pair (r' := r') hInf hci hr he hnd hled a b
  obtain ⟨b1, b2, b3, b4⟩ := hb r (List.mem_of_getElem? hr)
  refine Ctr.use (takeAdv (news := (D, listOf (((rowOf cs).take b).drop a).toArray 0) :: news) (d1 := d1) (nb := 0) hI (.tail _ hx1) (.head _) ?off hsg (by rw [he.1, he.2]; exact ⟨b1, b2, b3, b4⟩) (Paired.mono (OneAt.mono fun p hp => .tail _ hp) hp) ?hb) B F X N T hk hd hu ?hs ?ret
  case off =>
    intro p hp
    rcases List.mem_cons.mp hp with rfl | hp
    · exact Nat.ne_of_gt hD
    · exact hoff p hp
  case hb =>
    intro q hq
    exact hb q (List.mem_of_mem_take (List.mem_of_mem_drop hq))
  case hs =>
    intro p hp
    simp only [List.mem_cons] at hp ⊢
    rcases hp with h | h | h <;> simp [h]
  case ret =>
    rintro v h' tk' nw ⟨o', rfl, rfl, hI'⟩ F' N'
    refine h h' tk' o' hI' F' (news_sub N' fun p hp => ?_)
    simp only [List.mem_cons] at hp ⊢
    rcases hp with h | h <;> simp [h]

theorem newR_mb {bw : Bool} {rs : List R} {i j : Nat} {r o : R} (hm : (r.bond == Str.ofString "mark") = true) (hb : bw = true) : newR bw rs i j r o = { r with pa := 0, xo := r.xo + o.xo - -1 * sumX (slice rs (j + 1) (i + 1)), yo := r.yo + o.yo - -1 * sumY (slice rs (j + 1) (i + 1)) } := by
  subst hb
  have h1 : isMark r = true := by unfold isMark; exact decide_eq_true (eq_of_beq hm)
  unfold newR takeX takeY
  rw [if_pos h1]
  simp only [if_true, R.mk.injEq, true_and, and_true]
  omega
theorem newR_mf {bw : Bool} {rs : List R} {i j : Nat} {r o : R} (hm : (r.bond == Str.ofString "mark") = true) (hb : bw = false) : newR bw rs i j r o = { r with pa := 0, xo := r.xo + o.xo - 1 * sumX (slice rs j i), yo := r.yo + o.yo - 1 * sumY (slice rs j i) } := by
  subst hb
  have h1 : isMark r = true := by unfold isMark; exact decide_eq_true (eq_of_beq hm)
  unfold newR takeX takeY
  rw [if_pos h1]
  simp only [Bool.false_eq_true, if_false, R.mk.injEq, true_and, and_true]
  omega
theorem newR_c {bw : Bool} {rs : List R} {i j : Nat} {r o : R} (hm : (r.bond == Str.ofString "mark") = false) : newR bw rs i j r o = { r with pa := 0, yo := r.yo + o.yo } := by
  have h1 : ¬ isMark r = true := by
    unfold isMark
    intro e
    rw [of_decide_eq_true e] at hm
    simp at hm
  unfold newR
  rw [if_neg h1]

set_option maxRecDepth 100000 in
set_option maxHeartbeats 8000000 in
theorem settleOne {w : World} {news : List (Addr × Obj)} {x1 d1 lr bf db : Addr} {o1 : Obj} {r1 r2 : R} {cs : List Cell} {rs : List R} {nl i j ti : Nat} {k1 k2 k3 t3 : Nat} {bw : Bool}
    (hI : IsInfo w.params o1 r1) (hx1 : (x1, instObj 87 d1) ∈ news) (hoff : ∀ p ∈ news, p.1 ≠ d1) (hbf : (bf, instObj 137 db) ∈ news) (hdb : (db, bufO w.params k1 k2 k3 lr bw t3) ∈ news)
    (hrow : (lr, listOf (rowOf cs).toArray nl) ∈ news) (hled : ∀ c ∈ cs, (c.x, instObj 87 c.d) ∈ news ∧ (c.d ≠ d1 → (c.d, c.o) ∈ news)) (hInf : Infos w.params cs rs) (hci : cs[i]? = some ⟨x1, d1, o1⟩) (hnd : (cs.map (·.d)).Nodup)
    (h8 : rs.length ≤ 8) (hs : step rs i = some j) (hr : rs[i]? = some r1) (ho : rs[j]? = some r2) (hb : ∀ r ∈ rs, 0 ≤ r.xa ∧ r.xa < 60 ∧ 0 ≤ r.ya ∧ r.ya < 3) :
    Ctr w 49 5 [.ref bf, .int (i : Int) ti] ((d1, o1) :: news)
      (fun v nw => ∃ o, v = .none ∧ nw = (d1, o) :: news ∧ IsInfo w.params o (newR bw rs i j r1 r2)) := by
  intro mean mg mb dp un gd cn cs' a' ccd cl outer A₀ base h₀ L m s Q E B F X N T hk hd hu ret
  have hrl : (rowOf cs).length = rs.length := (rowOf_length cs).trans hInf.length
  have hx := rowOf_get hci
  dsimp only at hx
  have hi : i < rs.length := step_lt' hs
  have hj : j < rs.length := step_lt hs
  have hpl : (i : Int) + r1.pa = (j : Int) := by
    unfold step at hs
    rw [hr] at hs
    simp only at hs
    split at hs
    · cases hs; omega
    · cases hs
  have hne : i ≠ j := step_ne hs
  obtain ⟨⟨x2, d2, o2⟩, hc2, hI2⟩ := hInf.getR ho
  have hx2 := rowOf_get hc2
  dsimp only at hx2 hI2
  have hnd' : d2 ≠ d1 := fun e => hne (by
    have h1 : (cs.map (·.d))[j]? = some d1 := by simp [hc2, e]
    have h2 : (cs.map (·.d))[i]? = some d1 := by simp [hci]
    exact (List.getElem?_inj (List.getElem?_eq_some_iff.mp h2).1 hnd).mp (h2.trans h1.symm))
  obtain ⟨mx2, md2'⟩ := hled _ (List.mem_of_getElem? hc2)
  have md2 := md2' hnd'
  clear md2' 
  dsimp only at mx2 md2
  unfold bufO at hdb
  revert md2
  refine hI2.open_ ?_
  iterate 30 (intro _)
  intro md2
  revert N
  refine hI.open_ ?_
  iterate 30 (intro _)
  intro N
  have hpl1 := (congrArg (· + 1) hpl).trans (show (j : Int) + 1 = ((j + 1 : Nat) : Int) from rfl)
  have hi1 : (i : Int) + 1 = ((i + 1 : Nat) : Int) := rfl
  refine wpAny_call ?_
  k_dflt cell_enter
  k_steps
  · refine Stop.go ?_
    k_dflt (refine row_slice (vs := rowOf _) (by k_asm) (by k_asm) (by first | k_mem | exact .tail _ (by k_mem)) (by first | assumption | exact rfl) (by first | assumption | exact rfl) (by omega) ?_ (by with_unfolding_all rfl) (by intro _; with_unfolding_all rfl)); intro _ _ F0 N0 l0; (try k_lt l0); (try k_sweep)
    k_steps
    refine Stop.go ?_
    k_dflt (refine take_call (by k_asm) (by exact .mk ..) (by k_asm) (by k_asm) (by k_asm) (by k_asm) (by first | exact rfl | assumption) (by ktr_room) (by ktr_units) (by assumption) (by assumption) (by first | exact (And.left (by assumption)) | assumption) (by first | exact .inl rfl | exact .inr rfl) (by assumption) (by assumption) (by assumption) (by exact ⟨rfl, rfl⟩) (by assumption) (by assumption) (by assumption) ?_); rintro h9 tk9 o9 hI9 F9 N9; k_sweep; (try dsimp only)
    k_steps
    rename News h₀ L _ _ => kN
    rename Fr h₀ L _ m => kF
    refine ret _ _ _ _ ⟨_, rfl, rfl, ?_⟩ kF kN
    rw [newR_mb (by assumption) (by assumption)]
    assumption
  · refine Stop.go ?_
    k_dflt (refine row_slice (vs := rowOf _) (by k_asm) (by k_asm) (by first | k_mem | exact .tail _ (by k_mem)) (by first | assumption | exact rfl) (by first | assumption | exact rfl) (by omega) ?_ (by with_unfolding_all rfl) (by intro _; with_unfolding_all rfl)); intro _ _ F0 N0 l0; (try k_lt l0); (try k_sweep)
    k_steps
    refine Stop.go ?_
    k_dflt (refine take_call (by k_asm) (by exact .mk ..) (by k_asm) (by k_asm) (by k_asm) (by k_asm) (by first | exact rfl | assumption) (by ktr_room) (by ktr_units) (by assumption) (by assumption) (by first | exact (And.left (by assumption)) | assumption) (by first | exact .inl rfl | exact .inr rfl) (by assumption) (by assumption) (by assumption) (by exact ⟨rfl, rfl⟩) (by assumption) (by assumption) (by assumption) ?_); rintro h9 tk9 o9 hI9 F9 N9; k_sweep; (try dsimp only)
    k_steps
    rename News h₀ L _ _ => kN
    rename Fr h₀ L _ m => kF
    refine ret _ _ _ _ ⟨_, rfl, rfl, ?_⟩ kF kN
    rw [newR_mf (by assumption) (by assumption)]
    assumption
  · rename News h₀ L _ _ => kN
    rename Fr h₀ L _ m => kF
    refine ret _ _ _ _ ⟨_, rfl, rfl, ?_⟩ kF kN
    rw [newR_c (by assumption)]
    exact .mk ..

end

section
theorem still_C7 : True := by
  w_top off
  trivial

set_option maxRecDepth 100000 in
set_option maxHeartbeats 8000000 in
theorem fill_it7 (w : World) (h : Heap) : (hd.heap_39 w.params).In h → PySem.Challenge.rw_nu0151_01 = PySem.Challenge.rw_nu0151_01 → True := by
  k_fill
  intros; trivial

local macro_rules | `(tactic| walk_at "call ref") => `(tactic| refine stop_ ?_)

theorem settle_call {w : World} {all oth : List (Addr × Obj)} {lr bf db : Addr} {cs : List Cell} {rs : List R} {nl i j ti : Nat} {k1 k2 k3 t3 : Nat} {bw : Bool} {r1 r2 : R}
    {mean : ExcName → Option Value} {mg mb : Str → Option Value} {dp un : Nat} {gd : Option (List Code)} {cn : Str} {cs' : Scope} {a' : Addr} {ccd : Value} {cl : List (Str × Addr)} {outer : List Env}
    {A₀ : Around} {base h₀ : Heap} {L : Addr} {m : Str → Option Value} {s : Shared} {Q E : Value → Shared → Prop}
    (N : News h₀ L s.heap all) (B : Below A₀ base outer h₀) (F : Fr h₀ L s.heap m) (X : (hd.heap_39 w.params).In h₀) (T : Top hd.view_39 (looseW hd.view_39 []) mean mg mb h₀) (hk : cs'.kind = .function)
    (hd : dp + 5 < recursionLimit) (hu : un + 8 * 5 < cLine) (hsub : ∀ p ∈ led cs ++ oth, p ∈ all)
    (hbf : (bf, instObj 137 db) ∈ oth) (hdb : (db, bufO w.params k1 k2 k3 lr bw t3) ∈ oth) (hrow : (lr, listOf (rowOf cs).toArray nl) ∈ oth)
    (hoff : ∀ p ∈ oth, ∀ c ∈ cs, p.1 ≠ c.d) (hInf : Infos w.params cs rs) (hnd : (cs.map (·.d)).Nodup) (h8 : rs.length ≤ 8) (hs : step rs i = some j) (hr : rs[i]? = some r1) (ho : rs[j]? = some r2)
    (hb : ∀ r ∈ rs, 0 ≤ r.xa ∧ r.xa < 60 ∧ 0 ≤ r.ya ∧ r.ya < 3)
    (h : ∀ h' tk' cs', SameXD cs cs' → Infos w.params cs' (rs.set i (newR bw rs i j r1 r2)) → Fr h₀ L h' m → News h₀ L h' (led cs' ++ oth) → Q .none { s with heap := h', toks := tk' }) :
    wpAny (model PySem.Challenge.rw_nu0151_01.row.prog w) (ktrTop dp un gd cn cs' L a' ccd cl outer) (call (.ref 49) [.ref bf, .int (i : Int) ti]) Q E s := by
  obtain ⟨⟨x1, d1, o1⟩, hci, hI⟩ := hInf.getR hr
  dsimp only at hI
  have hcm := List.mem_of_getElem? hci
  have hxd := cells_xd N (fun p hp => hsub p (List.mem_append_left _ hp)) hInf
  have hxd1 : ∀ c ∈ cs, c.x ≠ d1 := fun c hc => hxd c hc _ hcm
  refine Ctr.use (settleOne (news := rest_ d1 (led cs ++ oth)) (x1 := x1) (d1 := d1) hI (mem_rest.mpr ⟨List.mem_append_left _ (led_x (c := ⟨x1, d1, o1⟩) hcm), hxd1 _ hcm⟩) rest_off (mem_rest.mpr ⟨List.mem_append_right _ hbf, hoff _ hbf _ hcm⟩)
    (mem_rest.mpr ⟨List.mem_append_right _ hdb, hoff _ hdb _ hcm⟩) (mem_rest.mpr ⟨List.mem_append_right _ hrow, hoff _ hrow _ hcm⟩)
    (fun c hc => ⟨mem_rest.mpr ⟨List.mem_append_left _ (led_x hc), hxd1 c hc⟩, fun e => mem_rest.mpr ⟨List.mem_append_left _ (led_d hc), e⟩⟩) hInf hci hnd h8 hs hr ho hb) B F X N T hk hd hu (fun p hp => hsub p (led_focus hci p hp)) ?_
  rintro v h' tk' nw ⟨o, rfl, rfl, hI'⟩ F' N'
  exact h h' tk' (cs.set i ⟨x1, d1, o⟩) (same_set hci) (hInf.set i hI') F' (news_sub N' (led_set hci hnd hxd1 hoff))

inductive SetJ (P : Params) (oth : List (Addr × Obj)) (bf : Addr) (cs : List Cell) (rs₀ : List R) (bw : Bool) (k : Nat) (m : Str → Option Value) (nw : List (Addr × Obj)) : Prop
  | mk (cs' : List Cell) (rs' : List R) (f0 : nw = led cs' ++ oth) (f1 : m (Str.ofString "buffer") = some (.ref bf)) (f2 : SameXD cs cs') (f3 : Infos P cs' rs') (f4 : Inv rs₀ bw rs') (f5 : ∀ i < k, Good rs₀ bw rs' i)

inductive RevJ (P : Params) (pre oth : List (Addr × Obj)) (bf : Addr) (cs : List Cell) (rs₀ : List R) (bw : Bool) (at_ : Nat) (line : List Nat) (k : Nat) (m : Str → Option Value) (nw : List (Addr × Obj)) : Prop
  | mk (cs' : List Cell) (rs' : List R) (c : Nat) (f0 : nw = pre ++ (led cs' ++ oth)) (f1 : m (Str.ofString "buffer") = some (.ref bf)) (f2 : SameXD cs cs') (f3 : Infos P cs' rs') (f4 : Inv rs₀ bw rs') (f5 : (∀ i < at_, Good rs₀ bw rs' i)) (f6 : Path rs' at_ (line.take (line.length - k)) c) (f7 : Good rs₀ bw rs' c)

inductive FinJ (P : Params) (oth : List (Addr × Obj)) (cs : List Cell) (rs₁ : List R) (k : Nat) (m : Str → Option Value) (nw : List (Addr × Obj)) : Prop
  | mk (cs' : List Cell) (rs' : List R) (f0 : nw = led cs' ++ oth) (f1 : SameXD cs cs') (f2 : Infos P cs' rs') (f3 : rs'.length = rs₁.length) (f4 : ∀ (i : Nat) (r₁ r : R), rs₁[i]? = some r₁ → rs'[i]? = some r → r = { r₁ with pa := if i < k then 0 else r₁.pa })

theorem ints_at {line : List Nat} : ∀ {vs : List Value}, IntsAre vs (line.map Int.ofNat) → ∀ {i : Nat} {v : Value}, vs[i]? = some v → ∃ (kk : Nat) (t : Tok), v = .int (kk : Int) t ∧ line[i]? = some kk := by
  induction line with
  | nil => intro vs h i v e; cases h; simp at e
  | cons a r ih =>
    intro vs h i v e
    cases h with
    | cons _ t h =>
      cases i with
      | zero => cases e; exact ⟨a, t, rfl, rfl⟩
      | succ i => exact ih h (by simpa using e)
theorem rev_item {vs : List Value} {line : List Nat} (h : IntsAre vs (line.map Int.ofNat)) {i : Nat} {v : Value} (hv : vs.reverse[i]? = some v) :
    ∃ (kk : Nat) (t : Tok), v = .int (kk : Int) t ∧ line.take (line.length - i) = line.take (line.length - (i + 1)) ++ [kk] ∧ i < line.length := by
  have hl : vs.length = line.length := by rw [h.length, List.length_map]
  have hi : i < vs.length := by simpa using (List.getElem?_eq_some_iff.mp hv).1
  rw [List.getElem?_reverse hi] at hv
  obtain ⟨kk, t, e, hk⟩ := ints_at h hv
  refine ⟨kk, t, e, ?_, hl ▸ hi⟩
  have e1 : line.length - i = (line.length - (i + 1)) + 1 := by omega
  have e2 : vs.length - 1 - i = line.length - (i + 1) := by omega
  rw [e2] at hk
  rw [e1, List.take_add_one, hk]
  rfl

theorem Inv.bounds {rs₀ rs : List R} {bw : Bool} (h : Inv rs₀ bw rs) (hb : ∀ r ∈ rs₀, 0 ≤ r.xa ∧ r.xa < 60 ∧ 0 ≤ r.ya ∧ r.ya < 3) : ∀ r ∈ rs, 0 ≤ r.xa ∧ r.xa < 60 ∧ 0 ≤ r.ya ∧ r.ya < 3 := by
  intro r hr
  obtain ⟨i, hi⟩ := List.getElem?_of_mem hr
  have hl : i < rs₀.length := by rw [← h.len]; exact (List.getElem?_eq_some_iff.mp hi).1
  have h0 : rs₀[i]? = some rs₀[i] := List.getElem?_eq_getElem hl
  obtain ⟨e1, e2, _⟩ := h.at_ i _ _ h0 hi
  rw [e1, e2]
  exact hb _ (List.mem_of_getElem? h0)

theorem rev_turn {P : Params} {h₀ h' : Heap} {L D I lc bf : Addr} {s₁ : Shared} {tk : Nat} {it it2 lo : Obj} {cs cs2 cs3 : List Cell} {rs rs2 : List R} {oth : List (Addr × Obj)} {bw : Bool} {at_ k kk c2 : Nat} {line : List Nat} {m' : Str → Option Value} {r1 r2 : R}
    (F : Fr h₀ L h' m') (N : News h₀ L h' (led cs3 ++ (D, it2) :: (lc, lo) :: (I, it) :: oth)) (hm : m' (Str.ofString "buffer") = some (.ref bf)) (hit : it.cls = .type "range_iterator") (hlo : lo.cls = .type "list") (hit2 : it2.cls = .type "list_reverseiterator")
    (hxd : SameXD cs cs2) (hxd3 : SameXD cs2 cs3) (hInf : Infos P cs3 (rs2.set kk (newR bw rs2 kk c2 r1 r2))) (hinv : Inv rs bw rs2) (hgood : ∀ i < at_, Good rs bw rs2 i) (hp : Path rs2 at_ (line.take (line.length - (k + 1)) ++ [kk]) c2) (hg : Good rs bw rs2 c2)
    (hr1 : rs2[kk]? = some r1) (hr2 : rs2[c2]? = some r2) (hnd : (line.take (line.length - (k + 1)) ++ [kk]).Nodup) (hD : ∀ p ∈ oth, p.1 < D) :
    JEnd h₀ L s₁ D it2 (RevJ P [(lc, lo), (I, it)] oth bf cs rs bw at_ line (k + 1)) { s₁ with heap := h', toks := tk } := by
  obtain ⟨hp1, hs⟩ := hp.unsnoc
  obtain ⟨hinv3, hg3⟩ := hinv.set hs hr1 hr2 hg
  refine JEnd.intro ([(lc, lo), (I, it)] ++ (led cs3 ++ oth)) F N ?_ ?_ ⟨cs3, _, kk, rfl, hm, hxd.trans hxd3, hInf, hinv3, ?_, ?_, hg3⟩
  · intro p hp
    simp only [List.mem_cons, List.mem_append, List.not_mem_nil, or_false] at hp ⊢
    rcases hp with h | (h | h) | h | h <;> simp [h]
  · intro p hp
    simp only [List.mem_cons, List.mem_append, List.not_mem_nil, or_false] at hp
    rcases hp with (rfl | rfl) | h | h
    · exact .inr (by rw [hlo, hit2]; exact fun e => absurd (Value.type.inj e) (by decide))
    · exact .inr (by rw [hit, hit2]; exact fun e => absurd (Value.type.inj e) (by decide))
    · exact .inr (by rw [hit2]; exact hInf.off "list_reverseiterator" (by decide) p h)
    · exact .inl (Nat.ne_of_lt (hD p h))
  · intro i hi
    by_cases hik : kk = i
    · exact hik ▸ hg3
    · exact (hgood i hi).set hik
  · refine hp1.of_same (by simp) fun q hq => ?_
    rw [List.getElem?_set_ne]
    intro e
    subst e
    rw [List.nodup_append] at hnd
    exact hnd.2.2 _ hq _ (List.mem_singleton.mpr rfl) rfl

theorem out_turn {P : Params} {h₀ h' : Heap} {L I bf : Addr} {s₁ : Shared} {tk : Nat} {it : Obj} {cs cs2 : List Cell} {rs rs2 : List R} {oth : List (Addr × Obj)} {all : List (Addr × Obj)} {bw : Bool} {i c2 : Nat} {m' : Str → Option Value}
    (F : Fr h₀ L h' m') (N : News h₀ L h' all) (hall : ∀ p ∈ (I, it) :: (led cs2 ++ oth), p ∈ all) (hm : m' (Str.ofString "buffer") = some (.ref bf)) 
    (hxd : SameXD cs cs2) (hInf : Infos P cs2 rs2) (hinv : Inv rs bw rs2) (hgood : ∀ j < i, Good rs bw rs2 j) (hp : Path rs2 i [] c2) (hg : Good rs bw rs2 c2) (hI : ∀ p ∈ led cs ++ oth, p.1 < I) :
    JEnd h₀ L s₁ I it (SetJ P oth bf cs rs bw (i + 1)) { s₁ with heap := h', toks := tk } := by
  cases hp
  refine JEnd.intro (led cs2 ++ oth) F N hall (fun p hp => .inl ?_) ⟨cs2, rs2, rfl, hm, hxd, hInf, hinv, ?_⟩
  · rcases List.mem_append.mp hp with h | h
    · exact Nat.ne_of_lt (hxd.lt (fun p hp => hI p (List.mem_append_left _ hp)) p h)
    · exact Nat.ne_of_lt (hI p (List.mem_append_right _ h))
  · intro j hj
    rcases Nat.lt_or_ge j i with h | h
    · exact hgood j h
    · have : j = i := by omega
      exact this ▸ hg

theorem fin_turn {P : Params} {h₀ h' : Heap} {L I x1 d1 : Addr} {s₁ : Shared} {tk : Nat} {it o1 o' : Obj} {cs cs2 : List Cell} {rs₁ rs2 : List R} {oth : List (Addr × Obj)} {k : Nat} {m' : Str → Option Value} {r1 r' : R}
    (F : Fr h₀ L h' m') (N : News h₀ L h' ((d1, o') :: (I, it) :: rest_ d1 (led cs2 ++ oth))) (hI' : IsInfo P o' r') (hr' : r' = { r1 with pa := 0 }) (hci : cs2[k]? = some ⟨x1, d1, o1⟩) (hr1 : rs2[k]? = some r1) (hnd : (cs2.map (·.d)).Nodup)
    (hx : ∀ c ∈ cs2, c.x ≠ d1) (hoff : ∀ p ∈ oth, ∀ c ∈ cs2, p.1 ≠ c.d) (hxd : SameXD cs cs2) (hInf : Infos P cs2 rs2) (hl : rs2.length = rs₁.length) (hat : ∀ (i : Nat) (r₁ r : R), rs₁[i]? = some r₁ → rs2[i]? = some r → r = { r₁ with pa := if i < k then 0 else r₁.pa })
    (hit : it.cls = .type "list_iterator") (hI : ∀ p ∈ oth, p.1 < I) :
    JEnd h₀ L s₁ I it (FinJ P oth cs rs₁ (k + 1)) { s₁ with heap := h', toks := tk } := by
  subst hr'
  have hInf' : Infos P (cs2.set k ⟨x1, d1, o'⟩) (rs2.set k { r1 with pa := 0 }) := hInf.set k hI'
  refine JEnd.intro (led (cs2.set k ⟨x1, d1, o'⟩) ++ oth) F N ?_ ?_ ⟨_, _, rfl, hxd.trans (same_set hci), hInf', by simpa using hl, ?_⟩
  · intro p hp
    rcases List.mem_cons.mp hp with rfl | hp
    · exact .tail _ (.head _)
    · rcases List.mem_cons.mp (led_set hci hnd hx hoff p hp) with rfl | hp
      · exact .head _
      · exact .tail _ (.tail _ hp)
  · intro p hp
    rcases List.mem_append.mp hp with h | h
    · exact .inr (by rw [hit]; exact hInf'.off "list_iterator" (by decide) p h)
    · exact .inl (Nat.ne_of_lt (hI p h))
  · intro i r₁ r h1 h2
    have hlt : k < rs2.length := (List.getElem?_eq_some_iff.mp hr1).1
    by_cases hik : k = i
    · subst hik
      rw [List.getElem?_set_self hlt] at h2
      cases h2
      have := hat k r₁ r1 h1 hr1
      rw [this, if_pos (Nat.lt_succ_self k)]
    · rw [List.getElem?_set_ne hik] at h2
      rw [hat i r₁ r h1 h2]
      by_cases hlt2 : i < k
      · rw [if_pos hlt2, if_pos (by omega)]
      · rw [if_neg hlt2, if_neg (by omega)]

theorem settled_of {rs rs₁ rs2 : List R} {bw : Bool} (hinv : Inv rs bw rs₁) (hgood : ∀ i < rs.length, Good rs bw rs₁ i) (hl : rs2.length = rs₁.length) {k : Nat} (hk : k = rs.length)
    (hat : ∀ (i : Nat) (r₁ r : R), rs₁[i]? = some r₁ → rs2[i]? = some r → r = { r₁ with pa := if i < k then 0 else r₁.pa }) : Settled bw rs rs2 := by
  refine ⟨hl.trans hinv.len, fun i r₀ r h0 h2 => ?_⟩
  have hi : i < rs.length := (List.getElem?_eq_some_iff.mp h0).1
  have hi1 : i < rs₁.length := by rw [hinv.len]; exact hi
  have h1 : rs₁[i]? = some rs₁[i] := List.getElem?_eq_getElem hi1
  have e := hat i _ _ h1 h2
  rw [if_pos (by omega)] at e
  obtain ⟨a1, a2, a3, a4, _⟩ := hinv.at_ i _ _ h0 h1
  rw [e]
  exact ⟨a1, a2, a3, a4, rfl, fun x y hv => let ⟨g1, g2⟩ := hgood i hi rs₁[i] x y h1 hv; ⟨g1, g2⟩⟩

inductive SettlePost (P : Params) (oth : List (Addr × Obj)) (cs : List Cell) (rs : List R) (bw : Bool) (v : Value) (nw : List (Addr × Obj)) : Prop
  | mk (cs' : List Cell) (rs' : List R) (f0 : v = .none) (f1 : nw = led cs' ++ oth) (f2 : SameXD cs cs') (f3 : Infos P cs' rs') (f4 : Settled bw rs rs')

set_option maxRecDepth 100000 in
set_option maxHeartbeats 8000000 in
theorem settle_ {w : World} {oth : List (Addr × Obj)} {lr bf db : Addr} {cs : List Cell} {rs : List R} {nl : Nat} {k1 k2 k3 t3 : Nat} {bw : Bool}
    (hbf : (bf, instObj 137 db) ∈ oth) (hdb : (db, bufO w.params k1 k2 k3 lr bw t3) ∈ oth) (hrow : (lr, listOf (rowOf cs).toArray nl) ∈ oth)
    (hoff : ∀ p ∈ oth, ∀ c ∈ cs, p.1 ≠ c.d) (hInf : Infos w.params cs rs) (hnd : (cs.map (·.d)).Nodup)
    (h8 : rs.length ≤ 8) (hb : ∀ r ∈ rs, 0 ≤ r.xa ∧ r.xa < 60 ∧ 0 ≤ r.ya ∧ r.ya < 3) :
    Ctr w 56 8 [.ref bf] (led cs ++ oth)
      (SettlePost w.params oth cs rs bw) := by
  intro mean mg mb dp un gd cn cs' a' ccd cl outer A₀ base h₀ L m s Q E B F X N T hk hd hu ret
  have hrl : (rowOf cs).length = rs.length := (rowOf_length cs).trans hInf.length
  obtain ⟨all, hall⟩ : ∃ l, l = led cs ++ oth := ⟨_, rfl⟩
  have mbf : (bf, instObj 137 db) ∈ all := hall ▸ List.mem_append_right _ hbf
  have mdb : (db, bufO w.params k1 k2 k3 lr bw t3) ∈ all := hall ▸ List.mem_append_right _ hdb
  have mrow : (lr, listOf (rowOf cs).toArray nl) ∈ all := hall ▸ List.mem_append_right _ hrow
  rw [← hall] at N
  unfold bufO at mdb
  refine wpAny_call ?_
  k_dflt cell_enter
  k_steps
  rename IsRange _ _ _ _ _ _ _ _ => rg
  rename News _ _ _ _ => N1
  rename Fr _ _ _ _ => F1
  subst hall
  refine Stop.go (iter_rangeJ (n := rs.length) (SetJ w.params oth bf cs rs bw) (by rfl) rg ?small ?size F1 N1 ?h0 ?turn ?done)
  case small => exact small_one (by decide) (by decide) (by omega) (by omega)
  case size => rw [rangeSize_nat]; omega
  case h0 => exact ⟨cs, rs, rfl, by with_unfolding_all rfl, .refl _, hInf, .start _ _, fun i hi => absurd hi (Nat.not_lt_zero _)⟩
  case done =>
    rintro m nw h tk ⟨cs', rs', rfl, hm, hxd, hInf', hinv, hgood⟩ F N
    clear F1 N1 rg
    replace F := fr_say _ hm F
    have hgood : Stop (∀ i < rs.length, Good rs bw rs' i) := hgood
    obtain ⟨all, hall⟩ : ∃ l, l = led cs' ++ oth := ⟨_, rfl⟩
    have moth : Stop (∀ p ∈ oth, p ∈ all) := fun p hp => hall ▸ List.mem_append_right _ hp
    have mbf' := moth _ hbf
    have mdb' := moth _ hdb
    unfold bufO at mdb'
    have mrow' := moth _ hrow
    rw [← hall] at N
    clear mbf mdb mrow
    dsimp only
    k_steps
    subst hall
    rename News _ _ _ _ => N2
    rename Fr _ _ _ _ => F2
    refine Stop.go (iter_listJ (FinJ w.params oth cs rs') (by rfl) F2 N2 mrow' ?h0 ?hmem ?turn2 ?done2)
    case h0 => exact ⟨cs', rs', rfl, hxd, hInf', rfl, fun i r₁ r h1 h2 => by rw [h1] at h2; cases h2; rfl⟩
    case hmem =>
      rintro i m2 nw2 ⟨cs2, rs2, rfl, _⟩
      exact List.mem_append_right _ hrow
    case done2 =>
      rintro m2 nw2 h2 tk2 ⟨cs2, rs2, rfl, hxd2, hInf2, hl2, hat2⟩ F3 N3
      clear N2 F2
      dsimp only
      k_steps
      rename News h₀ L _ _ => N6
      rename Fr h₀ L _ _ => F6
      exact ret _ _ _ _ ⟨cs2, rs2, rfl, rfl, hxd2, hInf2, settled_of hinv hgood hl2 hrl hat2⟩ F6 N6
    case turn2 =>
      rintro I it i v m2 nw2 h2 tk2 hc2 hI hv ⟨cs2, rs2, rfl, hxd2, hInf2, hl2, hat2⟩ F3 N3
      clear N2 F2
      rw [← hxd2.row] at hv
      have hi2 : i < cs2.length := by rw [← rowOf_length]; exact (List.getElem?_eq_some_iff.mp hv).1
      obtain ⟨⟨x1, d1, o1⟩, hci⟩ : ∃ c, cs2[i]? = some c := ⟨_, List.getElem?_eq_getElem hi2⟩
      obtain ⟨r1, hr1, hI1⟩ := hInf2.get hci
      dsimp only at hI1
      have hv' := rowOf_get hci
      rw [hv] at hv'
      cases hv'
      have hcm := List.mem_of_getElem? hci
      have hx := cells_xd N3 (fun p hp => .tail _ (List.mem_append_left _ hp)) hInf2
      have hx1 : ∀ c ∈ cs2, c.x ≠ d1 := fun c hc => hx c hc _ hcm
      have hId : @Ne Nat I d1 := news_neC N3 (.head _) (.tail _ (List.mem_append_left _ (led_d hcm))) (by rw [hc2, hI1.cls]; exact fun e => absurd (Value.type.inj e) (by decide))
      have N4 := news_sub (l' := (d1, o1) :: (I, it) :: rest_ d1 (led cs2 ++ oth)) N3 (fun p hp => by
        rcases List.mem_cons.mp hp with rfl | hp
        · exact .tail _ (List.mem_append_left _ (led_d hcm))
        · rcases List.mem_cons.mp hp with rfl | hp
          · exact .head _
          · exact .tail _ (mem_rest.mp hp).1)
      obtain ⟨tl, htl⟩ : ∃ l, l = (I, it) :: rest_ d1 (led cs2 ++ oth) := ⟨_, rfl⟩
      have htoff : ∀ p ∈ tl, p.1 ≠ d1 := by
        rw [htl]
        intro p hp
        rcases List.mem_cons.mp hp with rfl | hp
        · exact hId
        · exact rest_off p hp
      have mx1 : (x1, instObj 87 d1) ∈ tl := htl ▸ .tail _ (mem_rest.mpr ⟨List.mem_append_left _ (led_x (c := ⟨x1, d1, o1⟩) hcm), hx1 _ hcm⟩)
      rw [← htl] at N4
      clear N3
      replace hI := Stop.go hI
      revert N4
      refine hI1.open_ ?_
      iterate 30 (intro _)
      intro N4
      k_steps
      rename News _ _ _ _ => N6
      rename Fr _ _ _ _ => F6
      subst htl
      exact fin_turn F6 N6 (.mk ..) rfl hci hr1 (hxd2.nodup hnd) hx1 (hxd2.off hoff) hxd2 hInf2 hl2 hat2 hc2 (fun p hp => hI p (List.mem_append_right _ hp))
  case turn =>
    rintro I i m nw t h tk hI hin ⟨cs', rs', rfl, hm, hxd, hInf', hinv, hgood⟩ F N
    clear F1 N1 rg
    rw [Int.zero_add] at F
    replace F := fr_say2 (Str.ofString "buffer") hm F
    obtain ⟨it, hit⟩ : ∃ o, o = itR (0 + ((i + 1 : Nat) : Int)) ((rs.length : Int) - ((i + 1 : Nat) : Int)) := ⟨_, rfl⟩
    have hic : it.cls = .type "range_iterator" := by rw [hit]; rfl
    rw [← hit] at N ⊢
    obtain ⟨all, hall⟩ : ∃ l, l = (I, it) :: (led cs' ++ oth) := ⟨_, rfl⟩
    have moth : Stop (∀ p ∈ oth, p ∈ all) := fun p hp => hall ▸ .tail _ (List.mem_append_right _ hp)
    have mbf' := moth _ hbf
    have mdb' := moth _ hdb
    unfold bufO at mdb'
    have mrow' := moth _ hrow
    have hled' : ∀ p ∈ led cs', p ∈ all := fun p hp => hall ▸ .tail _ (List.mem_append_left _ hp)
    rw [← hall] at N
    rw [← hxd.row] at mrow'
    have ha : i < rs'.length := by rw [hinv.len]; exact hin
    have h8' : rs'.length ≤ 8 := by rw [hinv.len]; exact h8
    clear mbf mdb mrow
    replace hI := Stop.go hI
    replace hgood := Stop.go hgood
    k_steps
    refine Stop.go ?_
    k_dflt (refine' Ctr.use' (chain ?row ?led ?inf ?a ?h8) ?N ?B ?F ?X ?T ?k ?d ?u ?_; (case N => k_asm); (case row => assumption); (case led => assumption); (case inf => assumption); (case a => assumption); (case h8 => assumption); (case B => k_asm); (case F => k_asm); (case X => k_asm); (case T => k_asm); (case k => first | exact rfl | assumption); (case d => ktr_room); (case u => ktr_units)); rintro v9 h9 tk9 nw9 ⟨lc9, vs9, line9, k9, b9, q9, q8, hi9, hp9, hn9, he9, l9⟩ F9 N9; subst q9; subst q8; (replace l9 := Stop.go l9); k_sweep; (try dsimp only); (try k_fold)
    k_steps
    rename_i D' h' F' N' l1
    have hlen : vs9.length = line9.length := by rw [hi9.length, List.length_map]
    have hge := hinv.good_end hp9 he9
    have hD : Stop (∀ p ∈ all, p.1 < D') := ktn_ltOf l1.2
    subst hall
    refine Stop.go (iter_revJ (RevJ w.params [(lc9, listOf vs9.toArray k9), (I, it)] oth bf cs rs bw i line9) (by rfl) F' N' ?hof (.head _) ?h0 ?hmem ?turn ?done)
    case hof =>
      intro p hp
      rcases List.mem_cons.mp hp with rfl | hp
      · exact Nat.ne_of_lt l1.1
      · exact Nat.ne_of_lt (hD p hp)
    case h0 =>
      exact ⟨cs', rs', b9, rfl, by with_unfolding_all rfl, hxd, hInf', hinv, hgood, by simpa using hp9, hge⟩
    case hmem =>
      rintro i2 m2 nw2 ⟨cs2, rs2, c2, rfl, _⟩
      exact .head _
    case done =>
      rintro m2 nw2 h2 tk2 ⟨cs2, rs2, c2, rfl, hm2, hxd2, hInf2, hinv2, hgood2, hp2, hg2⟩ F3 N3
      rw [hlen, Nat.sub_self] at hp2
      clear N' F'
      dsimp only
      k_steps
      exact out_turn F3 N3 (fun p hp => .tail _ hp) hm2 hxd2 hInf2 hinv2 hgood2 hp2 hg2 hI
    case turn =>
      rintro it2 i2 v m2 nw2 h2 tk2 hc2 hv2 ⟨cs2, rs2, c2, rfl, hm2, hxd2, hInf2, hinv2, hgood2, hp2, hg2⟩ F3 N3
      obtain ⟨kk, t2, rfl, htk, hi2⟩ := rev_item hi9 hv2
      replace F3 := fr_say2 (Str.ofString "buffer") hm2 F3
      rw [htk] at hp2
      have hs2 := hp2.unsnoc.2
      obtain ⟨r1, hr1⟩ : ∃ r, rs2[kk]? = some r := ⟨_, List.getElem?_eq_getElem (step_lt' hs2)⟩
      obtain ⟨r2, hr2⟩ : ∃ r, rs2[c2]? = some r := ⟨_, List.getElem?_eq_getElem (step_lt hs2)⟩
      clear N' F'
      obtain ⟨all3, hall3⟩ : ∃ l, l = (D', it2) :: ([(lc9, listOf vs9.toArray k9), (I, it)] ++ (led cs2 ++ oth)) := ⟨_, rfl⟩
      rw [← hall3] at N3
      k_steps
      subst hall3
      have e1 : ∀ p ∈ (D', it2) :: (lc9, listOf vs9.toArray k9) :: (I, it) :: oth, ∀ c ∈ cs2, p.1 ≠ c.d := by
        intro p hp c hc
        obtain ⟨r, _, hIc⟩ := hInf2.mem hc
        have md : (c.d, c.o) ∈ (D', it2) :: ([(lc9, listOf vs9.toArray k9), (I, it)] ++ (led cs2 ++ oth)) := .tail _ (List.mem_append_right _ (List.mem_append_left _ (led_d hc)))
        rcases List.mem_cons.mp hp with rfl | hp
        · exact news_neC N3 (.head _) md (by rw [hc2, hIc.cls]; exact fun e => absurd (Value.type.inj e) (by decide))
        rcases List.mem_cons.mp hp with rfl | hp
        · exact news_neC N3 (.tail _ (.head _)) md (by rw [hIc.cls]; exact fun e => absurd (Value.type.inj e) (by decide))
        rcases List.mem_cons.mp hp with rfl | hp
        · exact news_neC N3 (.tail _ (.tail _ (.head _))) md (by rw [hic, hIc.cls]; exact fun e => absurd (Value.type.inj e) (by decide))
        · exact hxd2.off hoff p hp c hc
      have e2 : ∀ p ∈ led cs2 ++ ((D', it2) :: (lc9, listOf vs9.toArray k9) :: (I, it) :: oth), p ∈ (D', it2) :: ([(lc9, listOf vs9.toArray k9), (I, it)] ++ (led cs2 ++ oth)) := by
        intro p hp
        simp only [List.mem_cons, List.mem_append, List.not_mem_nil, or_false] at hp ⊢
        rcases hp with h | h | h | h | h <;> simp [h]
      refine Stop.go ?_
      k_dflt (refine' settle_call (oth := (D', it2) :: (lc9, listOf vs9.toArray k9) :: (I, it) :: oth) (cs := cs2) (rs := rs2) (i := kk) (j := c2) (nl := nl) (bw := bw) N3 ?B F3 ?X ?T ?k ?d ?u e2 (.tail _ (.tail _ (.tail _ hbf))) (.tail _ (.tail _ (.tail _ hdb))) (.tail _ (.tail _ (.tail _ (hxd2.row.symm ▸ hrow)))) e1 hInf2 (hxd2.nodup hnd) (by rw [hinv2.len]; exact h8) hs2 hr1 hr2 ?hb ?_)
      case B => k_asm
      case X => k_asm
      case T => k_asm
      case k => first | exact rfl | assumption
      case d => ktr_room
      case u => ktr_units
      case hb => exact hinv2.bounds hb
      clear N3 F3
      intro h5 tk5 cs5 hxd5 hInf5 F5 N5
      dsimp only
      k_steps
      rename Fr _ _ _ _ => F6
      rename News _ _ _ _ => N6
      exact rev_turn F6 N6 (by with_unfolding_all rfl) hic rfl hc2 hxd2 hxd5 hInf5 hinv2 hgood2 hp2 hg2 hr1 hr2 (htk ▸ (hn9.sublist (List.take_sublist _ _))) (fun p hp => hD p (.tail _ (List.mem_append_right _ hp)))

end

section
theorem still_C8 : True := by
  w_top off
  trivial

set_option maxRecDepth 100000 in
set_option maxHeartbeats 8000000 in
theorem fill_it8 (w : World) (h : Heap) : (hd.heap_39 w.params).In h → PySem.Challenge.rw_nu0151_01 = PySem.Challenge.rw_nu0151_01 → True := by
  k_fill
  intros; trivial

local macro_rules | `(tactic| walk_at "call ref") => `(tactic| refine stop_ ?_)
local macro_rules | `(tactic| walk_at "exec While Compare cons nil") => `(tactic| refine stop_ ?_)

/-- the list of the parents' places -/
def PVal (v : Value) (p : Option Nat) : Prop := match p with
  | none => v = .none
  | some g => ∃ t, v = .int (g : Int) t

inductive RootJ (news : List (Addr × Obj)) (rs : List R) (lp : Addr) (a : Nat) (n : Nat) (m : Str → Option Value) (nw : List (Addr × Obj)) : Prop
  | mk (lc : Addr) (vs : List Value) (line : List Nat) (k h : Nat) (t : Tok) (f0 : nw = (lc, listOf vs.toArray k) :: news) (f1 : m (Str.ofString "parents") = some (.ref lp)) (f2 : m (Str.ofString "seen") = some (.ref lc)) (f3 : m (Str.ofString "place") = some (.int (h : Int) t)) (f4 : IntsAre vs (line.map Int.ofNat)) (f5 : Path rs a line h) (f6 : line.Nodup) (f7 : (∀ p ∈ news, p.1 < lc)) (f8 : n = rs.length + 1 - line.length)

inductive RootPost (rs : List R) (a : Nat) (news : List (Addr × Obj)) (v : Value) (nw : List (Addr × Obj)) : Prop
  | mk (b : Bool) (f0 : v = .bool b) (f1 : nw = news) (f2 : (b = true → ∃ line c, Path rs a line c ∧ step rs c = none))

set_option maxRecDepth 100000 in
set_option maxHeartbeats 8000000 in
theorem rooted {w : World} {news : List (Addr × Obj)} {lp : Addr} {a np t1 : Nat} {pv : List Value} {ps : List (Option Nat)} {rs : List R}
    (hrow : (lp, listOf pv.toArray np) ∈ news) (hpv : Paired PVal pv ps) (hps : ∀ i p, ps[i]? = some p → step rs i = p) (hlen : ps.length = rs.length) (ha : a < rs.length) (h8 : rs.length ≤ 8) :
    Ctr w 172 2 [.ref lp, .int (a : Int) t1] news
      (RootPost rs a news) := by
  intro mean mg mb dp un gd cn cs' a' ccd cl outer A₀ base h₀ L m s Q E B F X N T hk hd hu ret
  refine wpAny_call ?_
  k_dflt cell_enter
  k_steps
  rename News _ _ _ _ => N1
  rename Fr _ _ _ _ => F1
  rename ∀ p ∈ news, p.1 < _ => l1
  refine Stop.go (While_inv2 (RootJ news rs lp a) F1 N1 ⟨_, [], [], 0, a, t1, rfl, by with_unfolding_all rfl, by with_unfolding_all rfl, by with_unfolding_all rfl, .nil, .nil _, by simp, l1, rfl⟩ ?turn)
  clear F1 N1
  rintro n m₁ nw h₁ tk₁ F N ⟨lc, vs, line, k, h, t, rfl, hm1, hm2, hm3, hi, hp, hnd, hlt, hn⟩
  have hh : h < rs.length := hp.end_lt ha
  replace F := fr_say (Str.ofString "parents") ((if_neg (by decide)).trans ((if_neg (by decide)).trans hm1)) (fr_say (Str.ofString "seen") ((if_neg (by decide)).trans hm2) (fr_say _ hm3 F))
  have hpl : pv.length = ps.length := Paired.length hpv
  obtain ⟨v, hv⟩ : ∃ v, pv[h]? = some v := ⟨_, List.getElem?_eq_getElem (by omega)⟩
  obtain ⟨p, hp', hvp⟩ := Paired.at hpv hv
  have hs := hps h p hp'
  have off : ∀ p ∈ news, p.1 ≠ lc := fun p hp => Nat.ne_of_lt (hlt p hp)
  have hll : line.length ≤ rs.length := nodup_len _ _ hnd hp.lt
  have hvl : vs.length ≤ 8 := by rw [hi.length, List.length_map]; omega
  have end1 : ∀ b h' tk', Fr h₀ L h' m → News h₀ L h' ((lc, listOf vs.toArray k) :: news) → (b = true → step rs h = none) → Q (.bool b) { s with heap := h', toks := tk' } :=
    fun b h' tk' F N e => ret _ _ _ _ ⟨b, rfl, rfl, fun hb => ⟨line, h, hp, e hb⟩⟩ F (news_sub N fun _ hq => .tail _ hq)
  cases p with
  | none =>
    cases hvp
    k_steps
    rename News h₀ L _ _ => kN
    rename Fr h₀ L _ m => kF
    exact end1 _ _ _ kF kN fun _ => hs
  | some g =>
    obtain ⟨t2, rfl⟩ := hvp
    k_steps
    · refine Stop.go ?_
      unfold WhileStep2
      dsimp only
      k_steps
      rename News h₀ L _ _ => kN
      rename Fr h₀ L _ m => kF
      exact end1 _ _ _ kF kN fun e => by cases e
    · rename News _ _ _ _ => N2
      rename Fr _ _ _ _ => F2
      have e4 := any_not (by assumption)
      refine Stop.go ⟨_, _, _, _, rs.length + 1 - (line ++ [h]).length, rfl, F2, N2, by simp; omega, lc, vs ++ [.int (h : Int) t], line ++ [h], k + 1, g, t2, by simp, by with_unfolding_all rfl, by with_unfolding_all rfl, by with_unfolding_all rfl, ?_, hp.snoc hs, ?_, hlt, rfl⟩
      · rw [List.map_append]; exact ints_snoc hi _ _
      · rw [List.nodup_append]
        exact ⟨hnd, by simp, fun x hx y hy => by simp at hy; subst hy; exact fun e => e4 (e ▸ hx)⟩

end

section
theorem still_C9 : True := by
  w_top off
  trivial

set_option maxRecDepth 100000 in
set_option maxHeartbeats 8000000 in
theorem fill_it9 (w : World) (h : Heap) : (hd.heap_39 w.params).In h → PySem.Challenge.rw_nu0151_01 = PySem.Challenge.rw_nu0151_01 → True := by
  k_fill
  intros; trivial

local macro_rules | `(tactic| walk_at "call ref") => `(tactic| refine stop_ ?_)

def SX (bw : Bool) (rs : List R) (i : Nat) : Int := if bw then sumX (rs.drop (i + 1)) else sumX (rs.take i)
def SY (bw : Bool) (rs : List R) (i : Nat) : Int := if bw then sumY (rs.drop (i + 1)) else sumY (rs.take i)
def tupS (bw : Bool) (rs : List R) (i : Nat) : Dat := .tuple [.int (SX bw rs i), .int (SY bw rs i)]

theorem dat_at {news : List (Addr × Obj)} {vs : List Value} {rs : List R} (h : DatAll news vs (rs.map tupR)) {i : Nat} {v : Value} (hv : vs[i]? = some v) : ∃ r, rs[i]? = some r ∧
    TupAt news v r := by
  obtain ⟨d, hd, hin⟩ := dat_get h hv
  rw [List.getElem?_map] at hd
  cases hr : rs[i]? with
  | none => rw [hr] at hd; cases hd
  | some r =>
    rw [hr] at hd
    cases hd
    exact ⟨r, rfl, tup_at hin⟩

inductive SumJ (news : List (Addr × Obj)) (rs : List R) (lr : Addr) (bw : Bool) (i : Nat) (m : Str → Option Value) (nw : List (Addr × Obj)) : Prop
  | mk (lf : Addr) (vs : List Value) (k : Nat) (tl : List (Addr × Obj)) (f0 : nw = (lf, listOf vs.toArray k) :: (tl ++ news)) (f1 : m (Str.ofString "rows") = some (.ref lr)) (f2 : m (Str.ofString "is_backward") = some (.bool bw)) (f3 : m (Str.ofString "found") = some (.ref lf)) (f4 : DatAll tl vs ((List.range i).map (tupS bw rs))) (f5 : (∀ p ∈ tl ++ news, p.1 ≠ lf)) (f6 : (∀ p ∈ news, p.1 < lf)) (f7 : (∀ p ∈ tl, p.2.cls = .type "tuple"))

theorem sum_turn {h₀ h' : Heap} {L I lf lr D : Addr} {s₁ : Shared} {tk : Nat} {it : Obj} {news tl all : List (Addr × Obj)} {rs : List R} {bw : Bool} {i k n : Nat} {fs : List Value} {m' : Str → Option Value} {sx sy : Int} {u1 u2 : Tok}
    (F : Fr h₀ L h' m') (N : News h₀ L h' all) (mI : (I, it) ∈ all) (mlf : (lf, listOf (fs.toArray.push (.ref D)) (k + 1)) ∈ all) (mD : (D, ({ cls := .type "tuple", data := .seq [.int sx u1, .int sy u2].toArray n } : Obj)) ∈ all)
    (mt : ∀ p ∈ tl ++ news, p ∈ all) (esx : sx = SX bw rs i) (esy : sy = SY bw rs i) (hm1 : m' (Str.ofString "rows") = some (.ref lr)) (hm2 : m' (Str.ofString "is_backward") = some (.bool bw)) (hm3 : m' (Str.ofString "found") = some (.ref lf))
    (hda : DatAll tl fs ((List.range i).map (tupS bw rs))) (hoff : ∀ p ∈ tl ++ news, p.1 ≠ lf) (hlt : ∀ p ∈ news, p.1 < lf) (htl : ∀ p ∈ tl, p.2.cls = .type "tuple") (hit : it.cls = .type "range_iterator") (hI : ∀ p ∈ news, p.1 < I) :
    JEnd h₀ L s₁ I it (SumJ news rs lr bw (i + 1)) { s₁ with heap := h', toks := tk } := by
  subst esx esy
  have hD : D ≠ lf := news_neC N mD mlf (fun e => absurd (Value.type.inj e) (by decide))
  refine JEnd.intro ((lf, listOf (fs ++ [Value.ref D]).toArray (k + 1)) :: ((D, ({ cls := .type "tuple", data := .seq [.int (SX bw rs i) u1, .int (SY bw rs i) u2].toArray n } : Obj)) :: tl ++ news)) F N ?_ ?_ ⟨lf, fs ++ [Value.ref D], k + 1, (D, ({ cls := .type "tuple", data := .seq [.int (SX bw rs i) u1, .int (SY bw rs i) u2].toArray n } : Obj)) :: tl, rfl, hm1, hm2, hm3, ?_, ?_, hlt, ?_⟩
  · intro p hp
    simp only [List.mem_cons, List.mem_append, List.cons_append] at hp
    rcases hp with rfl | rfl | rfl | h
    · exact mI
    · simpa using mlf
    · exact mD
    · exact mt p (List.mem_append.mpr h)
  · intro p hp
    simp only [List.mem_cons, List.mem_append, List.cons_append] at hp
    rcases hp with rfl | rfl | h | h
    · exact .inr (by rw [hit]; exact fun e => absurd (Value.type.inj e) (by decide))
    · exact .inr (by rw [hit]; exact fun e => absurd (Value.type.inj e) (by decide))
    · exact .inr (by rw [hit, htl p h]; exact fun e => absurd (Value.type.inj e) (by decide))
    · exact .inl (Nat.ne_of_lt (hI p h))
  · rw [List.range_succ, List.map_append]
    exact DatAll.append (hda.mono fun p hp => .tail _ hp) (DatAll.one (.tuple (.head _) (.cons (.int _ _) (.cons (.int _ _) .nil))))
  · intro p hp
    rcases List.mem_cons.mp hp with rfl | hp
    · exact hD
    · exact hoff p hp
  · intro p hp
    rcases List.mem_cons.mp hp with rfl | hp
    · rfl
    · exact htl p hp

inductive SumPost (bw : Bool) (rs : List R) (news : List (Addr × Obj)) (v : Value) (nw : List (Addr × Obj)) : Prop
  | mk (lf : Addr) (fs : List Value) (k : Nat) (tl : List (Addr × Obj)) (f0 : v = .ref lf) (f1 : nw = (lf, listOf fs.toArray k) :: (tl ++ news)) (f2 : DatAll tl fs ((List.range rs.length).map (tupS bw rs))) (f3 : (∀ p ∈ news, p.1 < lf)) (f4 : (∀ p ∈ tl, p.2.cls = .type "tuple"))

set_option maxRecDepth 100000 in
set_option maxHeartbeats 8000000 in
theorem sums {w : World} {news : List (Addr × Obj)} {lr : Addr} {n : Nat} {vs : List Value} {rs : List R} {bw : Bool}
    (hrow : (lr, listOf vs.toArray n) ∈ news) (hv : DatAll news vs (rs.map tupR)) (h8 : Stop (rs.length ≤ 8)) :
    Ctr w 165 3 [.ref lr, .bool bw] news
      (SumPost bw rs news) := by
  intro mean mg mb dp un gd cn cs' a' ccd cl outer A₀ base h₀ L m s Q E B F X N T hk hd hu ret
  have hrl : vs.length = rs.length := by rw [dat_len hv, List.length_map]
  have hz : rs.length ≤ 1000 := Nat.le_trans h8 (by decide)
  refine wpAny_call ?_
  k_dflt cell_enter
  k_steps
  rename IsRange _ _ _ _ _ _ _ _ => rg
  rename News _ _ _ _ => N1
  rename Fr _ _ _ _ => F1
  rename ∀ p ∈ news, p.1 < _ => l1
  refine Stop.go (iter_rangeJ (n := rs.length) (SumJ news rs lr bw) (by rfl) rg ?small ?size F1 N1 ?h0 ?turn ?done)
  case small => exact small_one (by decide) (by decide) (by omega) (by omega)
  case size => rw [rangeSize_nat]; omega
  case h0 => exact ⟨_, [], 0, [], rfl, by with_unfolding_all rfl, by with_unfolding_all rfl, by with_unfolding_all rfl, .nil, fun p hp => Nat.ne_of_lt (l1 p hp), l1, fun p hp => nomatch hp⟩
  case done =>
    rintro m2 nw2 h2 tk2 ⟨lf, fs, k, tl, rfl, hm1, hm2, hm3, hda, hoff, hlt, htl⟩ F2 N2
    clear F1 N1 rg
    replace F2 := fr_say _ hm3 F2
    dsimp only
    k_steps
    rename News h₀ L _ _ => kN
    rename Fr h₀ L _ m => kF
    exact ret _ _ _ _ ⟨lf, fs, k, tl, rfl, rfl, hda, hlt, htl⟩ kF kN
  case turn =>
    rintro I i m2 nw2 t2 h2 tk2 hI hin ⟨lf, fs, k, tl, rfl, hm1, hm2, hm3, hda, hoff, hlt, htl⟩ F2 N2
    clear F1 N1 rg
    rw [Int.zero_add] at F2
    replace F2 := fr_say2 (Str.ofString "rows") ((if_neg (by decide)).trans ((if_neg (by decide)).trans hm1)) (fr_say2 (Str.ofString "is_backward") ((if_neg (by decide)).trans hm2) (fr_say2 _ hm3 F2))
    have hi1 : (i : Int) + 1 = ((i + 1 : Nat) : Int) := rfl
    obtain ⟨tln, htln⟩ : ∃ l, l = tl ++ news := ⟨_, rfl⟩
    have mrow : (lr, listOf vs.toArray n) ∈ tln := htln ▸ List.mem_append_right _ hrow
    rw [← htln] at N2 hoff
    have e1 : @Ne Nat I lf := news_neC N2 (.head _) (.tail _ (.head _)) (by k_cls)
    have hfl : fs.length = i := by rw [dat_len hda]; simp
    have hvt : DatAll tln vs (rs.map tupR) := htln ▸ hv.mono fun p hp => List.mem_append_right _ hp
    replace hI := Stop.go hI
    replace hlt := Stop.go hlt
    replace htl := Stop.go htl
    cases bw with
    | true =>
      have hv2 : DatAll tln (vs.drop (i + 1)) ((rs.drop (i + 1)).map tupR) := by rw [List.map_drop]; exact dat_drop hvt _
      have hl2 : (vs.drop (i + 1)).length = ((rs.drop (i + 1)).map tupR).length := dat_len hv2
      obtain ⟨vs2, hvs2⟩ : ∃ l, l = vs.drop (i + 1) := ⟨_, rfl⟩
      obtain ⟨rs2, hrs2⟩ : ∃ l, l = rs.drop (i + 1) := ⟨_, rfl⟩
      have hz2 : vs2.length ≤ 1000 := by rw [hvs2, List.length_drop]; omega
      k_steps
      refine Stop.go ?_
      k_dflt (refine row_from (by k_asm) (by k_asm) (by first | k_mem | exact .tail _ (by k_mem)) (by first | assumption | exact rfl) (by omega) ?_ (by with_unfolding_all rfl) (by intro _; with_unfolding_all rfl))
      intro _ _ F0 N0 l0
      (try k_lt l0)
      (try k_sweep)
      k_steps
      rename News _ _ _ _ => N3
      rename Fr _ _ _ _ => F3
      rw [← hvs2] at N3  hv2 hl2
      rw [← hrs2] at hv2 hl2
      rw [List.length_map] at hl2
      refine Stop.go (compInts (ks := rs2.map (·.xa)) (by rfl) F3 N3 (.head _) (by simpa using hl2) hz2 ?t1 ?f1)
      case t1 =>
        intro g j kk v I2 oI C oC D2 m3 ys h3 tk3 E' hvj hkj hC hx F4 N4 off ne
        obtain ⟨r, hr, hma⟩ := dat_at hv2 hvj
        obtain ⟨a, n, u1, u2, u3, u4, rfl, hma⟩ := hma
        have hkk : r.xa = kk := by simpa [hr] using hkj
        clear F3 N3
        k_steps
        rename News _ _ _ _ => N5
        rename Fr _ _ _ _ => F5
        exact IntEnd.intro F5 N5 hkk
      case f1 =>
        intro g ys hys
        clear F3 N3
        k_steps
        rename News _ _ _ _ => N3
        rename Fr _ _ _ _ => F3
        refine Stop.go (compInts (ks := rs2.map (·.ya)) (by rfl) F3 N3 (.tail _ (.head _)) (by simpa using hl2) hz2 ?t2 ?f2)
        case t2 =>
          intro g j kk v I2 oI C oC D2 m3 ys h3 tk3 E' hvj hkj hC hx F4 N4 off ne
          obtain ⟨r, hr, hma⟩ := dat_at hv2 hvj
          obtain ⟨a, n, u1, u2, u3, u4, rfl, hma⟩ := hma
          have hkk : r.ya = kk := by simpa [hr] using hkj
          clear F3 N3
          k_steps
          rename News _ _ _ _ => N5
          rename Fr _ _ _ _ => F5
          exact IntEnd.intro F5 N5 hkk
        case f2 =>
          intro g ys hys2
          clear F3 N3
          k_steps
          rename News _ _ _ _ => N6
          rename Fr _ _ _ _ => F6
          subst htln
          refine' sum_turn F6 N6 (tl := tl) (news := news) (i := i) (rs := rs) (fs := fs) ?mI ?mlf ?mD ?mt ?esx ?esy (by with_unfolding_all rfl) (by with_unfolding_all rfl) (by with_unfolding_all rfl) hda hoff hlt htl rfl (fun p hp => hI p (.tail _ hp))
          case mI => first | exact .head _ | exact .tail _ (.head _) | exact .tail _ (.tail _ (.head _)) | exact .tail _ (.tail _ (.tail _ (.head _))) | exact .tail _ (.tail _ (.tail _ (.tail _ (.head _)))) | exact .tail _ (.tail _ (.tail _ (.tail _ (.tail _ (.head _)))))
          case mlf => first | exact .head _ | exact .tail _ (.head _) | exact .tail _ (.tail _ (.head _)) | exact .tail _ (.tail _ (.tail _ (.head _))) | exact .tail _ (.tail _ (.tail _ (.tail _ (.head _)))) | exact .tail _ (.tail _ (.tail _ (.tail _ (.tail _ (.head _)))))
          case mD => first | exact .head _ | exact .tail _ (.head _) | exact .tail _ (.tail _ (.head _)) | exact .tail _ (.tail _ (.tail _ (.head _))) | exact .tail _ (.tail _ (.tail _ (.tail _ (.head _)))) | exact .tail _ (.tail _ (.tail _ (.tail _ (.tail _ (.head _)))))
          case mt => exact fun p hp => .tail _ (.tail _ (.tail _ (.tail _ (.tail _ (.tail _ hp)))))
          case esx => subst hrs2; rfl
          case esy => subst hrs2; rfl
    | false =>
      have hv2 : DatAll tln (vs.take i) ((rs.take i).map tupR) := by rw [List.map_take]; exact dat_take hvt _
      have hl2 : (vs.take i).length = ((rs.take i).map tupR).length := dat_len hv2
      obtain ⟨vs2, hvs2⟩ : ∃ l, l = vs.take i := ⟨_, rfl⟩
      obtain ⟨rs2, hrs2⟩ : ∃ l, l = rs.take i := ⟨_, rfl⟩
      have hz2 : vs2.length ≤ 1000 := by rw [hvs2, List.length_take]; omega
      k_steps
      refine Stop.go ?_
      k_dflt (refine row_upto (by k_asm) (by k_asm) (by first | k_mem | exact .tail _ (by k_mem)) (by first | assumption | exact rfl) (by omega) ?_ (by with_unfolding_all rfl) (by intro _; with_unfolding_all rfl))
      intro _ _ F0 N0 l0
      (try k_lt l0)
      (try k_sweep)
      k_steps
      rename News _ _ _ _ => N3
      rename Fr _ _ _ _ => F3
      rw [← hvs2] at N3  hv2 hl2
      rw [← hrs2] at hv2 hl2
      rw [List.length_map] at hl2
      refine Stop.go (compInts (ks := rs2.map (·.xa)) (by rfl) F3 N3 (.head _) (by simpa using hl2) hz2 ?t1' ?f1')
      case t1' =>
        intro g j kk v I2 oI C oC D2 m3 ys h3 tk3 E' hvj hkj hC hx F4 N4 off ne
        obtain ⟨r, hr, hma⟩ := dat_at hv2 hvj
        obtain ⟨a, n, u1, u2, u3, u4, rfl, hma⟩ := hma
        have hkk : r.xa = kk := by simpa [hr] using hkj
        clear F3 N3
        k_steps
        rename News _ _ _ _ => N5
        rename Fr _ _ _ _ => F5
        exact IntEnd.intro F5 N5 hkk
      case f1' =>
        intro g ys hys
        clear F3 N3
        k_steps
        rename News _ _ _ _ => N3
        rename Fr _ _ _ _ => F3
        refine Stop.go (compInts (ks := rs2.map (·.ya)) (by rfl) F3 N3 (.tail _ (.head _)) (by simpa using hl2) hz2 ?t2' ?f2')
        case t2' =>
          intro g j kk v I2 oI C oC D2 m3 ys h3 tk3 E' hvj hkj hC hx F4 N4 off ne
          obtain ⟨r, hr, hma⟩ := dat_at hv2 hvj
          obtain ⟨a, n, u1, u2, u3, u4, rfl, hma⟩ := hma
          have hkk : r.ya = kk := by simpa [hr] using hkj
          clear F3 N3
          k_steps
          rename News _ _ _ _ => N5
          rename Fr _ _ _ _ => F5
          exact IntEnd.intro F5 N5 hkk
        case f2' =>
          intro g ys hys2
          clear F3 N3
          k_steps
          rename News _ _ _ _ => N6
          rename Fr _ _ _ _ => F6
          subst htln
          refine' sum_turn F6 N6 (tl := tl) (news := news) (i := i) (rs := rs) (fs := fs) ?mI' ?mlf' ?mD' ?mt' ?esx' ?esy' (by with_unfolding_all rfl) (by with_unfolding_all rfl) (by with_unfolding_all rfl) hda hoff hlt htl rfl (fun p hp => hI p (.tail _ hp))
          case mI' => first | exact .head _ | exact .tail _ (.head _) | exact .tail _ (.tail _ (.head _)) | exact .tail _ (.tail _ (.tail _ (.head _))) | exact .tail _ (.tail _ (.tail _ (.tail _ (.head _)))) | exact .tail _ (.tail _ (.tail _ (.tail _ (.tail _ (.head _)))))
          case mlf' => first | exact .head _ | exact .tail _ (.head _) | exact .tail _ (.tail _ (.head _)) | exact .tail _ (.tail _ (.tail _ (.head _))) | exact .tail _ (.tail _ (.tail _ (.tail _ (.head _)))) | exact .tail _ (.tail _ (.tail _ (.tail _ (.tail _ (.head _)))))
          case mD' => first | exact .head _ | exact .tail _ (.head _) | exact .tail _ (.tail _ (.head _)) | exact .tail _ (.tail _ (.tail _ (.head _))) | exact .tail _ (.tail _ (.tail _ (.tail _ (.head _)))) | exact .tail _ (.tail _ (.tail _ (.tail _ (.tail _ (.head _)))))
          case mt' => exact fun p hp => .tail _ (.tail _ (.tail _ (.tail _ (.tail _ (.tail _ hp)))))
          case esx' => subst hrs2; rfl
          case esy' => subst hrs2; rfl

end

end

section

theorem pen_use {w : World} {l : Addr} {vs : List Value} {ns : List Int}
    {mean : ExcName → Option Value} {mg mb : Str → Option Value} {dp un : Nat} {gd : Option (List Code)} {cn : Str} {cs : Scope} {a : Addr} {ccd : Value} {cl : List (Str × Addr)} {outer : List Env}
    {A₀ : Around} {base h₀ : Heap} {L : Addr} {m : Str → Option Value} {s : Shared} {Q E : Value → Shared → Prop} (N : News h₀ L s.heap []) (B : Below A₀ base outer h₀) (hl : base.IsList l vs.toArray) (hi : IntsAre vs ns) (hlen : ns.length ≤ 63)
    (F : Fr h₀ L s.heap m) (X : (hd.heap_39 w.params).In h₀) (T : Top hd.view_39 (looseW hd.view_39 []) mean mg mb h₀) (hk : cs.kind = .function)
    (hd : dp + 1 < recursionLimit) (hu : un + 8 * 1 < cLine)
    (ret : ∀ (pn cx : Addr) (gr st : Int) (t1 t2 t3 n nc : Nat) (ys : List Value) (ms : List Int) h' tk', IntsAre ys ms → ms.length ≤ 48 → PenOk gr st 0 → @LT.lt Nat _ cx pn → Fr h₀ L h' m →
      News h₀ L h' [(pn, penO cx gr st 0 t1 t2 t3 n), (cx, listOf ys.toArray nc)] → Q (.ref pn) { s with heap := h', toks := tk' }) :
    wpAny (model PySem.Challenge.rw_nu0151_01.row.prog w) (ktrTop dp un gd cn cs L a ccd cl outer) (call (.ref 146) [.ref l]) Q E s :=
  pen hi hlen mean mg mb dp un gd cn cs a ccd cl outer A₀ base h₀ L m s Q E hl B F X N T hk hd hu ret

/-- what the loop over the parents says of a place -/
def Link (n k : Nat) (r : R) (p : Option Nat) (b : Str) : Prop := match p with
  | none => r.pa = 0 ∨ (n : Int) ≤ (k : Int) + r.pa
  | some g => g < n ∧ r.pa = (g : Int) - (k : Int) ∧ g ≠ k ∧ r.bond = b ∧ ((b = Str.ofString "mark" ∧ g < k) ∨ b = Str.ofString "cursive")
def BVal (v : Value) (b : Str) : Prop := ∃ t, v = .str b t
theorem Link.step {rs : List R} {k : Nat} {r : R} {p : Option Nat} {b : Str} (hr : rs[k]? = some r) (h : Link rs.length k r p b) : step rs k = p := by
  cases p with
  | none =>
    rcases h with h | h
    · exact step_zero hr h
    · exact step_high hr h
  | some g =>
    obtain ⟨h1, h2, h3, _⟩ := h
    have e : (k : Int) + r.pa = (g : Int) := by omega
    rw [step_some hr (by omega) (by omega) (by omega), e, Int.toNat_natCast]

structure ParF (n i : Nat) (rs : List R) (ps : List (Option Nat)) (bs : List Str) : Prop where
  n_ : rs.length = n
  p_ : ps.length = i
  b_ : bs.length = i
  base : ∀ (k : Nat) (r : R), rs[k]? = some r → 0 ≤ r.xa ∧ r.xa < 60 ∧ 0 ≤ r.ya ∧ r.ya < 3 ∧ r.gl = (k : Int) + 5
  fresh : ∀ (k : Nat) (r : R), i ≤ k → rs[k]? = some r → r.pa = 0
  link : ∀ (k : Nat) (r : R) (p : Option Nat) (b : Str), rs[k]? = some r → ps[k]? = some p → bs[k]? = some b → Link n k r p b
theorem ParF.next {n i : Nat} {rs : List R} {ps : List (Option Nat)} {bs : List Str} (h : ParF n i rs ps bs) {r r' : R} {p : Option Nat} {b : Str} (hr : rs[i]? = some r) (e1 : r'.xa = r.xa) (e2 : r'.ya = r.ya) (e3 : r'.gl = r.gl) (hl : Link n i r' p b) :
    ParF n (i + 1) (rs.set i r') (ps ++ [p]) (bs ++ [b]) := by
  have hi : i < rs.length := (List.getElem?_eq_some_iff.mp hr).1
  refine ⟨by simp [h.n_], by simp [h.p_], by simp [h.b_], ?_, ?_, ?_⟩
  · intro k q hq
    by_cases e : i = k
    · subst e
      rw [List.getElem?_set_self hi] at hq
      cases hq
      rw [e1, e2, e3]
      exact h.base i r hr
    · rw [List.getElem?_set_ne e] at hq
      exact h.base k q hq
  · intro k q hk hq
    rw [List.getElem?_set_ne (by omega)] at hq
    exact h.fresh k q (by omega) hq
  · intro k q p' b' hq hp hb
    by_cases e : i = k
    · subst e
      rw [List.getElem?_set_self hi] at hq
      cases hq
      rw [← h.p_, List.getElem?_concat_length] at hp
      cases hp
      rw [← h.b_, List.getElem?_concat_length] at hb
      cases hb
      exact hl
    · rw [List.getElem?_set_ne e] at hq
      have hk : k < i := by
        have := (List.getElem?_eq_some_iff.mp hp).1
        simp [h.p_] at this
        omega
      rw [List.getElem?_append_left (by rw [h.p_]; exact hk)] at hp
      rw [List.getElem?_append_left (by rw [h.b_]; exact hk)] at hb
      exact h.link k q p' b' hq hp hb

def ParM (pn li lpa lbo : Addr) (bw : Bool) (n : Nat) (m : Str → Option Value) : Prop :=
  m (Str.ofString "pen") = some (.ref pn) ∧ (∃ t, m (Str.ofString "count") = some (.int (n : Int) t)) ∧ m (Str.ofString "is_backward") = some (.bool bw) ∧ m (Str.ofString "infos") = some (.ref li) ∧ m (Str.ofString "parents") = some (.ref lpa) ∧ m (Str.ofString "bonds") = some (.ref lbo)

inductive ParJ (P : Params) (pn cx li lpa lbo : Addr) (ys : List Value) (nc nl : Nat) (bw : Bool) (n : Nat) (cs0 : List Cell) (i : Nat) (m : Str → Option Value) (nw : List (Addr × Obj)) : Prop
  | mk (cs : List Cell) (rs : List R) (pv bv : List Value) (ps : List (Option Nat)) (bs : List Str) (gr st pl : Int) (t1 t2 t3 np k1 k2 : Nat) (f0 : nw = (lbo, listOf bv.toArray k2) :: (lpa, listOf pv.toArray k1) :: (pn, penO cx gr st pl t1 t2 t3 np) :: (cx, listOf ys.toArray nc) :: (li, listOf (rowOf cs).toArray nl) :: led cs) (f1 : ParM pn li lpa lbo bw n m) (f2 : SameXD cs0 cs) (f3 : Infos P cs rs) (f4 : ParF n i rs ps bs) (f5 : Paired PVal pv ps) (f6 : Paired BVal bv bs) (f7 : 0 ≤ gr) (f8 : gr < 10 ^ 240) (f9 : 0 ≤ st) (f10 : st < 2147483647) (f11 : 0 ≤ pl) (f12 : pl ≤ 40 + 4 * (i : Int))

theorem ParM.say {h₀ h : Heap} {L pn li lpa lbo : Addr} {bw : Bool} {n : Nat} {m : Str → Option Value} {x : Str} {u : Value} {t : Tok} (hM : ParM pn li lpa lbo bw n m) (hc : m (Str.ofString "count") = some (.int (n : Int) t)) (F : Fr h₀ L h (fun z => if z = x then some u else m z)) :
    Fr h₀ L h (fun z => if z = x then some u else if z = Str.ofString "pen" then some (.ref pn) else if z = Str.ofString "count" then some (.int (n : Int) t) else if z = Str.ofString "is_backward" then some (.bool bw) else if z = Str.ofString "infos" then some (.ref li) else if z = Str.ofString "parents" then some (.ref lpa) else if z = Str.ofString "bonds" then some (.ref lbo) else m z) := by
  obtain ⟨h1, _, h3, h4, h5, h6⟩ := hM
  have key : ∀ (m' : Str → Option Value) (y : Str) (v : Value), m' y = some v → (fun z => if z = y then some v else m' z) = m' := by
    intro m' y v hv
    funext z
    by_cases h1 : z = y
    · rw [if_pos h1, h1, hv]
    · rw [if_neg h1]
  have e : (fun z => if z = Str.ofString "pen" then some (Value.ref pn) else if z = Str.ofString "count" then some (.int (n : Int) t) else if z = Str.ofString "is_backward" then some (.bool bw) else if z = Str.ofString "infos" then some (.ref li) else if z = Str.ofString "parents" then some (.ref lpa) else if z = Str.ofString "bonds" then some (.ref lbo) else m z) = m := by
    have e6 := key m _ _ h6
    have e5 := key m _ _ h5
    have e4 := key m _ _ h4
    have e3 := key m _ _ h3
    have e2 := key m _ _ hc
    have e1 := key m _ _ h1
    funext z
    have f6 := congrFun e6 z
    have f5 := congrFun e5 z
    have f4 := congrFun e4 z
    have f3 := congrFun e3 z
    have f2 := congrFun e2 z
    have f1 := congrFun e1 z
    (try dsimp only at f1 f2 f3 f4 f5 f6 ⊢)
    rw [f6, f5, f4, f3, f2, f1]
  have e' : (fun z => if z = x then some u else if z = Str.ofString "pen" then some (Value.ref pn) else if z = Str.ofString "count" then some (.int (n : Int) t) else if z = Str.ofString "is_backward" then some (.bool bw) else if z = Str.ofString "infos" then some (.ref li) else if z = Str.ofString "parents" then some (.ref lpa) else if z = Str.ofString "bonds" then some (.ref lbo) else m z) = fun z => if z = x then some u else m z := by
    funext z
    have := congrFun e z
    (try dsimp only at this)
    rw [this]
  rw [e']; exact F

theorem par_turn {P : Params} {h₀ h' : Heap} {L I li lpa lbo pn cx d1 x1 : Addr} {s₁ : Shared} {tk : Nat} {it o o' : Obj} {cs0 cs : List Cell} {rs : List R} {r r' : R} {ys pv bv : List Value} {ps : List (Option Nat)} {bs : List Str} {v vb : Value} {p : Option Nat} {b : Str}
    {nc nl t1 t2 t3 np k1 k2 i n : Nat} {gr st pl : Int} {bw : Bool} {all : List (Addr × Obj)} {m' : Str → Option Value}
    (F : Fr h₀ L h' m') (N : News h₀ L h' all) (mI : (I, it) ∈ all) (mpn : (pn, penO cx gr st pl t1 t2 t3 np) ∈ all) (mcx : (cx, listOf ys.toArray nc) ∈ all) (mli : (li, listOf (rowOf cs).toArray nl) ∈ all)
    (mlpa : (lpa, listOf (pv.toArray.push v) k1) ∈ all) (mlbo : (lbo, listOf (bv.toArray.push vb) k2) ∈ all) (md : (d1, o') ∈ all) (mt : ∀ p ∈ rest_ d1 (led cs), p ∈ all)
    (hm : ParM pn li lpa lbo bw n m') (hit : it.cls = .type "range_iterator") (hci : cs[i]? = some ⟨x1, d1, o⟩) (hr : rs[i]? = some r) (hI : IsInfo P o' r') (hsame : SameXD cs0 cs) (hInf : Infos P cs rs) (hnd : (cs0.map (·.d)).Nodup) (hxd : ∀ c ∈ cs, c.x ≠ d1)
    (hF : ParF n i rs ps bs) (hpv : Paired PVal pv ps) (hbv : Paired BVal bv bs) (hv : PVal v p) (hvb : BVal vb b) (hl : Link n i r' p b) (e1 : r'.xa = r.xa) (e2 : r'.ya = r.ya) (e3 : r'.gl = r.gl)
    (g0 : 0 ≤ gr) (g1 : gr < 10 ^ 240) (s0 : 0 ≤ st) (s1 : st < 2147483647) (p0 : 0 ≤ pl) (p1 : pl ≤ 40 + 4 * ((i : Int) + 1)) :
    JEnd h₀ L s₁ I it (ParJ P pn cx li lpa lbo ys nc nl bw n cs0 (i + 1)) { s₁ with heap := h', toks := tk } := by
  have hs : SameXD cs (cs.set i ⟨x1, d1, o'⟩) := same_set hci
  have hInf' : Infos P (cs.set i ⟨x1, d1, o'⟩) (rs.set i r') := hInf.set i hI
  have hrow : rowOf (cs.set i ⟨x1, d1, o'⟩) = rowOf cs := hs.row
  refine JEnd.intro ((lbo, listOf (bv ++ [vb]).toArray k2) :: (lpa, listOf (pv ++ [v]).toArray k1) :: (pn, penO cx gr st pl t1 t2 t3 np) :: (cx, listOf ys.toArray nc) :: (li, listOf (rowOf (cs.set i ⟨x1, d1, o'⟩)).toArray nl) :: led (cs.set i ⟨x1, d1, o'⟩)) F N ?_ ?_
    ⟨cs.set i ⟨x1, d1, o'⟩, rs.set i r', pv ++ [v], bv ++ [vb], ps ++ [p], bs ++ [b], gr, st, pl, t1, t2, t3, np, k1, k2, rfl, hm, hsame.trans hs, hInf', hF.next hr e1 e2 e3 hl, Paired.snoc hpv hv, Paired.snoc hbv hvb, g0, g1, s0, s1, p0, by omega⟩
  · intro q hq
    rw [hrow] at hq
    simp only [List.mem_cons] at hq
    rcases hq with rfl | rfl | rfl | rfl | rfl | rfl | hq
    · exact mI
    · simpa using mlbo
    · simpa using mlpa
    · exact mpn
    · exact mcx
    · exact mli
    · have hnd' := hsame.nodup hnd
      have := led_set (oth := []) (o' := o') hci hnd' hxd (fun p hp => nomatch hp) q (List.mem_append_left _ hq)
      rw [List.append_nil] at this
      rcases List.mem_cons.mp this with rfl | h
      · exact md
      · exact mt q h
  · intro q hq
    rw [hit]
    simp only [List.mem_cons] at hq
    rcases hq with rfl | rfl | rfl | rfl | rfl | hq
    · exact .inr (fun e => absurd (Value.type.inj e) (by decide))
    · exact .inr (fun e => absurd (Value.type.inj e) (by decide))
    · exact .inr (fun e => absurd (Value.type.inj e) (by decide))
    · exact .inr (fun e => absurd (Value.type.inj e) (by decide))
    · exact .inr (fun e => absurd (Value.type.inj e) (by decide))
    · exact .inr (hInf'.off "range_iterator" (by decide) q hq)
theorem pv_some {z : Int} {t : Tok} (h : 0 ≤ z) : PVal (.int z t) (some z.toNat) := ⟨t, by rw [Int.toNat_of_nonneg h]⟩
theorem link_some {n k : Nat} {z : Int} {r : R} {b : Str} (h0 : 0 ≤ z) (h1 : z < (n : Int)) (h2 : z ≠ (k : Int)) (hp : r.pa = z - (k : Int)) (hb : r.bond = b) (hm : (b = Str.ofString "mark" ∧ z < (k : Int)) ∨ b = Str.ofString "cursive") : Link n k r (some z.toNat) b := by
  refine ⟨by omega, by rw [Int.toNat_of_nonneg h0]; exact hp, by omega, hb, hm.imp (fun h => ⟨h.1, by have := h.2; omega⟩) id⟩
theorem curs_ne {k n : Nat} {d : Int} (hk : k < n) (h0 : 0 ≤ d) (h1 : d < (n : Int) - 1) : ((k : Int) + 1 + d).fmod (n : Int) ≠ (k : Int) := by
  rw [Int.fmod_eq_emod_of_nonneg _ (by omega)]
  by_cases h : (k : Int) + 1 + d < (n : Int)
  · rw [Int.emod_eq_of_lt (by omega) h]; omega
  · have e : ((k : Int) + 1 + d) % (n : Int) = ((k : Int) + 1 + d - (n : Int)) % (n : Int) := by simp
    rw [e, Int.emod_eq_of_lt (by omega) (by omega)]; omega
theorem pv_none : PVal .none none := rfl
theorem link_zero {n k : Nat} {r : R} {b : Str} (h : r.pa = 0) : Link n k r none b := .inl h
theorem link_far {n k : Nat} {r : R} {b : Str} (h : (n : Int) ≤ (k : Int) + r.pa) : Link n k r none b := .inr h
theorem ParM.say0 {h₀ h : Heap} {L pn li lpa lbo : Addr} {bw : Bool} {n : Nat} {m : Str → Option Value} {t : Tok} (hM : ParM pn li lpa lbo bw n m) (hc : m (Str.ofString "count") = some (.int (n : Int) t)) (F : Fr h₀ L h m) :
    Fr h₀ L h (fun z => if z = Str.ofString "count" then some (.int (n : Int) t) else if z = Str.ofString "is_backward" then some (.bool bw) else if z = Str.ofString "infos" then some (.ref li) else if z = Str.ofString "parents" then some (.ref lpa) else if z = Str.ofString "bonds" then some (.ref lbo) else m z) :=
  fr_say _ ((if_neg (by decide)).trans ((if_neg (by decide)).trans ((if_neg (by decide)).trans ((if_neg (by decide)).trans hc))))
    (fr_say _ ((if_neg (by decide)).trans ((if_neg (by decide)).trans ((if_neg (by decide)).trans hM.2.2.1)))
      (fr_say _ ((if_neg (by decide)).trans ((if_neg (by decide)).trans hM.2.2.2.1)) (fr_say _ ((if_neg (by decide)).trans hM.2.2.2.2.1) (fr_say _ hM.2.2.2.2.2 F))))
/-- the fields that are told of an info -/
def tup4 (r : R) : List Dat := [.int r.xa, .int r.ya, .int r.xo, .int r.yo]
theorem map_tup4 (rs : List R) : (rs.map tup4).map Dat.tuple = rs.map tupR := by rw [List.map_map]; rfl
theorem TupEnd.intro {h₀ : Heap} {L I C D D2 : Addr} {m : Str → Option Value} {s₁ : Shared} {all all' : List (Addr × Obj)} {ds : List Dat} {h' : Heap} {tk n : Nat} {items : List Value} (F : Fr h₀ L h' m) (N : News h₀ L h' all') (hm : (D2, ({ cls := .type "tuple", data := .seq (List.toArray items) n } : Obj)) ∈ all') (hs : ∀ p ∈ all, p ∈ all')
    (hd : DatAll [] items ds) (h1 : @Ne Nat D2 I) (h2 : @Ne Nat D2 C) (h3 : @Ne Nat D2 D) : TupEnd h₀ L m s₁ I C D all ds (.ref D2) { s₁ with heap := h', toks := tk } :=
  ⟨h', tk, D2, items, n, rfl, rfl, F, news_sub N (fun p hp => by
    rcases List.mem_cons.mp hp with rfl | hp
    · exact hm
    · exact hs p hp), hd, h1, h2, h3⟩
theorem off_cells {P : Params} {h₀ h : Heap} {L : Addr} {all oth : List (Addr × Obj)} {cs : List Cell} {rs : List R} (N : News h₀ L h all) (hInf : Infos P cs rs) (hs : ∀ p ∈ led cs, p ∈ all) (ho : ∀ p ∈ oth, p ∈ all) (hc : ∀ p ∈ oth, p.2.cls ≠ .type "dict") : ∀ p ∈ oth, ∀ c ∈ cs, p.1 ≠ c.d := fun p hp c hcm => by
  obtain ⟨r, _, hI⟩ := hInf.mem hcm
  exact news_neC N (ho p hp) (hs _ (led_d hcm)) (by rw [hI.cls]; exact hc p hp)
theorem ParF.bounds {n i : Nat} {rs : List R} {ps : List (Option Nat)} {bs : List Str} (h : ParF n i rs ps bs) : ∀ r ∈ rs, 0 ≤ r.xa ∧ r.xa < 60 ∧ 0 ≤ r.ya ∧ r.ya < 3 := fun r hr => by
  obtain ⟨i, hi⟩ := List.getElem?_of_mem hr
  obtain ⟨a, b, c, d, _⟩ := h.base i r hi
  exact ⟨a, b, c, d⟩
theorem buf_news {P : Params} {h₀ h : Heap} {L bf db D lr : Addr} {o : Obj} {tl oth : List (Addr × Obj)} {cs : List Cell} {k1 k2 k3 t3 : Nat} {bw : Bool} (N : News h₀ L h ((bf, instObj 137 db) :: (db, bufO P k1 k2 k3 lr bw t3) :: (D, o) :: (tl ++ (led cs ++ oth)))) :
    ∃ j1 j2 j3 j4, News h₀ L h (led cs ++ ((bf, instObj 137 db) :: (db, bufO P j1 j2 j3 lr bw j4) :: (D, o) :: (tl ++ oth))) := ⟨k1, k2, k3, t3, news_sub N (fun p hp => by
      simp only [List.mem_cons, List.mem_append] at hp ⊢
      rcases hp with h | h | h | h | h | h <;> simp [h])⟩
def tup2 (r : R) : List Dat := [.int r.xa, .int r.ya]

section
variable {prog : Program} {w : World} {A : Around} {E : Value → Shared → Prop} {s : Shared} {h₀ : Heap} {L a b : Addr} {news : List (Addr × Obj)} {xs ys : List Value} {ka kb : Nat} {ds es : List Dat} {Q : Value → Shared → Prop}
theorem ne_same (N : News h₀ L s.heap news) (ma : (a, listOf xs.toArray ka) ∈ news) (Da : DatAll news xs ds) (mb : (b, listOf ys.toArray kb) ∈ news) (Db : DatAll news ys es) (he : ds = es) (ha : ∀ d ∈ ds, kqdOk 8 d = true) (hu : A.units + 64 < cLine) (h : Q (.bool false) s) :
    wpAny (model prog w) A (compareOp .NotEq (.ref a) (.ref b)) Q E s := by
  subst he
  refine kqd_ne N ma rfl rfl Da (fun _ hp => hp) mb rfl rfl Db (fun _ hp => hp) ha ha hu ?_
  simpa using h
theorem eq_same (N : News h₀ L s.heap news) (ma : (a, listOf xs.toArray ka) ∈ news) (Da : DatAll news xs ds) (mb : (b, listOf ys.toArray kb) ∈ news) (Db : DatAll news ys es) (he : ds = es) (ha : ∀ d ∈ ds, kqdOk 8 d = true) (hu : A.units + 64 < cLine) (h : Q (.bool true) s) :
    wpAny (model prog w) A (compareOp .Eq (.ref a) (.ref b)) Q E s := by
  subst he
  refine kqd_eq N ma rfl rfl Da (fun _ hp => hp) mb rfl rfl Db (fun _ hp => hp) ha ha hu ?_
  simpa using h
theorem ints_ne_same {ns ms : List Int} (N : News h₀ L s.heap news) (ma : (a, listOf xs.toArray ka) ∈ news) (hi : IntsAre xs ns) (mb : (b, listOf ys.toArray kb) ∈ news) (hj : IntsAre ys ms) (he : ns = ms) (hu : A.units + 64 < cLine) (h : Q (.bool false) s) :
    wpAny (model prog w) A (compareOp .NotEq (.ref a) (.ref b)) Q E s := by
  subst he
  refine ke_ne_ints ⟨_, (N _ ma).1, rfl, ka, rfl⟩ ⟨_, (N _ mb).1, rfl, kb, rfl⟩ hi hj hu ?_
  rw [decide_eq_true rfl]; exact h
end
theorem ok_tup2 (rs : List R) : ∀ d ∈ (rs.map tup2).map Dat.tuple, kqdOk 8 d = true := by
  intro d hd
  simp only [List.map_map, List.mem_map] at hd
  obtain ⟨r, _, rfl⟩ := hd
  rfl
theorem ok_tup4 (rs : List R) : ∀ d ∈ rs.map tupR, kqdOk 8 d = true := by
  intro d hd
  simp only [List.mem_map] at hd
  obtain ⟨r, _, rfl⟩ := hd
  rfl
theorem map_sameR {α : Type} {f : R → α} {rs rs₀ : List R} (hl : rs.length = rs₀.length) (h : ∀ (i : Nat) (r₀ r : R), rs₀[i]? = some r₀ → rs[i]? = some r → f r = f r₀) : rs.map f = rs₀.map f := by
  apply List.ext_getElem?
  intro i
  simp only [List.getElem?_map]
  cases h0 : rs₀[i]? with
  | none =>
    have : rs[i]? = none := by
      rw [List.getElem?_eq_none_iff] at h0 ⊢; omega
    rw [this]
  | some r₀ =>
    have hi : i < rs.length := by rw [hl]; exact (List.getElem?_eq_some_iff.mp h0).1
    have e : rs[i]? = some rs[i] := List.getElem?_eq_getElem hi
    rw [e]
    simp [h i r₀ rs[i] h0 e]
theorem Settled.tup2 {bw : Bool} {rs₀ rs : List R} (h : Settled bw rs₀ rs) : rs.map tup2 = rs₀.map tup2 := map_sameR h.len fun i r₀ r h0 h1 => by
  obtain ⟨a, b, _⟩ := h.at_ i r₀ r h0 h1
  unfold Mine.tup2; rw [a, b]
theorem glyphs_ {bw : Bool} {rs₀ rs : List R} {n i : Nat} {ps : List (Option Nat)} {bs : List Str} (h : Settled bw rs₀ rs) (hF : ParF n i rs₀ ps bs) : rs.map (·.gl) = rangeKs 5 n := by
  apply List.ext_getElem?
  intro k
  have hl : rs.length = n := h.len.trans hF.n_
  simp only [rangeKs, List.getElem?_map]
  by_cases hk : k < n
  · have hk1 : k < rs.length := by omega
    have hk0 : k < rs₀.length := by have := hF.n_; omega
    have e1 : rs[k]? = some rs[k] := List.getElem?_eq_getElem hk1
    have e0 : rs₀[k]? = some rs₀[k] := List.getElem?_eq_getElem hk0
    obtain ⟨_, _, g, _⟩ := h.at_ k _ _ e0 e1
    obtain ⟨_, _, _, _, g0⟩ := hF.base k _ e0
    rw [e1]
    simp [hk, g, g0, Int.add_comm]
  · have e1 : rs[k]? = none := List.getElem?_eq_none (by omega)
    have e2 : (List.range n)[k]? = none := List.getElem?_eq_none (by rw [List.length_range]; omega)
    rw [e1, e2]
    rfl
theorem zeros_ {bw : Bool} {rs₀ rs : List R} {n : Nat} (h : Settled bw rs₀ rs) (hn : rs.length = n) : rs.map (·.pa) = (List.replicate ((n : Int)).toNat [(0 : Int)]).flatten := by
  have e : (List.replicate ((n : Int)).toNat [(0 : Int)]).flatten = List.replicate n 0 := by
    rw [Int.toNat_natCast]
    clear hn
    induction n with
    | zero => rfl
    | succ n ih => rw [List.replicate_succ, List.flatten_cons, ih]; rfl
  rw [e]
  apply List.ext_getElem?
  intro k
  simp only [List.getElem?_map, List.getElem?_replicate]
  by_cases hk : k < n
  · have hk1 : k < rs.length := by omega
    have hk0 : k < rs₀.length := by have := h.len; omega
    have e1 : rs[k]? = some rs[k] := List.getElem?_eq_getElem hk1
    obtain ⟨_, _, _, _, g, _⟩ := h.at_ k _ _ (List.getElem?_eq_getElem hk0) e1
    rw [e1, if_pos hk]
    simp [g]
  · have e1 : rs[k]? = none := List.getElem?_eq_none (by omega)
    rw [e1, if_neg hk]
    rfl
/-- in the midst of a turn of the parents' loop: a goal has been drawn, or none -/
inductive MidP (h₀ : Heap) (L : Addr) (s : Shared) (pn cx li lpa lbo : Addr) (bw : Bool) (n i : Nat) (ys : List Value) (nc : Nat) (rest : List (Addr × Obj)) (f : Flow) (s₂ : Shared) : Prop
  | some (h' : Heap) (tk : Nat) (m : Str → Option Value) (g : Int) (t tp tb : Tok) (b : Str) (gr st pl : Int) (u1 u2 u3 np : Nat) (hf : f = .next) (hs : s₂ = { s with heap := h', toks := tk }) (F : Fr h₀ L h' m) (N : News h₀ L h' ((pn, penO cx gr st pl u1 u2 u3 np) :: (cx, listOf ys.toArray nc) :: rest)) (hm : ParM pn li lpa lbo bw n m) (hp : m (Str.ofString "place") = some (.int (i : Int) tp)) (hg : m (Str.ofString "goal") = some (.int g t)) (hb : m (Str.ofString "bond") = some (.str b tb)) (z0 : 0 ≤ g) (z1 : g < (n : Int)) (z2 : g ≠ (i : Int)) (hmode : (b = Str.ofString "mark" ∧ g < (i : Int)) ∨ b = Str.ofString "cursive") (g0 : 0 ≤ gr) (g1 : gr < 10 ^ 240) (s0 : 0 ≤ st) (s1 : st < 2147483647) (p0 : 0 ≤ pl) (p1 : pl ≤ 42 + 4 * (i : Int))
  | none (h' : Heap) (tk : Nat) (m : Str → Option Value) (d : Int) (td tp tb : Tok) (b : Str) (gr st pl : Int) (u1 u2 u3 np : Nat) (hf : f = .next) (hs : s₂ = { s with heap := h', toks := tk }) (F : Fr h₀ L h' m) (N : News h₀ L h' ((pn, penO cx gr st pl u1 u2 u3 np) :: (cx, listOf ys.toArray nc) :: rest)) (hm : ParM pn li lpa lbo bw n m) (hp : m (Str.ofString "place") = some (.int (i : Int) tp)) (hg : m (Str.ofString "goal") = some .none) (hb : m (Str.ofString "bond") = some (.str b tb)) (hd : m (Str.ofString "way") = some (.int d td)) (d0 : 0 ≤ d) (d1 : d < 4) (g0 : 0 ≤ gr) (g1 : gr < 10 ^ 240) (s0 : 0 ≤ st) (s1 : st < 2147483647) (p0 : 0 ≤ pl) (p1 : pl ≤ 42 + 4 * (i : Int))
theorem mid_mono {prog : Program} {w : World} {A : Around} {t : Sem Flow} {Q : Flow → Shared → Prop} {E : Value → Shared → Prop} {h₀ : Heap} {L : Addr} {m : Str → Option Value} {s : Shared} (F : Fr h₀ L s.heap m) (pn cx li lpa lbo : Addr) (bw : Bool) (n i : Nat) (ys : List Value) (nc : Nat) (rest : List (Addr × Obj))
    (first : wpAny (model prog w) A t (MidP h₀ L s pn cx li lpa lbo bw n i ys nc rest) E s) (later : ∀ f s₂, MidP h₀ L s pn cx li lpa lbo bw n i ys nc rest f s₂ → Q f s₂) : wpAny (model prog w) A t Q E s :=
  wpAny_mono first later fun _ _ e => e
theorem say_some {h₀ h : Heap} {L pn li lpa lbo : Addr} {bw : Bool} {n i : Nat} {m : Str → Option Value} {g : Int} {t tp tb : Tok} {b : Str} (hm : ParM pn li lpa lbo bw n m) (hp : m (Str.ofString "place") = some (.int (i : Int) tp)) (hg : m (Str.ofString "goal") = some (.int g t)) (hb : m (Str.ofString "bond") = some (.str b tb)) (F : Fr h₀ L h m) :
    Fr h₀ L h (fun z => if z = Str.ofString "goal" then some (.int g t) else if z = Str.ofString "place" then some (.int (i : Int) tp) else if z = Str.ofString "infos" then some (.ref li) else if z = Str.ofString "bond" then some (.str b tb) else if z = Str.ofString "parents" then some (.ref lpa) else if z = Str.ofString "bonds" then some (.ref lbo) else m z) :=
  (fr_say (Str.ofString "goal") ((if_neg (by decide)).trans ((if_neg (by decide)).trans ((if_neg (by decide)).trans ((if_neg (by decide)).trans ((if_neg (by decide)).trans hg))))) (fr_say (Str.ofString "place") ((if_neg (by decide)).trans ((if_neg (by decide)).trans ((if_neg (by decide)).trans ((if_neg (by decide)).trans hp)))) (fr_say (Str.ofString "infos") ((if_neg (by decide)).trans ((if_neg (by decide)).trans ((if_neg (by decide)).trans hm.2.2.2.1))) (fr_say (Str.ofString "bond") ((if_neg (by decide)).trans ((if_neg (by decide)).trans hb)) (fr_say (Str.ofString "parents") ((if_neg (by decide)).trans hm.2.2.2.2.1) (fr_say (Str.ofString "bonds") hm.2.2.2.2.2 F))))))
theorem say_none {h₀ h : Heap} {L pn li lpa lbo : Addr} {bw : Bool} {n i : Nat} {m : Str → Option Value} {d : Int} {td tp tb tc : Tok} {b : Str} (hm : ParM pn li lpa lbo bw n m) (hc : m (Str.ofString "count") = some (.int (n : Int) tc)) (hp : m (Str.ofString "place") = some (.int (i : Int) tp)) (hg : m (Str.ofString "goal") = some .none) (hb : m (Str.ofString "bond") = some (.str b tb)) (hd : m (Str.ofString "way") = some (.int d td)) (F : Fr h₀ L h m) :
    Fr h₀ L h (fun z => if z = Str.ofString "goal" then some (Value.none) else if z = Str.ofString "way" then some (.int d td) else if z = Str.ofString "pen" then some (.ref pn) else if z = Str.ofString "count" then some (.int (n : Int) tc) else if z = Str.ofString "place" then some (.int (i : Int) tp) else if z = Str.ofString "infos" then some (.ref li) else if z = Str.ofString "bond" then some (.str b tb) else if z = Str.ofString "parents" then some (.ref lpa) else if z = Str.ofString "bonds" then some (.ref lbo) else m z) :=
  (fr_say (Str.ofString "goal") ((if_neg (by decide)).trans ((if_neg (by decide)).trans ((if_neg (by decide)).trans ((if_neg (by decide)).trans ((if_neg (by decide)).trans ((if_neg (by decide)).trans ((if_neg (by decide)).trans ((if_neg (by decide)).trans hg)))))))) (fr_say (Str.ofString "way") ((if_neg (by decide)).trans ((if_neg (by decide)).trans ((if_neg (by decide)).trans ((if_neg (by decide)).trans ((if_neg (by decide)).trans ((if_neg (by decide)).trans ((if_neg (by decide)).trans hd))))))) (fr_say (Str.ofString "pen") ((if_neg (by decide)).trans ((if_neg (by decide)).trans ((if_neg (by decide)).trans ((if_neg (by decide)).trans ((if_neg (by decide)).trans ((if_neg (by decide)).trans hm.1)))))) (fr_say (Str.ofString "count") ((if_neg (by decide)).trans ((if_neg (by decide)).trans ((if_neg (by decide)).trans ((if_neg (by decide)).trans ((if_neg (by decide)).trans hc))))) (fr_say (Str.ofString "place") ((if_neg (by decide)).trans ((if_neg (by decide)).trans ((if_neg (by decide)).trans ((if_neg (by decide)).trans hp)))) (fr_say (Str.ofString "infos") ((if_neg (by decide)).trans ((if_neg (by decide)).trans ((if_neg (by decide)).trans hm.2.2.2.1))) (fr_say (Str.ofString "bond") ((if_neg (by decide)).trans ((if_neg (by decide)).trans hb)) (fr_say (Str.ofString "parents") ((if_neg (by decide)).trans hm.2.2.2.2.1) (fr_say (Str.ofString "bonds") hm.2.2.2.2.2 F)))))))))

end

section

theorem fin_of_path {rs : List R} {bw : Bool} {a c : Nat} {l : List Nat} (p : Path rs a l c) (hc : step rs c = none) (ha : a < rs.length) : ∃ x y, FinV rs bw a x y := by
  induction p with
  | nil a => exact ⟨_, _, .root (List.getElem?_eq_getElem ha) hc⟩
  | @cons a b c l h1 _ ih =>
    obtain ⟨x, y, hv⟩ := ih hc (step_lt h1)
    have hr : rs[a]? = some rs[a] := List.getElem?_eq_getElem ha
    cases hm : isMark rs[a] with
    | true => exact ⟨_, _, .mark hr h1 hm hv⟩
    | false => exact ⟨_, _, .curs hr h1 hm hv⟩
theorem path_next {rs : List R} {a b c : Nat} {l : List Nat} (p : Path rs a l c) (hc : step rs c = none) (hs : step rs a = some b) : ∃ l', Path rs b l' c := by
  cases p with
  | nil => rw [hs] at hc; cases hc
  | cons h1 p' => rw [hs] at h1; cases h1; exact ⟨_, p'⟩

section
variable {rs rs2 : List R} {bw : Bool} {i : Nat} {r0 r1 : R}
theorem law_none (h : Settled bw rs rs2) (h0 : rs[i]? = some r0) (h1 : rs2[i]? = some r1) (hs : step rs i = none) : tupR r0 = tupR r1 := by
  obtain ⟨a, b, _, _, _, g⟩ := h.at_ i r0 r1 h0 h1
  obtain ⟨c, d⟩ := g _ _ (.root h0 hs)
  unfold tupR; rw [a, b, c, d]

variable {g : Nat} {q0 q1 : R} {l : List Nat} {c : Nat}
theorem law_curs (h : Settled bw rs rs2) (h0 : rs[i]? = some r0) (h1 : rs2[i]? = some r1) (g1 : rs2[g]? = some q1) (hs : step rs i = some g) (hm : r0.bond = Str.ofString "cursive") (p : Path rs i l c) (hc : step rs c = none) : r1.xo = r0.xo ∧ r1.yo = r0.yo + q1.yo := by
  obtain ⟨l', p'⟩ := path_next p hc hs
  obtain ⟨x, y, hv⟩ := fin_of_path (bw := bw) p' hc (step_lt hs)
  have hgl := step_lt hs
  have hg0 : rs[g]? = some rs[g] := List.getElem?_eq_getElem hgl
  have hk : isMark r0 = false := by unfold isMark; rw [hm]; decide
  obtain ⟨_, _, _, _, _, f⟩ := h.at_ i r0 r1 h0 h1
  obtain ⟨_, _, _, _, _, f'⟩ := h.at_ g _ q1 hg0 g1
  obtain ⟨a, b⟩ := f _ _ (.curs h0 hs hk hv)
  obtain ⟨_, b'⟩ := f' _ _ hv
  rw [a, b, b']; exact ⟨rfl, rfl⟩
theorem sum_app (f : R → Int) (a b : List R) : ((a ++ b).map f).sum = (a.map f).sum + (b.map f).sum := by rw [List.map_append, List.sum_append]
theorem cut_take {f : R → Int} {g i : Nat} (h : g ≤ i) (rs : List R) : ((rs.take i).map f).sum = ((rs.take g).map f).sum + (((rs.take i).drop g).map f).sum := by
  have e : rs.take i = rs.take g ++ (rs.take i).drop g := by
    have := (List.take_append_drop g (rs.take i)).symm
    rwa [List.take_take, Nat.min_eq_left h] at this
  rw [← sum_app, ← e]
theorem cut_drop {f : R → Int} {g i : Nat} (h : g ≤ i) (rs : List R) : ((rs.drop (g + 1)).map f).sum = (((rs.take (i + 1)).drop (g + 1)).map f).sum + ((rs.drop (i + 1)).map f).sum := by
  have e : rs.drop (g + 1) = (rs.take (i + 1)).drop (g + 1) ++ rs.drop (i + 1) := by
    have h1 := (List.take_append_drop (i - g) (rs.drop (g + 1))).symm
    rw [List.drop_drop, show g + 1 + (i - g) = i + 1 by omega] at h1
    rw [List.drop_take, show i + 1 - (g + 1) = i - g by omega]
    exact h1
  rw [← sum_app, ← e]
theorem take_sx (h : g ≤ i) : takeX bw rs i g = SX bw rs i - SX bw rs g := by
  cases bw with
  | true =>
    have := cut_drop (f := (·.xa)) h rs
    simp only [takeX, SX, sumX, slice, if_true]
    omega
  | false =>
    have := cut_take (f := (·.xa)) h rs
    simp only [takeX, SX, sumX, slice, Bool.false_eq_true, if_false]
    omega
theorem take_sy (h : g ≤ i) : takeY bw rs i g = SY bw rs i - SY bw rs g := by
  cases bw with
  | true =>
    have := cut_drop (f := (·.ya)) h rs
    simp only [takeY, SY, sumY, slice, if_true]
    omega
  | false =>
    have := cut_take (f := (·.ya)) h rs
    simp only [takeY, SY, sumY, slice, Bool.false_eq_true, if_false]
    omega
theorem law_mark (h : Settled bw rs rs2) (h0 : rs[i]? = some r0) (h1 : rs2[i]? = some r1) (g1 : rs2[g]? = some q1) (hs : step rs i = some g) (hm : r0.bond = Str.ofString "mark") (hlt : g < i) (p : Path rs i l c) (hc : step rs c = none) :
    SX bw rs i + r1.xo = SX bw rs g + q1.xo + r0.xo ∧ SY bw rs i + r1.yo = SY bw rs g + q1.yo + r0.yo := by
  obtain ⟨l', p'⟩ := path_next p hc hs
  obtain ⟨x, y, hv⟩ := fin_of_path (bw := bw) p' hc (step_lt hs)
  have hgl := step_lt hs
  have hg0 : rs[g]? = some rs[g] := List.getElem?_eq_getElem hgl
  have hk : isMark r0 = true := by unfold isMark; rw [hm]; decide
  obtain ⟨_, _, _, _, _, f⟩ := h.at_ i r0 r1 h0 h1
  obtain ⟨_, _, _, _, _, f'⟩ := h.at_ g _ q1 hg0 g1
  obtain ⟨a, b⟩ := f _ _ (.mark h0 hs hk hv)
  obtain ⟨a', b'⟩ := f' _ _ hv
  rw [a, b, a', b', take_sx (Nat.le_of_lt hlt), take_sy (Nat.le_of_lt hlt)]
  exact ⟨by omega, by omega⟩
end

/-- settled once more, nothing changes -/
theorem law_again {bw bw' : Bool} {rs rs2 rs3 : List R} (h : Settled bw rs rs2) (h' : Settled bw' rs2 rs3) : rs3.map tupR = rs2.map tupR := map_sameR h'.len fun i r₀ r h0 h1 => by
  obtain ⟨a, b, _, _, _, f⟩ := h'.at_ i r₀ r h0 h1
  have hi : i < rs.length := by rw [← h.len]; exact (List.getElem?_eq_some_iff.mp h0).1
  obtain ⟨_, _, _, _, p, _⟩ := h.at_ i _ r₀ (List.getElem?_eq_getElem hi) h0
  obtain ⟨c, d⟩ := f _ _ (.root h0 (step_zero h0 p))
  unfold tupR; rw [a, b, c, d]

section
variable {prog : Program} {w : World} {A : Around} {E : Value → Shared → Prop} {s : Shared} {h₀ : Heap} {L : Addr} {news : List (Addr × Obj)} {va vb : Value} {d e : Dat} {Q : Value → Shared → Prop}
theorem ne_same_dat (N : News h₀ L s.heap news) (Da : DatIn news va d) (Db : DatIn news vb e) (he : d = e) (hk : kqdOk 8 d = true) (hu : A.units + 64 < cLine) (h : Q (.bool false) s) : wpAny (model prog w) A (compareOp .NotEq va vb) Q E s := by
  subst he
  obtain ⟨as, ra⟩ := kqd_in N 8 Da hk
  obtain ⟨bs, rb⟩ := kqd_in N 8 Db hk
  have l := kqd_lay 8 d hk
  have sh : SeqAt.shaped (kqdP d) = true := by unfold SeqAt.shaped; rw [l.1, Bool.true_and]; exact decide_eq_true (Nat.le_trans l.2 (by decide))
  have q : PyData.eqv (kqdP d) (kqdP d) = true := (kqd_eqv 8 d d 8 hk hk).mpr rfl
  exact ne_dataH ra rb sh sh hu (by rw [q]; exact h)
end
inductive ItemAt (news : List (Addr × Obj)) (vs : List Value) (i : Nat) (r : R) : Prop
  | mk (a : Addr) (n : Nat) (t1 t2 t3 t4 : Tok) (e : vs[i]? = some (.ref a)) (d : DatIn news (.ref a) (tupR r)) (m : (a, ({ cls := .type "tuple", data := .seq [.int r.xa t1, .int r.ya t2, .int r.xo t3, .int r.yo t4].toArray n } : Obj)) ∈ news)
inductive SumAt (news : List (Addr × Obj)) (fs : List Value) (bw : Bool) (rs : List R) (i : Nat) : Prop
  | mk (a : Addr) (k : Nat) (t1 t2 : Tok) (e : fs[i]? = some (.ref a)) (m : (a, ({ cls := .type "tuple", data := .seq [.int (SX bw rs i) t1, .int (SY bw rs i) t2].toArray k } : Obj)) ∈ news)
theorem dat_item {news : List (Addr × Obj)} {vs : List Value} {rs : List R} (h : DatAll news vs (rs.map tupR)) {i : Nat} {r : R} (hr : rs[i]? = some r) :
    ItemAt news vs i r := by
  have hi : i < vs.length := by rw [dat_len h, List.length_map]; exact (List.getElem?_eq_some_iff.mp hr).1
  have hv : vs[i]? = some vs[i] := List.getElem?_eq_getElem hi
  obtain ⟨d, hd, hin⟩ := dat_get h hv
  rw [List.getElem?_map, hr] at hd
  cases hd
  obtain ⟨a, n, t1, t2, t3, t4, e, hm⟩ := tup_at hin
  exact ⟨a, n, t1, t2, t3, t4, by rw [hv, e], e ▸ hin, hm⟩
theorem dat_sum {news : List (Addr × Obj)} {fs : List Value} {bw : Bool} {rs : List R} {n : Nat} (h : DatAll news fs ((List.range n).map (tupS bw rs))) {i : Nat} (hi : i < n) :
    SumAt news fs bw rs i := by
  have hl : i < fs.length := by rw [dat_len h, List.length_map, List.length_range]; exact hi
  have hv : fs[i]? = some fs[i] := List.getElem?_eq_getElem hl
  obtain ⟨d, hd, hin⟩ := dat_get h hv
  rw [List.getElem?_map, List.getElem?_range hi] at hd
  cases hd
  generalize fs[i] = v at hv hin
  obtain ⟨a, ws, n, rfl, hm, h0⟩ := dat_tup hin
  obtain ⟨t1, ws1, rfl, h1⟩ := dat_more h0
  obtain ⟨t2, ws2, rfl, h2⟩ := dat_more h1
  cases dat_end h2
  exact ⟨a, n, t1, t2, hv, hm⟩
def ChkM (lpa lbo la lr lf bf : Addr) (m : Str → Option Value) : Prop :=
  m (Str.ofString "parents") = some (.ref lpa) ∧ m (Str.ofString "bonds") = some (.ref lbo) ∧ m (Str.ofString "after") = some (.ref la) ∧ m (Str.ofString "rows") = some (.ref lr) ∧ m (Str.ofString "sums") = some (.ref lf) ∧ m (Str.ofString "buffer") = some (.ref bf)
theorem ChkM.say {h₀ h : Heap} {L lpa lbo la lr lf bf : Addr} {m : Str → Option Value} {x : Str} {u : Value} (hM : ChkM lpa lbo la lr lf bf m) (F : Fr h₀ L h (fun z => if z = x then some u else m z)) :
    Fr h₀ L h (fun z => if z = x then some u else if z = Str.ofString "parents" then some (.ref lpa) else if z = Str.ofString "bonds" then some (.ref lbo) else if z = Str.ofString "after" then some (.ref la) else if z = Str.ofString "rows" then some (.ref lr) else if z = Str.ofString "sums" then some (.ref lf) else if z = Str.ofString "buffer" then some (.ref bf) else m z) := by
  obtain ⟨h1, h2, h3, h4, h5, h6⟩ := hM
  exact (fr_say2 _ ((if_neg (by decide)).trans ((if_neg (by decide)).trans ((if_neg (by decide)).trans ((if_neg (by decide)).trans ((if_neg (by decide)).trans h1))))) (fr_say2 _ ((if_neg (by decide)).trans ((if_neg (by decide)).trans ((if_neg (by decide)).trans ((if_neg (by decide)).trans h2)))) (fr_say2 _ ((if_neg (by decide)).trans ((if_neg (by decide)).trans ((if_neg (by decide)).trans h3))) (fr_say2 _ ((if_neg (by decide)).trans ((if_neg (by decide)).trans h4)) (fr_say2 _ ((if_neg (by decide)).trans h5) (fr_say2 _ h6 F))))))
theorem ChkM.say0 {h₀ h : Heap} {L lpa lbo la lr lf bf : Addr} {m : Str → Option Value} (hM : ChkM lpa lbo la lr lf bf m) (F : Fr h₀ L h m) :
    Fr h₀ L h (fun z => if z = Str.ofString "parents" then some (.ref lpa) else if z = Str.ofString "bonds" then some (.ref lbo) else if z = Str.ofString "after" then some (.ref la) else if z = Str.ofString "rows" then some (.ref lr) else if z = Str.ofString "sums" then some (.ref lf) else if z = Str.ofString "buffer" then some (.ref bf) else m z) := by
  obtain ⟨h1, h2, h3, h4, h5, h6⟩ := hM
  exact (fr_say _ ((if_neg (by decide)).trans ((if_neg (by decide)).trans ((if_neg (by decide)).trans ((if_neg (by decide)).trans ((if_neg (by decide)).trans h1))))) (fr_say _ ((if_neg (by decide)).trans ((if_neg (by decide)).trans ((if_neg (by decide)).trans ((if_neg (by decide)).trans h2)))) (fr_say _ ((if_neg (by decide)).trans ((if_neg (by decide)).trans ((if_neg (by decide)).trans h3))) (fr_say _ ((if_neg (by decide)).trans ((if_neg (by decide)).trans h4)) (fr_say _ ((if_neg (by decide)).trans h5) (fr_say _ h6 F))))))
theorem chk_end {h₀ h' : Heap} {L I lpa lbo la lr lf bf : Addr} {s₁ : Shared} {tk : Nat} {it : Obj} {all : List (Addr × Obj)} {al : List (Addr × Obj)} {m' : Str → Option Value} (F : Fr h₀ L h' m') (N : News h₀ L h' al) (hs : ∀ p ∈ (I, it) :: all, p ∈ al) (hI : ∀ p ∈ all, p.1 < I) (hM : ChkM lpa lbo la lr lf bf m') :
    JEnd h₀ L s₁ I it (fun m nw => nw = all ∧ ChkM lpa lbo la lr lf bf m) { s₁ with heap := h', toks := tk } :=
  JEnd.intro all F N hs (fun p hp => .inl (Nat.ne_of_lt (hI p hp))) ⟨rfl, hM⟩
theorem ParF.steps {n : Nat} {rs : List R} {ps : List (Option Nat)} {bs : List Str} (h : ParF n n rs ps bs) : ∀ k q, ps[k]? = some q → step rs k = q := fun k q hq => by
  have hk : k < n := by have := (List.getElem?_eq_some_iff.mp hq).1; rw [h.p_] at this; exact this
  have h0 : k < rs.length := by rw [h.n_]; exact hk
  have hb : k < bs.length := by rw [h.b_]; exact hk
  have hl := h.link k _ q _ (List.getElem?_eq_getElem h0) hq (List.getElem?_eq_getElem hb)
  have e := h.n_
  subst e
  exact hl.step (List.getElem?_eq_getElem h0)
theorem unr_end {h₀ h' : Heap} {L I9 : Addr} {s₁ : Shared} {o' : Obj} {tk : Nat} {rest : (Str → Option Value) → List (Addr × Obj) → Prop} {news' : List (Addr × Obj)} {m' : Str → Option Value} (F : Fr h₀ L h' m') (N : News h₀ L h' ((I9, o') :: news')) (l : ∀ p ∈ news', p.1 < I9) (r : rest m' news') :
    UnrEndW h₀ L s₁ [(I9, o')] rest { s₁ with heap := h', toks := tk } :=
  ⟨h', tk, m', news', rfl, F, N, fun p hp q hq => by rw [List.mem_singleton.mp hq]; exact Nat.ne_of_lt (l p hp), r⟩
theorem Settled.bounds {bw : Bool} {rs₀ rs : List R} (h : Settled bw rs₀ rs) (hb : ∀ r ∈ rs₀, 0 ≤ r.xa ∧ r.xa < 60 ∧ 0 ≤ r.ya ∧ r.ya < 3) : ∀ r ∈ rs, 0 ≤ r.xa ∧ r.xa < 60 ∧ 0 ≤ r.ya ∧ r.ya < 3 := fun r hr => by
  obtain ⟨i, hi⟩ := List.getElem?_of_mem hr
  have hl : i < rs₀.length := by rw [← h.len]; exact (List.getElem?_eq_some_iff.mp hi).1
  have h0 : rs₀[i]? = some rs₀[i] := List.getElem?_eq_getElem hl
  obtain ⟨e1, e2, _⟩ := h.at_ i _ _ h0 hi
  rw [e1, e2]
  exact hb _ (List.mem_of_getElem? h0)

end

section
theorem still_LZ : True := by
  w_top off
  trivial
local macro_rules | `(tactic| walk_at "pyIter ref") => `(tactic| ((with_reducible show wpAny _ _ (pyIter (Value.ref _)) (fun it s₂ => LoopAtV _ _ _ _ _ _ _ _ _ it s₂) _ _); refine stop_ ?_))
local macro_rules | `(tactic| walk_at "call ref") => `(tactic| ((fail_if_success (with_reducible show wpAny _ _ (call (Value.ref 137) _) _ _ _)); refine stop_ ?_))
local macro_rules | `(tactic| walk_at "compareOp NotEq ref ref") => `(tactic| refine stop_ ?_)
local macro_rules | `(tactic| walk_at "compareOp Eq ref ref") => `(tactic| refine stop_ ?_)
def MarkGo : Prop := True
local macro_rules | `(tactic| walk_at "exec If") => `(tactic| ((rename MarkGo => hgo9); clear hgo9; refine stop_ ?_))
set_option maxRecDepth 100000 in
set_option maxHeartbeats 8000000 in
theorem top_ : PySem.Challenge.rw_nu0151_01.Holds := hd (by
  k_go0
  all_goals try k_fold
  rename World => wd
  k_steps
  refine Stop.go ?_
  k_dflt (refine' pen_use ?qN ?qB ?qhl ?qhi ?qlen ?qF ?qX ?qT ?qk ?qd ?qu ?_)
  case qN => k_asm
  case qhl => assumption
  case qhi => assumption
  case qlen => omega
  case qB => k_asm
  case qF => k_asm
  case qX => k_asm
  case qT => k_asm
  case qk => first | exact rfl | assumption
  case qd => ktr_room
  case qu => ktr_units
  intro pn cx gr st t1 t2 t3 n nc ys ms h2 tk2 hys hms hP hcp F2 N2
  obtain ⟨hg, hg', hs0, hs1, hp0, hp1⟩ := hP
  dsimp only
  k_steps
  iterate 2 (refine Stop.go ?_; k_dflt (refine draw_use (by first | exact pre0 (by k_asm) | exact pre1 (by k_asm) | exact pre2 (by k_asm) | exact pre3 (by k_asm) | exact pre4 (by k_asm) | exact pre5 (by k_asm)) (by k_asm) (by k_asm) (by k_asm) (by k_asm) (by first | exact rfl | assumption) (by ktr_room) (by ktr_units) (by assumption) (by assumption) ⟨by assumption, by assumption, by assumption, by assumption, by omega, by omega⟩ (by first | decide | omega) (by first | decide | omega) (by first | assumption | exact Nat.ne_of_lt (by assumption)) (by k_all) (by k_all) ?_); intro _ _ _ _ _ _ _ _ _ _ _ _ _ _ _ _ F9 N9; (try dsimp only [List.nil_append, List.cons_append] at N9); k_sweep; (try dsimp only); (try k_fold); k_steps)
  rename_i d2 ta9 tb9 tc9 td9 n9 g9 g8 s9 s8 d8 d7 h' F' N'
  obtain ⟨bw, hbw⟩ : ∃ b : Bool, b = (d2 == 1) := ⟨_, rfl⟩
  rw [← hbw] at F'
  clear hbw
  rename _ < (8 : Int) => hd7
  refine Stop.go ?_
  k_dflt (refine' Ctr.use' (infos (news := []) ?qi ?qlen ?qP ?qa ?qb ?qc ?qne ?qoff) ?qN ?qB ?qF ?qX ?qT ?qk ?qd ?qu ?_)
  case qN => k_asm
  case qB => k_asm
  case qF => k_asm
  case qX => k_asm
  case qT => k_asm
  case qk => first | exact rfl | assumption
  case qd => ktr_room
  case qu => ktr_units
  case qi => assumption
  case qlen => assumption
  case qP => exact ⟨by assumption, by assumption, by assumption, by assumption, by omega, by omega⟩
  case qa => omega
  case qb => exact Stop.go (by omega)
  case qc => omega
  case qne => exact Nat.ne_of_lt hcp
  case qoff => exact List.forall_mem_nil _
  rintro v9 h9 tk9 nw9 ⟨cs, rs, gr, st, t1, t2, t3, n, nl, li, rfl, rfl, l1, l2, l3, l4, hlen, hInf, hfr, hnd, g0, g1, s0, s1⟩ F9 N9
  rw [← hlen] at F9 N9
  have h8 : Stop (rs.length ≤ 8) := by show rs.length ≤ 8; omega
  have h1 : 1 ≤ rs.length := by omega
  have hz : rs.length ≤ 1000 := Nat.le_trans h8 (by decide)
  clear hlen hd7
  rw [List.append_nil] at N9
  k_sweep
  dsimp only
  k_steps
  rename_i lpa hA l1a hB tkB lbo hC l1b hD FD ND hE tkE tE uE vE rg F1 N1 stE
  replace N1 := news_pick (p := (lbo, listOf #[] 0)) N1 (by repeat (first | exact .head _ | apply List.Mem.tail)) (news_pick (p := (lpa, listOf #[] 0)) N1 (by repeat (first | exact .head _ | apply List.Mem.tail)) (news_pick (p := (pn, penO cx gr st (0 + 1 + 1 + 4 * (rs.length : Int)) t1 t2 t3 n)) N1 (by repeat (first | exact .head _ | apply List.Mem.tail)) (news_pick (p := (cx, listOf ys.toArray nc)) N1 (by repeat (first | exact .head _ | apply List.Mem.tail)) (news_pick (p := (li, listOf (rowOf cs).toArray nl)) N1 (by repeat (first | exact .head _ | apply List.Mem.tail)) (news_sub (l' := led cs) N1 (fun p hp => by repeat (first | exact hp | apply List.Mem.tail)))))))
  refine Stop.go (iter_rangeJ (n := rs.length) (ParJ wd.params pn cx li lpa lbo ys nc nl bw rs.length cs) (by rfl) rg ?qsmall ?qsize F1 N1 ?qh0 ?qturn ?qdone)
  case qsmall => exact small_one (by decide) (by decide) (by omega) (by omega)
  case qsize => rw [rangeSize_nat, Int.sub_zero]; omega
  case qh0 =>
    have h8' : rs.length ≤ 8 := h8
    exact ⟨cs, rs, [], [], [], [], gr, st, _, t1, t2, t3, n, 0, 0, rfl, ⟨by with_unfolding_all rfl, ⟨_, by with_unfolding_all rfl⟩, by with_unfolding_all rfl, by with_unfolding_all rfl, by with_unfolding_all rfl, by with_unfolding_all rfl⟩, .refl _, hInf,
      ⟨rfl, rfl, rfl, fun k r e => let h := hfr k r e; ⟨h.1, h.2.1, h.2.2.1, h.2.2.2.1, h.2.2.2.2.2.2⟩, fun k r _ e => (hfr k r e).2.2.2.2.1, fun k r p b _ hp _ => by simp at hp⟩, .nil, .nil, g0, g1, s0, s1, by omega, by omega⟩
  case qturn =>
    rintro I i m2 nw2 t2' h2' tk2' hI hin ⟨cs', rs', pv, bv, ps, bs, gr2, st2, pl2, u1, u2, u3, np2, k1, k2, rfl, hM, hxd, hInf', hF, hpv, hbv, g0', g1', s0', s1', p0', p1'⟩ F N
    clear F1 N1 rg FD ND stE
    rw [Int.zero_add] at F
    obtain ⟨tc, hcnt⟩ := hM.2.1
    replace F := hM.say hcnt F
    have hi8 : i < 8 := Nat.lt_of_lt_of_le hin h8
    have hn8 : (rs.length : Int) ≤ 8 := Int.ofNat_le.mpr h8
    obtain ⟨r, hr⟩ : ∃ r, rs'[i]? = some r := ⟨_, List.getElem?_eq_getElem (by rw [hF.n_]; exact hin)⟩
    obtain ⟨⟨x1, d1, o1⟩, hci, hI1⟩ := hInf'.getR hr
    dsimp only at hI1
    have hcm := List.mem_of_getElem? hci
    have hled : ∀ p ∈ led cs', p ∈ (I, itR (0 + ((i + 1 : Nat) : Int)) ((rs.length : Int) - ((i + 1 : Nat) : Int))) :: (lbo, listOf bv.toArray k2) :: (lpa, listOf pv.toArray k1) :: (pn, penO cx gr2 st2 pl2 u1 u2 u3 np2) :: (cx, listOf ys.toArray nc) :: (li, listOf (rowOf cs').toArray nl) :: led cs' :=
      fun p hp => .tail _ (.tail _ (.tail _ (.tail _ (.tail _ (.tail _ hp)))))
    have hx := cells_xd N hled hInf'
    have hx1 : ∀ c ∈ cs', c.x ≠ d1 := fun c hc => hx c hc _ hcm
    have md := hled _ (led_d hcm)
    have hcl : o1.cls = .type "dict" := hI1.cls
    obtain ⟨cd, hcd, hcd'⟩ := hxd.memd hcm
    dsimp only at hcd'
    have c1 : @LT.lt Nat _ li d1 := by rw [← hcd']; exact l4 _ (led_d hcd)
    have c2 : @LT.lt Nat _ d1 lpa := by rw [← hcd']; exact ktn_ltOf l1a.2.2.2 _ (led_d hcd)
    have c3 : @LT.lt Nat _ lpa lbo := l1b.1
    have c4 : @LT.lt Nat _ lbo I := hI _ (.head _)
    clear hcd hcd'
    have hls : ∀ (a : Addr) (vs : List Value) (k : Nat), (a, listOf vs.toArray k) ∈ (I, itR (0 + ((i + 1 : Nat) : Int)) ((rs.length : Int) - ((i + 1 : Nat) : Int))) :: (lbo, listOf bv.toArray k2) :: (lpa, listOf pv.toArray k1) :: (pn, penO cx gr2 st2 pl2 u1 u2 u3 np2) :: (cx, listOf ys.toArray nc) :: (li, listOf (rowOf cs').toArray nl) :: led cs' →
        ∀ p ∈ led cs', p.1 ≠ a := fun a vs k ma p hp => news_neC N (hled p hp) ma (hInf'.off "list" (by decide) p hp)
    have g2 : ∀ p ∈ (li, listOf (rowOf cs').toArray nl) :: rest_ d1 (led cs'), p.1 ≠ lbo := pre_cons (Nat.ne_of_lt l1b.2.1) fun p hp => hls _ _ _ (.tail _ (.head _)) p (mem_rest.mp hp).1
    have g3 : ∀ p ∈ (li, listOf (rowOf cs').toArray nl) :: rest_ d1 (led cs'), p.1 ≠ lpa := pre_cons (Nat.ne_of_lt l1a.1) fun p hp => hls _ _ _ (.tail _ (.tail _ (.head _))) p (mem_rest.mp hp).1
    have g4 : ∀ p ∈ (li, listOf (rowOf cs').toArray nl) :: rest_ d1 (led cs'), p.1 ≠ pn := pre_cons (Nat.ne_of_gt l1) fun p hp => hls _ _ _ (.tail _ (.tail _ (.tail _ (.head _)))) p (mem_rest.mp hp).1
    have g6 : ∀ p ∈ (li, listOf (rowOf cs').toArray nl) :: rest_ d1 (led cs'), p.1 ≠ d1 := pre_cons (Nat.ne_of_lt c1) rest_off
    have mli : (li, listOf (rowOf cs').toArray nl) ∈ (li, listOf (rowOf cs').toArray nl) :: rest_ d1 (led cs') := .head _
    have mx1 : (x1, instObj 87 d1) ∈ (li, listOf (rowOf cs').toArray nl) :: rest_ d1 (led cs') := .tail _ (mem_rest.mpr ⟨led_x (c := ⟨x1, d1, o1⟩) hcm, hx1 _ hcm⟩)
    have hxi : (rowOf cs')[i]? = some (.ref x1) := rowOf_get hci
    have N4 := news_pick (p := (pn, penO cx gr2 st2 pl2 u1 u2 u3 np2)) N (by repeat (first | exact .head _ | apply List.Mem.tail)) (news_pick (p := (cx, listOf ys.toArray nc)) N (by repeat (first | exact .head _ | apply List.Mem.tail)) (news_pick N md (news_pick (p := (lpa, listOf pv.toArray k1)) N (by repeat (first | exact .head _ | apply List.Mem.tail)) (news_pick (p := (lbo, listOf bv.toArray k2)) N (by repeat (first | exact .head _ | apply List.Mem.tail)) (news_pick (p := (I, itR (0 + ((i + 1 : Nat) : Int)) ((rs.length : Int) - ((i + 1 : Nat) : Int)))) N (by repeat (first | exact .head _ | apply List.Mem.tail)) (news_pick (p := (li, listOf (rowOf cs').toArray nl)) N (by repeat (first | exact .head _ | apply List.Mem.tail)) (news_sub (l' := rest_ d1 (led cs')) N (fun p hp => hled p (mem_rest.mp hp).1))))))))
    clear N hled hls md
    obtain ⟨tl, htl⟩ : ∃ l, l = (li, listOf (rowOf cs').toArray nl) :: rest_ d1 (led cs') := ⟨_, rfl⟩
    rw [← htl] at N4 g2 g3 g4 g6 mli mx1
    obtain ⟨it, hit⟩ : ∃ o, o = itR (0 + ((i + 1 : Nat) : Int)) ((rs.length : Int) - ((i + 1 : Nat) : Int)) := ⟨_, rfl⟩
    have hic : it.cls = .type "range_iterator" := by rw [hit]; rfl
    rw [← hit] at N4 ⊢
    clear hit
    clear l1a l1b l2
    replace hI := Stop.go hI
    replace hxd := Stop.go hxd
    replace hx1 := Stop.go hx1
    clear hx
    replace hF := Stop.go hF
    have hpl : pv.length = i := (Paired.length hpv).trans hF.p_
    have hbl : bv.length = i := (Paired.length hbv).trans hF.b_
    have y1 : @LT.lt Nat _ pn d1 := Nat.lt_trans l1 c1
    have y2 : @LT.lt Nat _ pn lpa := Nat.lt_trans y1 c2
    have y3 : @LT.lt Nat _ pn lbo := Nat.lt_trans y2 c3
    have y4 : @LT.lt Nat _ pn I := Nat.lt_trans y3 c4
    have y5 : @LT.lt Nat _ cx d1 := Nat.lt_trans hcp y1
    have y6 : @LT.lt Nat _ cx lpa := Nat.lt_trans y5 c2
    have y7 : @LT.lt Nat _ cx lbo := Nat.lt_trans y6 c3
    have y8 : @LT.lt Nat _ cx I := Nat.lt_trans y7 c4
    have y9 : @LT.lt Nat _ d1 lbo := Nat.lt_trans c2 c3
    have y10 : @LT.lt Nat _ d1 I := Nat.lt_trans y9 c4
    have y11 : @LT.lt Nat _ lpa I := Nat.lt_trans c3 c4
    have g7 : ∀ p ∈ (d1, o1) :: (lpa, listOf pv.toArray k1) :: (lbo, listOf bv.toArray k2) :: (I, it) :: tl, p.1 ≠ pn := by k_all
    obtain ⟨rst, hrst⟩ : ∃ l, l = (d1, o1) :: (lpa, listOf pv.toArray k1) :: (lbo, listOf bv.toArray k2) :: (I, it) :: tl := ⟨_, rfl⟩
    rw [← hrst] at N4 g7
    have hgo : MarkGo := trivial
    k_steps
    refine Stop.go ?_; k_dflt (refine draw_use (by first | exact pre0 (by k_asm) | exact pre1 (by k_asm) | exact pre2 (by k_asm) | exact pre3 (by k_asm) | exact pre4 (by k_asm) | exact pre5 (by k_asm)) (by k_asm) (by k_asm) (by k_asm) (by k_asm) (by first | exact rfl | assumption) (by ktr_room) (by ktr_units) (by assumption) (by assumption) ⟨by assumption, by assumption, by assumption, by assumption, by omega, by omega⟩ (by first | decide | omega) (by first | decide | omega) (by first | assumption | exact Nat.ne_of_lt (by assumption)) (by k_all) (by k_all) ?_); intro _ _ _ _ _ _ _ _ _ _ _ _ _ _ _ _ F9 N9; (try dsimp only [List.nil_append, List.cons_append] at N9); k_sweep; (try dsimp only); (try k_fold); k_steps
    refine Stop.go ?_
    rename _ < (4 : Int) => hw4
    rename News _ _ _ _ => N5
    rename Fr _ _ _ _ => F5
    refine mid_mono F5 pn cx li lpa lbo bw rs.length i ys nc rst ?first ?later
    case first =>
      k_steps
      all_goals try (refine Stop.go ?_; k_dflt (refine draw_use (by first | exact pre0 (by k_asm) | exact pre1 (by k_asm) | exact pre2 (by k_asm) | exact pre3 (by k_asm) | exact pre4 (by k_asm) | exact pre5 (by k_asm)) (by k_asm) (by k_asm) (by k_asm) (by k_asm) (by first | exact rfl | assumption) (by ktr_room) (by ktr_units) (by assumption) (by assumption) ⟨by assumption, by assumption, by assumption, by assumption, by omega, by omega⟩ (by first | decide | omega) (by first | decide | omega) (by first | assumption | exact Nat.ne_of_lt (by assumption)) (by k_all) (by k_all) ?_); intro _ _ _ _ _ _ _ _ _ _ _ _ _ _ _ _ F9 N9; (try dsimp only [List.nil_append, List.cons_append] at N9); k_sweep; (try dsimp only); (try k_fold); k_steps)
      all_goals
        rename News _ _ _ _ => N9
        rename Fr _ _ _ _ => F9
        first
          | exact .none _ _ _ _ _ _ _ _ _ _ _ _ _ _ _ rfl rfl F9 N9 ⟨by with_unfolding_all rfl, ⟨_, by with_unfolding_all rfl⟩, by with_unfolding_all rfl, by with_unfolding_all rfl, by with_unfolding_all rfl, by with_unfolding_all rfl⟩ (by with_unfolding_all rfl) (by with_unfolding_all rfl) (by with_unfolding_all rfl) (by with_unfolding_all rfl) (by assumption) (by assumption) (by assumption) (by assumption) (by assumption) (by assumption) (by omega) (by omega)
          | exact .some _ _ _ _ _ _ _ _ _ _ _ _ _ _ _ rfl rfl F9 N9 ⟨by with_unfolding_all rfl, ⟨_, by with_unfolding_all rfl⟩, by with_unfolding_all rfl, by with_unfolding_all rfl, by with_unfolding_all rfl, by with_unfolding_all rfl⟩ (by with_unfolding_all rfl) (by with_unfolding_all rfl) (by with_unfolding_all rfl) (by omega) (by omega) (by omega) (.inl ⟨rfl, by omega⟩) (by assumption) (by assumption) (by assumption) (by assumption) (by omega) (by omega)
          | exact .some _ _ _ _ _ _ _ _ _ _ _ _ _ _ _ rfl rfl F9 N9 ⟨by with_unfolding_all rfl, ⟨_, by with_unfolding_all rfl⟩, by with_unfolding_all rfl, by with_unfolding_all rfl, by with_unfolding_all rfl, by with_unfolding_all rfl⟩ (by with_unfolding_all rfl) (by with_unfolding_all rfl) (by with_unfolding_all rfl) (fmod_0 (by omega)) (fmod_lt (by omega)) (curs_ne hin (by assumption) (by assumption)) (.inr rfl) (by assumption) (by assumption) (by assumption) (by assumption) (by omega) (by omega)
          | (exfalso; omega)
    case later =>
      clear F5 N5
      rintro f s₂ hMid
      rcases hMid with ⟨h5, tk5, m5, z5, tz5, tp5, tb5, b5, gr5, st5, pl5, u5, u6, u7, np5, rfl, rfl, F6, N6, hm5, hmp, hmg, hmb, z0, z1, z2, hmode, a1, a2, a3, a4, a5, a6⟩ | ⟨h5, tk5, m5, d5, td5, tp5, tb5, b5, gr5, st5, pl5, u5, u6, u7, np5, rfl, rfl, F6, N6, hm5, hmp, hmg, hmb, hmd, d50, d54, a1, a2, a3, a4, a5, a6⟩
      · dsimp only
        rw [hrst] at N6
        replace F6 := say_some hm5 hmp hmg hmb F6
        revert N6
        refine hI1.open_ ?_
        iterate 30 (intro _)
        intro N6
        k_steps
        rename News _ _ _ _ => N9
        rename Fr _ _ _ _ => F9
        subst htl
        exact par_turn F9 N9 (.tail _ (.tail _ (.tail _ (.tail _ (.tail _ (.head _)))))) (.head _) (.tail _ (.head _)) (.tail _ (.tail _ (.tail _ (.tail _ (.tail _ (.tail _ (.head _))))))) (.tail _ (.tail _ (.tail _ (.head _)))) (.tail _ (.tail _ (.tail _ (.tail _ (.head _))))) (.tail _ (.tail _ (.head _))) (fun p hp => .tail _ (.tail _ (.tail _ (.tail _ (.tail _ (.tail _ (.tail _ (hp)))))))) ⟨by with_unfolding_all exact hm5.1, ⟨_, by with_unfolding_all exact hm5.2.1.choose_spec⟩, by with_unfolding_all exact hm5.2.2.1, by with_unfolding_all rfl, by with_unfolding_all rfl, by with_unfolding_all rfl⟩
          hic hci hr (.mk ..) hxd hInf' hnd hx1 hF hpv hbv (pv_some z0) ⟨_, rfl⟩ (link_some z0 z1 z2 rfl rfl hmode) rfl rfl rfl (by assumption) (by assumption) (by assumption) (by assumption) (by omega) (by omega)
      · obtain ⟨tc5, hmc⟩ := hm5.2.1
        dsimp only
        rw [hrst] at N6
        replace F6 := say_none hm5 hmc hmp hmg hmb hmd F6
        revert N6
        refine hI1.open_ ?_
        iterate 30 (intro _)
        intro N6
        k_steps
        all_goals try (refine Stop.go ?_; k_dflt (refine draw_use (by first | exact pre0 (by k_asm) | exact pre1 (by k_asm) | exact pre2 (by k_asm) | exact pre3 (by k_asm) | exact pre4 (by k_asm) | exact pre5 (by k_asm)) (by k_asm) (by k_asm) (by k_asm) (by k_asm) (by first | exact rfl | assumption) (by ktr_room) (by ktr_units) (by assumption) (by assumption) ⟨by assumption, by assumption, by assumption, by assumption, by omega, by omega⟩ (by first | decide | omega) (by first | decide | omega) (by first | assumption | exact Nat.ne_of_lt (by assumption)) (by k_all) (by k_all) ?_); intro _ _ _ _ _ _ _ _ _ _ _ _ _ _ _ _ F9 N9; (try dsimp only [List.nil_append, List.cons_append] at N9); k_sweep; (try dsimp only); (try k_fold); k_steps)
        all_goals try (refine Stop.go ?_; k_dflt (refine draw_use (by first | exact pre0 (by k_asm) | exact pre1 (by k_asm) | exact pre2 (by k_asm) | exact pre3 (by k_asm) | exact pre4 (by k_asm) | exact pre5 (by k_asm)) (by k_asm) (by k_asm) (by k_asm) (by k_asm) (by first | exact rfl | assumption) (by ktr_room) (by ktr_units) (by assumption) (by assumption) ⟨by assumption, by assumption, by assumption, by assumption, by omega, by omega⟩ (by first | decide | omega) (by first | decide | omega) (by first | assumption | exact Nat.ne_of_lt (by assumption)) (by k_all) (by k_all) ?_); intro _ _ _ _ _ _ _ _ _ _ _ _ _ _ _ _ F9 N9; (try dsimp only [List.nil_append, List.cons_append] at N9); k_sweep; (try dsimp only); (try k_fold); k_steps)
        all_goals
          rename News _ _ _ _ => N9
          rename Fr _ _ _ _ => F9
          subst htl
          first
            | exact par_turn F9 N9 (.tail _ (.tail _ (.tail _ (.tail _ (.tail _ (.head _)))))) (.head _) (.tail _ (.head _)) (.tail _ (.tail _ (.tail _ (.tail _ (.tail _ (.tail _ (.head _))))))) (.tail _ (.tail _ (.tail _ (.head _)))) (.tail _ (.tail _ (.tail _ (.tail _ (.head _))))) (.tail _ (.tail _ (.head _))) (fun p hp => .tail _ (.tail _ (.tail _ (.tail _ (.tail _ (.tail _ (.tail _ (hp)))))))) ⟨by with_unfolding_all rfl, ⟨_, by with_unfolding_all rfl⟩, by with_unfolding_all exact hm5.2.2.1, by with_unfolding_all rfl, by with_unfolding_all rfl, by with_unfolding_all rfl⟩ hic hci hr (.mk ..) hxd hInf' hnd hx1 hF hpv hbv pv_none ⟨_, rfl⟩ (link_zero (hF.fresh i _ (Nat.le_refl _) hr)) rfl rfl rfl (by assumption) (by assumption) (by assumption) (by assumption) (by omega) (by omega)
            | exact par_turn F9 N9 (.tail _ (.tail _ (.tail _ (.tail _ (.tail _ (.head _)))))) (.head _) (.tail _ (.head _)) (.tail _ (.tail _ (.tail _ (.tail _ (.tail _ (.tail _ (.head _))))))) (.tail _ (.tail _ (.tail _ (.head _)))) (.tail _ (.tail _ (.tail _ (.tail _ (.head _))))) (.tail _ (.tail _ (.head _))) (fun p hp => .tail _ (.tail _ (.tail _ (.tail _ (.tail _ (.tail _ (.tail _ (hp)))))))) ⟨by with_unfolding_all rfl, ⟨_, by with_unfolding_all rfl⟩, by with_unfolding_all exact hm5.2.2.1, by with_unfolding_all rfl, by with_unfolding_all rfl, by with_unfolding_all rfl⟩ hic hci hr (.mk ..) hxd hInf' hnd hx1 hF hpv hbv pv_none ⟨_, rfl⟩ (link_far (by (try dsimp only); omega)) rfl rfl rfl (by assumption) (by assumption) (by assumption) (by assumption) (by omega) (by omega)
  case qdone =>
    rintro m2 nw2 h2' tk2' ⟨cs', rs', pv, bv, ps, bs, gr2, st2, pl2, u1, u2, u3, np2, k1, k2, rfl, hM, hxd, hInf', hF, hpv, hbv, -, -, -, -, -, -⟩ F N
    clear F1 N1 rg FD ND stE
    obtain ⟨tc, hcnt⟩ := hM.2.1
    replace F := hM.say0 hcnt F
    obtain ⟨oth, hoth⟩ : ∃ l, l = [(lbo, listOf bv.toArray k2), (lpa, listOf pv.toArray k1), (pn, penO cx gr2 st2 pl2 u1 u2 u3 np2), (cx, listOf ys.toArray nc), (li, listOf (rowOf cs').toArray nl)] := ⟨_, rfl⟩
    replace N := news_app (a := led cs') (b := oth) (news_sub N fun p hp => by repeat (first | exact hp | apply List.Mem.tail)) (by rw [hoth]; exact news_sub N fun p hp => List.mem_append_left (led cs') hp)
    have moli : (li, listOf (rowOf cs').toArray nl) ∈ oth := by rw [hoth]; exact .tail _ (.tail _ (.tail _ (.tail _ (.head _))))
    have molpa : (lpa, listOf pv.toArray k1) ∈ oth := by rw [hoth]; exact .tail _ (.head _)
    have molbo : (lbo, listOf bv.toArray k2) ∈ oth := by rw [hoth]; exact .head _
    have hocl : Stop (∀ p ∈ oth, p.2.cls = .type "list") := by
      rw [hoth]; intro p hp
      simp only [List.mem_cons, List.not_mem_nil, or_false] at hp
      rcases hp with h | h | h | h | h <;> (subst h; rfl)
    clear hoth
    obtain ⟨all1, hall1⟩ : ∃ l, l = led cs' ++ oth := ⟨_, rfl⟩
    rw [← hall1] at N
    have ml1 : Stop (∀ p ∈ led cs', p ∈ all1) := fun p hp => hall1 ▸ List.mem_append_left _ hp
    have mo1 : Stop (∀ p ∈ oth, p ∈ all1) := fun p hp => hall1 ▸ List.mem_append_right _ hp
    have mli1 := mo1 _ moli
    have hrl : (rowOf cs').length = rs'.length := (rowOf_length cs').trans hInf'.length
    have hrn : rs'.length = rs.length := hF.n_
    have hz' : (rowOf cs').length ≤ 1000 := by omega
    replace hF := Stop.go hF
    replace hxd := Stop.go hxd
    clear l1a l1b
    dsimp only
    k_steps
    rename News _ _ _ _ => N3
    rename Fr _ _ _ _ => F3
    refine Stop.go (compTups (dss := rs'.map tup4) (by rfl) F3 N3 (by first | exact mli1 | exact .tail _ mli1) (by simp [hrl]) hz' ?qt1 ?qf1)
    case qt1 =>
      intro g j ds v I oI C oC D m3 ys3 h3 tk3 all E' hvj hds hsub hC hx F4 N4 off ne
      clear F3 N3
      obtain ⟨c, hc, rfl⟩ : ∃ c, cs'[j]? = some c ∧ v = .ref c.x := by
        have hj : j < cs'.length := by rw [← rowOf_length]; exact (List.getElem?_eq_some_iff.mp hvj).1
        have := rowOf_get (List.getElem?_eq_getElem hj)
        rw [hvj] at this
        exact ⟨_, List.getElem?_eq_getElem hj, Option.some.inj this⟩
      obtain ⟨r, hr, hI⟩ := hInf'.get hc
      have hds' : tup4 r = ds := by rw [List.getElem?_map, hr] at hds; exact Option.some.inj hds
      subst hds'
      have mx := hsub _ (ml1 _ (led_x (List.mem_of_getElem? hc)))
      have mdd := hsub _ (ml1 _ (led_d (List.mem_of_getElem? hc)))
      obtain ⟨cx1, cd1, co1⟩ := c
      dsimp only at mx mdd hI hx
      clear hsub hvj hds
      revert mdd
      refine hI.open_ ?_
      iterate 30 (intro _)
      intro mdd
      k_steps
      rename News _ _ _ _ => N5
      rename Fr _ _ _ _ => F5
      rename _ ∧ _ => l9
      exact TupEnd.intro F5 N5 (.head _) (fun p hp => .tail _ hp) (.cons (.int _ _) (.cons (.int _ _) (.cons (.int _ _) (.cons (.int _ _) .nil)))) (Nat.ne_of_gt l9.1) (Nat.ne_of_gt l9.2.1) (Nat.ne_of_gt l9.2.2.1)
    case qf1 =>
      intro g ys tl hda htl
      clear F3 N3
      rw [map_tup4] at hda
      replace hda := Stop.go hda
      replace htl := Stop.go htl
      k_steps
      rename_i D h5 tk5 o5 bf db h6 F6 N6 l6 l7 g7 L7 h7 B7 X7 T7 lf1 lf2 lf3 tk7 h8' h9' h10' F10 N10 Gc7 kX7 h11 F11 N11
      clear F6 F10 N10
      clear N6
      subst hall1
      obtain ⟨j1, j2, j3, j4, N12⟩ := buf_news (P := wd.params) (lr := li) (bw := bw) N11
      clear N11
      obtain ⟨buf, hbuf⟩ : ∃ o, o = bufO wd.params j1 j2 j3 li bw j4 := ⟨_, rfl⟩
      rw [← hbuf] at N12
      obtain ⟨oth1, hoth1⟩ : ∃ l, l = (bf, instObj 137 db) :: (db, buf) :: (D, listOf ys.toArray ys.length) :: (tl ++ oth) := ⟨_, rfl⟩
      have hoff1 : ∀ p ∈ oth1, ∀ c ∈ cs', p.1 ≠ c.d := by
        rw [hoth1]
        intro p hp c hc
        have hlt : @LT.lt Nat _ c.d db := ktn_ltOf l6.2 _ (List.mem_append_right _ (ml1 _ (led_d hc)))
        rcases List.mem_cons.mp hp with rfl | hp
        · exact Nat.ne_of_gt (Nat.lt_trans hlt l7)
        rcases List.mem_cons.mp hp with rfl | hp
        · exact Nat.ne_of_gt hlt
        refine off_cells N12 hInf' (fun p hp => List.mem_append_left _ hp) (oth := (D, listOf ys.toArray ys.length) :: (tl ++ oth)) (fun p hp => List.mem_append_right _ (.tail _ (.tail _ hp))) ?_ p hp c hc
        intro p hp
        rcases List.mem_cons.mp hp with rfl | hp
        · exact fun e => absurd (Value.type.inj e) (by decide)
        rcases List.mem_append.mp hp with hp | hp
        · rw [htl p hp]; exact fun e => absurd (Value.type.inj e) (by decide)
        · rw [hocl p hp]; exact fun e => absurd (Value.type.inj e) (by decide)
      have mbf : (bf, instObj 137 db) ∈ oth1 := by rw [hoth1]; exact .head _
      have mdb : (db, buf) ∈ oth1 := by rw [hoth1]; exact .tail _ (.head _)
      have mD : (D, listOf ys.toArray ys.length) ∈ oth1 := by rw [hoth1]; exact .tail _ (.tail _ (.head _))
      have mli : (li, listOf (rowOf cs').toArray nl) ∈ oth1 := by rw [hoth1]; exact .tail _ (.tail _ (.tail _ (List.mem_append_right _ moli)))
      have mlpa : (lpa, listOf pv.toArray k1) ∈ oth1 := by rw [hoth1]; exact .tail _ (.tail _ (.tail _ (List.mem_append_right _ molpa)))
      have mlbo : (lbo, listOf bv.toArray k2) ∈ oth1 := by rw [hoth1]; exact .tail _ (.tail _ (.tail _ (List.mem_append_right _ molbo)))
      have hda1 : Stop (DatAll oth1 ys (rs'.map tupR)) := DatAll.mono (fun p hp => by rw [hoth1]; exact .tail _ (.tail _ (.tail _ (List.mem_append_left _ hp)))) hda
      rw [← hoth1] at N12
      clear hoth1 hda htl o5 l6
      subst hbuf
      refine Stop.go ?_
      k_dflt (refine' Ctr.use' (settle_ (oth := oth1) (cs := cs') (rs := rs') (nl := nl) (bw := bw) mbf mdb mli hoff1 hInf' ?qnd1 ?q81 ?qb1) N12 ?qB1 F11 ?qX1 ?qT1 ?qk1 ?qd1 ?qu1 ?_)
      case qnd1 => exact SameXD.nodup hxd hnd
      case q81 => rw [hrn]; exact h8
      case qb1 => exact ParF.bounds hF
      case qB1 => k_asm
      case qX1 => k_asm
      case qT1 => k_asm
      case qk1 => first | exact rfl | assumption
      case qd1 => ktr_room
      case qu1 => ktr_units
      rintro v9 h9 tk9 nw9 ⟨cs2, rs2, rfl, rfl, hxd2, hInf2, hst⟩ F9 N9
      clear F11 N12
      obtain ⟨all2, hall2⟩ : ∃ l, l = led cs2 ++ oth1 := ⟨_, rfl⟩
      rw [← hall2] at N9
      have ml2 : Stop (∀ p ∈ led cs2, p ∈ all2) := fun p hp => hall2 ▸ List.mem_append_left _ hp
      have mo2 : Stop (∀ p ∈ oth1, p ∈ all2) := fun p hp => hall2 ▸ List.mem_append_right _ hp
      have m2bf := mo2 _ mbf
      have m2db := mo2 _ mdb
      unfold bufO at m2db
      have m2li := mo2 _ mli
      have m2D := mo2 _ mD
      have hrl2 : (rowOf cs2).length = rs2.length := (rowOf_length cs2).trans hInf2.length
      have hrn2 : rs2.length = rs.length := hst.len.trans hrn
      have hz2 : (rowOf cs2).length ≤ 1000 := by omega
      rw [← hxd2.row] at m2li
      rw [← hxd2.row] at mli
      replace hxd2 := Stop.go hxd2
      replace hoff1 := Stop.go hoff1
      clear ml1 mo1 mli1 moli molpa molbo hocl hrl hz'
      dsimp only
      k_steps
      rename News _ _ _ _ => N3
      rename Fr _ _ _ _ => F3
      refine Stop.go (compTups (dss := rs2.map tup4) (by rfl) F3 N3 (by first | exact m2li | exact .tail _ m2li) (by simp [hrl2]) hz2 ?qt2 ?qf2)
      case qt2 =>
        intro g j ds v I oI C oC D3 m3 ys3 h3 tk3 all E' hvj hds hsub hC hx F4 N4 off ne
        clear F3 N3
        obtain ⟨c, hc, rfl⟩ : ∃ c, cs2[j]? = some c ∧ v = .ref c.x := by
          have hj : j < cs2.length := by rw [← rowOf_length]; exact (List.getElem?_eq_some_iff.mp hvj).1
          have := rowOf_get (List.getElem?_eq_getElem hj)
          rw [hvj] at this
          exact ⟨_, List.getElem?_eq_getElem hj, Option.some.inj this⟩
        obtain ⟨r, hr, hI⟩ := hInf2.get hc
        have hds' : tup4 r = ds := by rw [List.getElem?_map, hr] at hds; exact Option.some.inj hds
        subst hds'
        have mx := hsub _ (ml2 _ (led_x (List.mem_of_getElem? hc)))
        have mdd := hsub _ (ml2 _ (led_d (List.mem_of_getElem? hc)))
        obtain ⟨cx1, cd1, co1⟩ := c
        dsimp only at mx mdd hI hx
        clear hsub hvj hds m2bf m2db m2li m2D
        revert mdd
        refine hI.open_ ?_
        iterate 30 (intro _)
        intro mdd
        k_steps
        rename News _ _ _ _ => N5
        rename Fr _ _ _ _ => F5
        rename _ ∧ _ => l9
        exact TupEnd.intro F5 N5 (.head _) (fun p hp => .tail _ hp) (.cons (.int _ _) (.cons (.int _ _) (.cons (.int _ _) (.cons (.int _ _) .nil)))) (Nat.ne_of_gt l9.1) (Nat.ne_of_gt l9.2.1) (Nat.ne_of_gt l9.2.2.1)
      case qf2 =>
        intro g ys2 tl2 hda2 htl2
        clear F3 N3
        rw [map_tup4] at hda2
        replace hda2 := Stop.go hda2
        replace htl2 := Stop.go htl2
        k_steps
        rename_i DA h5 tk5 F3 N3 o5
        clear o5
        obtain ⟨oth2, hoth2⟩ : ∃ l, l = (DA, listOf ys2.toArray ys2.length) :: (tl2 ++ oth1) := ⟨_, rfl⟩
        replace N3 := news_app (a := led cs2) (b := oth2) (news_sub N3 fun p hp => .tail _ (List.mem_append_right _ (ml2 p hp))) (by rw [hoth2]; exact news_pick N3 (.head _) (news_app (news_sub N3 fun p hp => .tail _ (List.mem_append_left _ hp)) (news_sub N3 fun p hp => .tail _ (List.mem_append_right _ (mo2 p hp)))))
        have hoff2 : Stop (∀ p ∈ oth2, ∀ c ∈ cs2, p.1 ≠ c.d) := by
          rw [hoth2]
          intro p hp c hc
          rw [← List.cons_append] at hp
          rcases List.mem_append.mp hp with hp | hp
          · refine off_cells N3 hInf2 (fun p hp => List.mem_append_left _ hp) (oth := (DA, listOf ys2.toArray ys2.length) :: tl2) (fun p hp => List.mem_append_right _ (by rw [hoth2, ← List.cons_append]; exact List.mem_append_left _ hp)) ?_ p hp c hc
            intro p hp
            rcases List.mem_cons.mp hp with rfl | hp
            · exact fun e => absurd (Value.type.inj e) (by decide)
            · rw [htl2 p hp]; exact fun e => absurd (Value.type.inj e) (by decide)
          · exact SameXD.off hxd2 hoff1 p hp c hc
        have ho12 : Stop (∀ p ∈ oth1, p ∈ oth2) := fun p hp => by rw [hoth2]; exact .tail _ (List.mem_append_right _ hp)
        have hdaA : Stop (DatAll oth2 ys2 (rs2.map tupR)) := DatAll.mono (fun p hp => by rw [hoth2]; exact .tail _ (List.mem_append_left _ hp)) hda2
        have hdaR : Stop (DatAll oth2 ys (rs'.map tupR)) := DatAll.mono ho12 hda1
        have m3A : (DA, listOf ys2.toArray ys2.length) ∈ oth2 := by rw [hoth2]; exact .head _
        obtain ⟨all3, hall3⟩ : ∃ l, l = led cs2 ++ oth2 := ⟨_, rfl⟩
        rw [← hall3] at N3
        have ml3 : Stop (∀ p ∈ led cs2, p ∈ all3) := fun p hp => hall3 ▸ List.mem_append_left _ hp
        have mo3 : Stop (∀ p ∈ oth2, p ∈ all3) := fun p hp => hall3 ▸ List.mem_append_right _ hp
        have mA := mo3 _ m3A
        clear hoth2 hda1 hda2 htl2 tl2 ml2 mo2 hoff1 hall2
        have hyl2 : ys2.length = rs2.length := by rw [dat_len hdaA, List.length_map]
        have hyl : ys.length = rs'.length := by rw [dat_len hdaR, List.length_map]
        refine Stop.go (compTups (dss := rs2.map tup2) (by rfl) F3 N3 mA (by simp [hyl2]) (by omega) ?qt3 ?qf3)
        case qt3 =>
          intro g j ds v I oI C oC D3 m3 ys3 h3 tk3 all E' hvj hds hsub hC hx F4 N4 off ne
          clear F3 N3
          obtain ⟨r, hr, a, n, w1, w2, w3, w4, rfl, hma⟩ := dat_at hdaA hvj
          have hds' : tup2 r = ds := by rw [List.getElem?_map, hr] at hds; exact Option.some.inj hds
          subst hds'
          have hma' := hsub _ (mo3 _ hma)
          clear hsub hvj hds hma
          k_steps
          refine Stop.go ?_
          k_dflt ((refine' tup_upto (b := 2) ?qF ?qN ?qm (by exact rfl) ?qb ?qz ?_ ?qs ?qt); (case qF => k_asm); (case qN => k_asm); (case qm => first | k_mem | exact List.mem_cons_of_mem _ (List.mem_cons_of_mem _ (List.mem_cons_of_mem _ (by assumption)))); (case qb => exact (by decide : 2 < 4)); (case qz => exact (by decide : 4 ≤ 1000)); (case qs => with_unfolding_all rfl); (case qt => intro _; with_unfolding_all rfl)); intro _ _ F0 N0 l0; (try k_lt l0); (try k_sweep)
          k_steps
          rename News _ _ _ _ => N5
          rename Fr _ _ _ _ => F5
          rename _ ∧ _ => l9
          exact TupEnd.intro F5 N5 (.head _) (fun p hp => .tail _ hp) (.cons (.int _ _) (.cons (.int _ _) .nil)) (Nat.ne_of_gt l9.1) (Nat.ne_of_gt l9.2.1) (Nat.ne_of_gt l9.2.2.1)
        case qf3 =>
          intro g ys4 tl4 hda4 htl4
          clear F3 N3
          replace hda4 := Stop.go hda4
          k_steps
          rename_i D4 h6 tk6 F3 N3 o6
          clear o6 htl4
          obtain ⟨all4, hall4⟩ : ∃ l, l = (D4, listOf ys4.toArray ys4.length) :: (tl4 ++ all3) := ⟨_, rfl⟩
          have hdb4 : Stop (DatAll all4 ys4 ((rs2.map tup2).map Dat.tuple)) := DatAll.mono (fun p hp => by rw [hall4]; exact .tail _ (List.mem_append_left _ hp)) hda4
          have mo4 : Stop (∀ p ∈ all3, p ∈ all4) := fun p hp => by rw [hall4]; exact .tail _ (List.mem_append_right _ hp)
          have m4 : (D4, listOf ys4.toArray ys4.length) ∈ all4 := by rw [hall4]; exact .head _
          have m4R := mo4 _ (mo3 _ (ho12 _ mD))
          replace N3 := news_sub (l' := all4) N3 (fun p hp => hall4 ▸ hp)
          clear hall4 hda4 tl4
          refine Stop.go (compTups (dss := rs'.map tup2) (by rfl) F3 N3 m4R (by simp [hyl]) (by omega) ?qt4 ?qf4)
          case qt4 =>
            intro g j ds v I oI C oC D5 m5 ys5 h5 tk5 all E' hvj hds hsub hC hx F4 N4 off ne
            clear F3 N3
            obtain ⟨r, hr, a, n, w1, w2, w3, w4, rfl, hma⟩ := dat_at hdaR hvj
            have hds' : tup2 r = ds := by rw [List.getElem?_map, hr] at hds; exact Option.some.inj hds
            subst hds'
            have hma' := hsub _ (mo4 _ (mo3 _ hma))
            clear hsub hvj hds hma
            k_steps
            refine Stop.go ?_
            k_dflt ((refine' tup_upto (b := 2) ?qF ?qN ?qm (by exact rfl) ?qb ?qz ?_ ?qs ?qt); (case qF => k_asm); (case qN => k_asm); (case qm => first | k_mem | exact List.mem_cons_of_mem _ (List.mem_cons_of_mem _ (List.mem_cons_of_mem _ (by assumption)))); (case qb => exact (by decide : 2 < 4)); (case qz => exact (by decide : 4 ≤ 1000)); (case qs => with_unfolding_all rfl); (case qt => intro _; with_unfolding_all rfl)); intro _ _ F0 N0 l0; (try k_lt l0); (try k_sweep)
            k_steps
            rename News _ _ _ _ => N5
            rename Fr _ _ _ _ => F5
            rename _ ∧ _ => l9
            exact TupEnd.intro F5 N5 (.head _) (fun p hp => .tail _ hp) (.cons (.int _ _) (.cons (.int _ _) .nil)) (Nat.ne_of_gt l9.1) (Nat.ne_of_gt l9.2.1) (Nat.ne_of_gt l9.2.2.1)
          case qf4 =>
            intro g ys5 tl5 hda5 htl5
            clear F3 N3 htl5
            replace hda5 := Stop.go hda5
            k_steps
            rename_i D5 h7 tk7 F3 N3 o7
            clear o7
            obtain ⟨all5, hall5⟩ : ∃ l, l = (D5, listOf ys5.toArray ys5.length) :: (tl5 ++ all4) := ⟨_, rfl⟩
            have hdb5 : Stop (DatAll all5 ys5 ((rs'.map tup2).map Dat.tuple)) := DatAll.mono (fun p hp => by rw [hall5]; exact .tail _ (List.mem_append_left _ hp)) hda5
            have mo5 : Stop (∀ p ∈ all4, p ∈ all5) := fun p hp => by rw [hall5]; exact .tail _ (List.mem_append_right _ hp)
            have m5 : (D5, listOf ys5.toArray ys5.length) ∈ all5 := by rw [hall5]; exact .head _
            replace N3 := news_sub (l' := all5) N3 (fun p hp => hall5 ▸ hp)
            clear hall5 hda5 tl5
            refine Stop.go (ne_same N3 (mo5 _ m4) (DatAll.mono mo5 hdb4) m5 hdb5 (congrArg (List.map Dat.tuple) hst.tup2) (ok_tup2 _) (by ke_room) ?_)
            have up5 : Stop (∀ p ∈ led cs2 ++ oth2, p ∈ all5) := fun p hp => mo5 _ (mo4 _ (hall3 ▸ hp))
            have m5bf := mo5 _ (mo4 _ (mo3 _ (ho12 _ mbf)))
            have m5db := mo5 _ (mo4 _ (mo3 _ (ho12 _ mdb)))
            unfold bufO at m5db
            have m5li := mo5 _ (mo4 _ (mo3 _ (ho12 _ mli)))
            clear m5 m4 m4R hdb4 hdb5 mA ml3 m2bf m2db m2li m2D
            (try dsimp only)
            k_steps
            rename News _ _ _ _ => N4
            rename Fr _ _ _ _ => F4
            refine Stop.go (compInts (ks := rs2.map (·.gl)) (by rfl) F4 N4 m5li (by simp [hrl2]) hz2 ?qt5 ?qf5)
            case qt5 =>
              intro g j kk v I oI C oC D6 m6 ys6 h6 tk6 E' hvj hkj hC hx F5 N5 off ne
              clear F4 N4
              obtain ⟨c, hc, rfl⟩ : ∃ c, cs2[j]? = some c ∧ v = .ref c.x := by
                have hj : j < cs2.length := by rw [← rowOf_length]; exact (List.getElem?_eq_some_iff.mp hvj).1
                have := rowOf_get (List.getElem?_eq_getElem hj)
                rw [hvj] at this
                exact ⟨_, List.getElem?_eq_getElem hj, Option.some.inj this⟩
              obtain ⟨r, hr, hI⟩ := hInf2.get hc
              have hkk : r.gl = kk := by rw [List.getElem?_map, hr] at hkj; exact Option.some.inj hkj
              have mx := up5 _ (List.mem_append_left _ (led_x (List.mem_of_getElem? hc)))
              have mdd := up5 _ (List.mem_append_left _ (led_d (List.mem_of_getElem? hc)))
              obtain ⟨cx1, cd1, co1⟩ := c
              dsimp only at mx mdd hI hx
              clear hvj hkj m5bf m5db m5li
              revert mdd
              refine hI.open_ ?_
              iterate 30 (intro _)
              intro mdd
              k_steps
              rename News _ _ _ _ => N6
              rename Fr _ _ _ _ => F6
              exact IntEnd.intro F6 N6 hkk
            case qf5 =>
              intro g ys6 hi6
              clear F4 N4
              k_steps
              rename_i D6 h6 tk6 F6 N6 o6 h7 tk7 u1 u2 u3 rg6 F7 N7 st7
              clear o6
              have hn8 : rs.length ≤ 8 := h8
              k_dflt (refine' kll_range (n := rs.length) ?qh6 F7 N7 rg6 ?qs6 ?qn6 ?qz6 ?_)
              case qh6 => rfl
              case qs6 => exact small_one (by decide) (by decide) (by omega) (by omega)
              case qn6 => rw [rangeSize_nat]; omega
              case qz6 => exact Nat.le_trans hn8 (by decide)
              clear F6 N6 F7 N7 st7 rg6
              intro D7 us7 c7 h8 tk8 F8 N8 l8 hi8
              clear l8
              k_sweep
              k_steps
              replace hn8 := Stop.go hn8
              refine Stop.go (ints_ne_same N8 (.tail _ (.head _)) hi6 (.head _) hi8 (glyphs_ hst hF) (by ke_room) ?_)
              replace N8 := news_sub (l' := all5) N8 (fun p hp => .tail _ (.tail _ hp))
              clear hi6 hi8
              (try dsimp only)
              k_steps
              rename News _ _ _ _ => N4
              rename Fr _ _ _ _ => F4
              refine Stop.go (compInts (ks := rs2.map (·.pa)) (by rfl) F4 N4 m5li (by simp [hrl2]) hz2 ?qt6 ?qf6)
              case qt6 =>
                intro g j kk v I oI C oC D6 m6 ys6 h6 tk6 E' hvj hkj hC hx F5 N5 off ne
                clear F4 N4
                obtain ⟨c, hc, rfl⟩ : ∃ c, cs2[j]? = some c ∧ v = .ref c.x := by
                  have hj : j < cs2.length := by rw [← rowOf_length]; exact (List.getElem?_eq_some_iff.mp hvj).1
                  have := rowOf_get (List.getElem?_eq_getElem hj)
                  rw [hvj] at this
                  exact ⟨_, List.getElem?_eq_getElem hj, Option.some.inj this⟩
                obtain ⟨r, hr, hI⟩ := hInf2.get hc
                have hkk : r.pa = kk := by rw [List.getElem?_map, hr] at hkj; exact Option.some.inj hkj
                have mx := up5 _ (List.mem_append_left _ (led_x (List.mem_of_getElem? hc)))
                have mdd := up5 _ (List.mem_append_left _ (led_d (List.mem_of_getElem? hc)))
                obtain ⟨cx1, cd1, co1⟩ := c
                dsimp only at mx mdd hI hx
                clear hvj hkj m5bf m5db m5li
                revert mdd
                refine hI.open_ ?_
                iterate 30 (intro _)
                intro mdd
                k_steps
                rename News _ _ _ _ => N6
                rename Fr _ _ _ _ => F6
                exact IntEnd.intro F6 N6 hkk
              case qf6 =>
                intro g ys6 hi6
                clear F4 N4
                k_steps
                rename_i n1 s1 e1 e2 e3 l1
                clear s1 e1 e2 e3 l1 n1
                rename IntsAre (List.flatten _) _ => i1
                rename News _ _ _ _ => N9
                refine Stop.go (ints_ne_same N9 (.tail _ (.tail _ (.head _))) hi6 (.head _) i1 (zeros_ hst hrn2) (by ke_room) ?_)
                replace N9 := news_sub (l' := all5) N9 (fun p hp => .tail _ (.tail _ (.tail _ hp)))
                clear hi6 i1
                (try dsimp only)
                k_steps
                rename News _ _ _ _ => N10
                rename Fr _ _ _ _ => F10
                have m5D := mo5 _ (mo4 _ (mo3 _ (ho12 _ mD)))
                refine Stop.go ?_
                k_dflt (refine' Ctr.use' (sums (rs := rs') (bw := bw) m5D (DatAll.mono (fun p hp => mo5 _ (mo4 _ (mo3 _ hp))) hdaR) (by rw [hrn]; exact hn8)) N10 ?qB2 F10 ?qX2 ?qT2 ?qk2 ?qd2 ?qu2 ?_)
                case qB2 => k_asm
                case qX2 => k_asm
                case qT2 => k_asm
                case qk2 => first | exact rfl | assumption
                case qd2 => ktr_room
                case qu2 => ktr_units
                rintro v9 h9 tk9 nw9 ⟨lf, fs, kf, tlf, rfl, rfl, hdf, hlf, htf⟩ F9 N9
                clear N10 F10
                obtain ⟨oth3, hoth3⟩ : ∃ l, l = (lf, listOf fs.toArray kf) :: (tlf ++ oth2) := ⟨_, rfl⟩
                replace N9 := news_app (a := led cs2) (b := oth3) (news_sub N9 fun p hp => .tail _ (List.mem_append_right _ (up5 p (List.mem_append_left _ hp)))) (by rw [hoth3]; exact news_pick N9 (.head _) (news_app (news_sub N9 fun p hp => .tail _ (List.mem_append_left _ hp)) (news_sub N9 fun p hp => .tail _ (List.mem_append_right _ (up5 p (List.mem_append_right _ hp))))))
                obtain ⟨all6, hall6⟩ : ∃ l, l = led cs2 ++ oth3 := ⟨_, rfl⟩
                have mo6 : Stop (∀ p ∈ oth2, p ∈ all6) := fun p hp => hall6 ▸ List.mem_append_right _ (by rw [hoth3]; exact .tail _ (List.mem_append_right _ hp))
                have dF : Stop (DatAll all6 fs ((List.range rs'.length).map (tupS bw rs'))) := DatAll.mono (fun p hp => hall6 ▸ List.mem_append_right _ (by rw [hoth3]; exact .tail _ (List.mem_append_left _ hp))) hdf
                have dA : Stop (DatAll all6 ys2 (rs2.map tupR)) := DatAll.mono mo6 hdaA
                have dR : Stop (DatAll all6 ys (rs'.map tupR)) := DatAll.mono mo6 hdaR
                have m6lf : (lf, listOf fs.toArray kf) ∈ all6 := hall6 ▸ List.mem_append_right _ (by rw [hoth3]; exact .head _)
                have m6A := mo6 _ m3A
                have m6D := mo6 _ (ho12 _ mD)
                have m6pa := mo6 _ (ho12 _ mlpa)
                have m6bo := mo6 _ (ho12 _ mlbo)
                have dn6 : Stop (∀ p ∈ led cs2 ++ oth2, p ∈ all6) := fun p hp => by
                  rcases List.mem_append.mp hp with hp | hp
                  · exact hall6 ▸ List.mem_append_left _ hp
                  · exact mo6 _ hp
                rw [← hall6] at N9
                clear hdf hlf htf hoth3 hall6 up5 m5bf m5db m5li m5D mo5 mo4 mo3
                (try dsimp only)
                k_steps
                rename_i h10 F10 N10 h11 tk11 u1 u2 u3 rg F7 N7 st7
                clear F10 N10 st7
                refine Stop.go (iter_rangeJ (n := rs.length) (fun _ m nw => nw = all6 ∧ ChkM lpa lbo DA D lf bf m) (by rfl) rg ?qsmall7 ?qsize7 F7 N7 ?qh07 ?qturn7 ?qdone7)
                case qsmall7 => exact small_one (by decide) (by decide) (by omega) (by have : rs.length ≤ 8 := hn8; omega)
                case qsize7 => rw [rangeSize_nat, Int.sub_zero]; omega
                case qh07 => exact ⟨rfl, by with_unfolding_all rfl, by with_unfolding_all rfl, by with_unfolding_all rfl, by with_unfolding_all rfl, by with_unfolding_all rfl, by with_unfolding_all rfl⟩
                case qturn7 =>
                  rintro I i m7 nw7 t7 h7 tk7 hI hin ⟨rfl, hM⟩ F N
                  clear F7 N7 rg
                  rw [Int.zero_add] at F
                  replace F := hM.say F
                  replace hI := Stop.go hI
                  have hi8 : i < 8 := Nat.lt_of_lt_of_le hin hn8
                  obtain ⟨it, hit⟩ : ∃ o, o = itR (0 + ((i + 1 : Nat) : Int)) ((rs.length : Int) - ((i + 1 : Nat) : Int)) := ⟨_, rfl⟩
                  rw [← hit] at N ⊢
                  clear hit
                  have hFF : ParF rs.length rs.length rs' ps bs := hF
                  have hi0 : i < rs'.length := by rw [hrn]; exact hin
                  have hi2 : i < rs2.length := by rw [hrn2]; exact hin
                  obtain ⟨r0, hr0⟩ : ∃ r, rs'[i]? = some r := ⟨_, List.getElem?_eq_getElem hi0⟩
                  obtain ⟨r1, hr1⟩ : ∃ r, rs2[i]? = some r := ⟨_, List.getElem?_eq_getElem hi2⟩
                  have hpl : pv.length = rs.length := (Paired.length hpv).trans hFF.p_
                  have hbl : bv.length = rs.length := (Paired.length hbv).trans hFF.b_
                  obtain ⟨v, hv⟩ : ∃ v, pv[i]? = some v := ⟨_, List.getElem?_eq_getElem (by omega)⟩
                  obtain ⟨vb, hvb⟩ : ∃ v, bv[i]? = some v := ⟨_, List.getElem?_eq_getElem (by omega)⟩
                  obtain ⟨p, hp, hvp⟩ := Paired.at hpv hv
                  obtain ⟨b, hb, tb, hbv'⟩ := Paired.at hbv hvb
                  subst hbv'
                  have hL := hFF.link i r0 p b hr0 hp hb
                  have hst' := hFF.steps
                  obtain ⟨a0, n0, v1, v2, v3, v4, e0, d0, t0⟩ := dat_item dR hr0
                  obtain ⟨a1, n1, w1, w2, w3, w4, e1, d1, t1⟩ := dat_item dA hr1
                  obtain ⟨a2, n2, x1, x2, e2, t2⟩ := dat_sum dF hi0
                  clear hi0 hi2
                  k_steps
                  rename News _ _ _ _ => N10
                  rename Fr _ _ _ _ => F10
                  refine Stop.go ?_
                  k_dflt (refine' Ctr.use' (rooted (rs := rs') (ps := ps) (a := i) (.tail _ m6pa) hpv hst' ?qpl ?qia ?qr8) N10 ?qB3 F10 ?qX3 ?qT3 ?qk3 ?qd3 ?qu3 ?_)
                  case qpl => rw [hFF.p_, hrn]
                  case qia => rw [hrn]; exact hin
                  case qr8 => rw [hrn]; exact hn8
                  case qB3 => k_asm
                  case qX3 => k_asm
                  case qT3 => k_asm
                  case qk3 => first | exact rfl | assumption
                  case qd3 => ktr_room
                  case qu3 => ktr_units
                  rintro v9 h9 tk9 nw9 ⟨b9, rfl, rfl, hroot⟩ F9 N9
                  clear N10 F10
                  cases b9 with
                  | false =>
                    clear hroot
                    (try dsimp only)
                    k_steps
                    rename News _ _ _ _ => N5
                    rename Fr _ _ _ _ => F5
                    exact chk_end F5 N5 (fun p hp => hp) hI ⟨by with_unfolding_all rfl, by with_unfolding_all rfl, by with_unfolding_all rfl, by with_unfolding_all rfl, by with_unfolding_all rfl, by with_unfolding_all rfl⟩
                  | true =>
                    obtain ⟨line, c, hpa, hc⟩ := hroot rfl
                    clear hroot
                    cases p with
                    | none =>
                      cases hvp
                      have hne := law_none hst hr0 hr1 (hst' i _ hp)
                      clear hst'
                      (try dsimp only)
                      k_steps
                      rename News _ _ _ _ => N5
                      refine Stop.go (ne_same_dat N5 (d1.mono fun p hp => .tail _ hp) (d0.mono fun p hp => .tail _ hp) hne.symm rfl (by ke_room) ?_)
                      k_steps
                      rename News _ _ _ _ => N5
                      rename Fr _ _ _ _ => F5
                      exact chk_end F5 N5 (fun p hp => hp) hI ⟨by with_unfolding_all rfl, by with_unfolding_all rfl, by with_unfolding_all rfl, by with_unfolding_all rfl, by with_unfolding_all rfl, by with_unfolding_all rfl⟩
                    | some g =>
                      obtain ⟨t9, rfl⟩ := hvp
                      have hs := hst' i _ hp
                      obtain ⟨hg, -, hgi, hbo, hmode⟩ := hL
                      have hg0 : g < rs'.length := by rw [hrn]; exact hg
                      have hg2 : g < rs2.length := by rw [hrn2]; exact hg
                      obtain ⟨q1, hq1⟩ : ∃ r, rs2[g]? = some r := ⟨_, List.getElem?_eq_getElem hg2⟩
                      obtain ⟨a4, n4, y1, y2, y3, y4, e4, d4, t4⟩ := dat_item dA hq1
                      obtain ⟨a5, n5, z1, z2, e5, t5⟩ := dat_sum dF hg0
                      have hg8 : g < 8 := Nat.lt_of_lt_of_le hg hn8
                      clear hg0 hg2 hst' hg
                      rcases hmode with ⟨rfl, hlt⟩ | rfl
                      · obtain ⟨f1, f2⟩ := law_mark hst hr0 hr1 hq1 hs hbo hlt hpa hc
                        clear hpa hc hs
                        (try dsimp only)
                        k_steps
                        rename_i l9
                        rename News _ _ _ _ => N5
                        rename Fr _ _ _ _ => F5
                        with_unfolding_all refine iter_tupTurns (vs := [_, _]) (by rfl) F5 N5 (.head _) (by rfl) (by rfl) ?_
                        clear F5 N5
                        intro I9 l10
                        replace l10 := Stop.go l10
                        k_steps
                        · exact absurd f1 (by assumption)
                        · rename News _ _ _ _ => N5
                          rename Fr _ _ _ _ => F5
                          refine unr_end F5 N5 l10 ⟨⟨.head _, trivial⟩, ?_⟩
                          clear F5 N5
                          k_steps
                          · exact absurd f2 (by assumption)
                          · rename News _ _ _ _ => N5
                            rename Fr _ _ _ _ => F5
                            refine unr_end F5 N5 l10 ⟨⟨.head _, trivial⟩, ?_⟩
                            clear F5 N5
                            k_steps
                            rename News _ _ _ _ => N5
                            rename Fr _ _ _ _ => F5
                            exact chk_end F5 N5 (fun p hp => .tail _ hp) hI ⟨by with_unfolding_all rfl, by with_unfolding_all rfl, by with_unfolding_all rfl, by with_unfolding_all rfl, by with_unfolding_all rfl, by with_unfolding_all rfl⟩
                      · obtain ⟨f1, f2⟩ := law_curs hst hr0 hr1 hq1 hs hbo hpa hc
                        clear hpa hc hs
                        (try dsimp only)
                        k_steps
                        · exact absurd f1 (by assumption)
                        · exact absurd f2 (by assumption)
                        · rename News _ _ _ _ => N5
                          rename Fr _ _ _ _ => F5
                          exact chk_end F5 N5 (fun p hp => hp) hI ⟨by with_unfolding_all rfl, by with_unfolding_all rfl, by with_unfolding_all rfl, by with_unfolding_all rfl, by with_unfolding_all rfl, by with_unfolding_all rfl⟩
                case qdone7 =>
                  rintro m7 nw7 h7 tk7 ⟨rfl, hM⟩ F N
                  clear F7 N7 rg
                  replace F := hM.say0 F
                  replace N := news_sub N dn6
                  have mbf2 := ho12 _ mbf
                  have mdb2 := ho12 _ mdb
                  have mli2 := ho12 _ mli
                  (try dsimp only)
                  k_steps
                  rename News _ _ _ _ => N5
                  rename Fr _ _ _ _ => F5
                  refine Stop.go ?_
                  k_dflt (refine' Ctr.use' (settle_ (oth := oth2) (cs := cs2) (rs := rs2) (nl := nl) (bw := bw) mbf2 mdb2 mli2 hoff2 hInf2 ?qnd4 ?q84 ?qb4) N5 ?qB4 F5 ?qX4 ?qT4 ?qk4 ?qd4 ?qu4 ?_)
                  case qnd4 => exact SameXD.nodup hxd2 (SameXD.nodup hxd hnd)
                  case q84 => rw [hrn2]; exact hn8
                  case qb4 => exact Settled.bounds hst (ParF.bounds hF)
                  case qB4 => k_asm
                  case qX4 => k_asm
                  case qT4 => k_asm
                  case qk4 => first | exact rfl | assumption
                  case qd4 => ktr_room
                  case qu4 => ktr_units
                  rintro v9 h9 tk9 nw9 ⟨cs3, rs3, rfl, rfl, hxd3, hInf3, hst3⟩ F9 N9
                  clear F5 N5
                  obtain ⟨all7, hall7⟩ : ∃ l, l = led cs3 ++ oth2 := ⟨_, rfl⟩
                  rw [← hall7] at N9
                  have ml7 : Stop (∀ p ∈ led cs3, p ∈ all7) := fun p hp => hall7 ▸ List.mem_append_left _ hp
                  have mo7 : Stop (∀ p ∈ oth2, p ∈ all7) := fun p hp => hall7 ▸ List.mem_append_right _ hp
                  have m7bf := mo7 _ mbf2
                  have m7db := mo7 _ mdb2
                  unfold bufO at m7db
                  have m7li := mo7 _ mli2
                  have m7A := mo7 _ m3A
                  have hrl3 : (rowOf cs3).length = rs3.length := (rowOf_length cs3).trans hInf3.length
                  have hrn3 : rs3.length = rs.length := hst3.len.trans hrn2
                  have hz3 : (rowOf cs3).length ≤ 1000 := by omega
                  rw [← hxd3.row] at m7li
                  clear hxd3 mo6 dn6 dF dA dR m6lf m6A m6D m6pa m6bo
                  (try dsimp only)
                  k_steps
                  rename News _ _ _ _ => N3
                  rename Fr _ _ _ _ => F3
                  refine Stop.go (compTups (dss := rs3.map tup4) (by rfl) F3 N3 (by first | exact m7li | exact .tail _ m7li) (by simp [hrl3]) hz3 ?qt7 ?qf7)
                  case qt7 =>
                    intro g j ds v I oI C oC D3 m3 ys3 h3 tk3 all E' hvj hds hsub hC hx F4 N4 off ne
                    clear F3 N3
                    obtain ⟨c, hc, rfl⟩ : ∃ c, cs3[j]? = some c ∧ v = .ref c.x := by
                      have hj : j < cs3.length := by rw [← rowOf_length]; exact (List.getElem?_eq_some_iff.mp hvj).1
                      have := rowOf_get (List.getElem?_eq_getElem hj)
                      rw [hvj] at this
                      exact ⟨_, List.getElem?_eq_getElem hj, Option.some.inj this⟩
                    obtain ⟨r, hr, hI⟩ := hInf3.get hc
                    have hds' : tup4 r = ds := by rw [List.getElem?_map, hr] at hds; exact Option.some.inj hds
                    subst hds'
                    have mx := hsub _ (ml7 _ (led_x (List.mem_of_getElem? hc)))
                    have mdd := hsub _ (ml7 _ (led_d (List.mem_of_getElem? hc)))
                    obtain ⟨cx1, cd1, co1⟩ := c
                    dsimp only at mx mdd hI hx
                    clear hsub hvj hds m7bf m7db m7li m7A
                    revert mdd
                    refine hI.open_ ?_
                    iterate 30 (intro _)
                    intro mdd
                    k_steps
                    rename News _ _ _ _ => N5
                    rename Fr _ _ _ _ => F5
                    rename _ ∧ _ => l9
                    exact TupEnd.intro F5 N5 (.head _) (fun p hp => .tail _ hp) (.cons (.int _ _) (.cons (.int _ _) (.cons (.int _ _) (.cons (.int _ _) .nil)))) (Nat.ne_of_gt l9.1) (Nat.ne_of_gt l9.2.1) (Nat.ne_of_gt l9.2.2.1)
                  case qf7 =>
                    intro g ys7 tl7 hda7 htl7
                    clear F3 N3
                    rw [map_tup4] at hda7
                    replace hda7 := Stop.go hda7
                    replace htl7 := Stop.go htl7
                    k_steps
                    rename News _ _ _ _ => N3
                    refine Stop.go (eq_same N3 (.head _) (DatAll.mono (fun p hp => .tail _ (List.mem_append_left _ hp)) hda7) (.tail _ (List.mem_append_right _ m7A)) (DatAll.mono (fun p hp => .tail _ (List.mem_append_right _ (mo7 _ hp))) hdaA) (law_again hst hst3) (ok_tup4 _) (by ke_room) ?_)
                    (try dsimp only)
                    k_steps)

end

end Mine

theorem PySem.Challenge.cw_nu0151_01_holds : PySem.Challenge.rw_nu0151_01.Holds :=
  Mine.top_
