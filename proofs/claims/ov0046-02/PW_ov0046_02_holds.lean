import PyProof.Rows.All
import Wide.All
import OpenK.AllK
import Wide.FinOn
import Lean
import PySem.Challenge.RW_ov0046_02
open PySem PySem.W PyProof.Rows PySem.Calls PyProof.V
set_option Elab.async false
set_option maxRecDepth 100000
set_option linter.unusedVariables false
namespace Mine
set_option maxRecDepth 100000 in
set_option maxHeartbeats 8000000 in
open_top hd for PySem.Challenge.rw_ov0046_02
end Mine
namespace Mine

inductive Sp where
  | ints (ns : List Int)
  | refs (as : List Addr)
  | idict (kvs : List (Int × Value))
  | inst (C d : Addr)
  | attrs (kvs : List (Str × Value))
  | tints (ns : List Int)
  | obj (o : Obj)
  | cell (v : Option Value)
  | nsp (kvs : List (Str × Value))
  | pred (P : Obj → Prop)

inductive AttrsAre : List DictEntry → List (Str × Value) → Prop
  | nil : AttrsAre [] []
  | cons (h : Int) (k : Str) (t : Tok) (v : Value) {es kvs} : AttrsAre es kvs → AttrsAre (⟨h, .str k t, v⟩ :: es) ((k, v) :: kvs)

def Sp.ok (prog : Program) (w : World) : Sp → Obj → Prop
  | .ints ns, o => ∃ vs n, o = PySem.W.listOf vs.toArray n ∧ IntsAre vs ns
  | .refs as, o => ∃ n, o = PySem.W.listOf (as.map Value.ref).toArray n
  | .idict kvs, o => o.IsDictOf (PySem.intKind prog w) kvs
  | .inst C d, o => o = instObj C d
  | .attrs kvs, o => ∃ es n, o = dictOf es n ∧ AttrsAre es kvs
  | .tints ns, o => ∃ vs n, o = { cls := .type "tuple", data := .seq vs.toArray n } ∧ IntsAre vs ns
  | .obj o', o => o = o'
  | .cell v, o => o.data = .cell v
  | .nsp kvs, o => ∃ m, LCg.NsObj o m ∧ ∀ x v, kvs.lookup x = some v → m x = some v
  | .pred P, o => P o

abbrev Ledger := List (Addr × Sp)

structure Led (prog : Program) (w : World) (g : Heap) (L : Addr) (h : Heap) (σ : Ledger) : Prop where
  at_ : ∀ q ∈ σ, ∃ o, h.get? q.1 = some o ∧ q.2.ok prog w o
  neL : ∀ q ∈ σ, q.1 ≠ L
  new : ∀ q ∈ σ, g.get? q.1 = none
  high : ∀ q ∈ σ, sysModules < q.1
  nd : (σ.map (·.1)).Nodup

structure Stat (K : Frag) (p : Program) (lo : List Str) (g : Heap) : Prop where
  X : K.In g
  T : ∃ mean mg mb, Top p lo mean mg mb g

theorem Stat.keeps {K : Frag} {p : Program} {lo : List Str} {g h : Heap} (S : Stat K p lo g) (k : ∀ b o, g.get? b = some o → h.get? b = some o) : Stat K p lo h :=
  ⟨S.X.keeps k, let ⟨a, b, c, T⟩ := S.T; ⟨a, b, c, T.keeps k⟩⟩

abbrev Locs := List (Str × Value)

structure At (prog : Program) (w : World) (K : Frag) (p : Program) (lo : List Str) (O : OsState) (g : Heap) (L : Addr) (ρ : Locs) (σ : Ledger) (s : Shared) : Prop where
  fr : ∃ m, Fr g L s.heap m ∧ ∀ x v, ρ.lookup x = some v → m x = some v
  led : Led prog w g L s.heap σ
  gens : s.gens = #[]
  os : s.os = O
  stat : Stat K p lo g

section
variable {prog : Program} {w : World} {K : Frag} {p : Program} {lo : List Str} {O : OsState} {g h h' : Heap} {L a : Addr} {ρ ρ' : Locs} {σ σ' τ : Ledger} {s : Shared} {sp sp' : Sp} {m : Str → Option Value} {o : Obj}

theorem szN {h : Heap} {a : Nat} {o : Obj} (e : h.get? a = some o) : (a : Nat) < h.objs.size := Heap.lt_size e
theorem Stat.nolimit (S : Stat K p lo g) : g.NoLimit := let ⟨_, _, _, T⟩ := S.T; T.nolimit

theorem Led.get (l : Led prog w g L h σ) (hm : (a, sp) ∈ σ) : ∃ o, h.get? a = some o ∧ sp.ok prog w o := l.at_ _ hm
theorem Led.notMod (l : Led prog w g L h σ) (hm : (a, sp) ∈ σ) : (a == sysModules) = false := by
  have := l.high _ hm
  exact beq_eq_false_iff_ne.mpr (Nat.ne_of_gt this)

theorem Led.grow (l : Led prog w g L h σ) (k : ∀ b o, h.get? b = some o → h'.get? b = some o) : Led prog w g L h' σ :=
  ⟨fun q hq => let ⟨o, e, r⟩ := l.at_ q hq; ⟨o, k _ _ e, r⟩, l.neL, l.new, l.high, l.nd⟩

theorem Led.newAt (l : Led prog w g L h σ) (S : g.NoLimit) (k : ∀ b o, h.get? b = some o → h'.get? b = some o) {D : Nat} (hD' : ∃ o, h'.get? D = some o ∧ sp.ok prog w o) (hL : D ≠ L) (hg : h.objs.size ≤ D) (hgs : g.objs.size ≤ h.objs.size) :
    Led prog w g L h' ((D, sp) :: σ) := by
  refine ⟨?_, ?_, ?_, ?_, ?_⟩
  · intro q hq
    rcases List.mem_cons.mp hq with rfl | hq
    · exact hD'
    · exact (l.grow k).at_ q hq
  · intro q hq
    rcases List.mem_cons.mp hq with rfl | hq
    · exact hL
    · exact l.neL q hq
  · intro q hq
    rcases List.mem_cons.mp hq with rfl | hq
    · cases e : g.get? D with
      | none => rfl
      | some o => have := szN e; omega
    · exact l.new q hq
  · intro q hq
    rcases List.mem_cons.mp hq with rfl | hq
    · have h3 : (sysModules : Nat) < g.objs.size := modules_low S; exact Nat.lt_of_lt_of_le h3 (Nat.le_trans hgs hg)
    · exact l.high q hq
  · rw [List.map_cons, List.nodup_cons]
    refine ⟨fun hm => ?_, l.nd⟩
    obtain ⟨q, hq, e⟩ := List.mem_map.mp hm
    obtain ⟨o, ho, _⟩ := l.at_ q hq
    rw [e] at ho
    have := szN (a := D) ho
    omega

theorem Fr.gsize (F : Fr g L h m) : g.objs.size ≤ h.objs.size := by
  obtain ⟨oL, _, _, hL, _⟩ := F.ns
  exact Nat.le_of_lt (Nat.lt_of_le_of_lt F.above (Heap.lt_size hL))
theorem Fr.Llt {L : Nat} (F : Fr g L h m) : (L : Nat) < h.objs.size := by
  obtain ⟨oL, _, _, hL, _⟩ := F.ns
  exact Heap.lt_size hL

/-- a heap that keeps all and bears a new object -/
theorem At.alloc (H : At prog w K p lo O g L ρ σ s) {s' : Shared} (k : ∀ b o, s.heap.get? b = some o → s'.heap.get? b = some o) {D : Nat} (hD : s.heap.objs.size ≤ D) (hD' : ∃ o, s'.heap.get? D = some o ∧ sp.ok prog w o)
    (hg : s'.gens = s.gens := by rfl) (ho : s'.os = s.os := by rfl) : At prog w K p lo O g L ρ ((D, sp) :: σ) s' := by
  obtain ⟨⟨m, F, hm⟩, l, h1, h2, S⟩ := H
  have F' := F.kept k
  exact ⟨⟨m, F', hm⟩, l.newAt S.nolimit k hD' (fun e => by have := Fr.Llt (L := L) F; have e' : (D : Nat) = L := e; omega) hD (Fr.gsize F), hg.trans h1, ho.trans h2, S⟩

theorem At.grow (H : At prog w K p lo O g L ρ σ s) {s' : Shared} (k : ∀ b o, s.heap.get? b = some o → s'.heap.get? b = some o) (hg : s'.gens = s.gens := by rfl) (ho : s'.os = s.os := by rfl) : At prog w K p lo O g L ρ σ s' := by
  obtain ⟨⟨m, F, hm⟩, l, h1, h2, S⟩ := H
  exact ⟨⟨m, F.kept k, hm⟩, l.grow k, hg.trans h1, ho.trans h2, S⟩

theorem At.toks (H : At prog w K p lo O g L ρ σ s) {t : Tok} {dr : Drawn} : At prog w K p lo O g L ρ σ ⟨s.heap, s.gens, dr, t, s.os⟩ := ⟨H.fr, H.led, H.gens, H.os, H.stat⟩

/-- one object of the ledger changed in place -/
inductive Up (b : Addr) (u u' : Sp) : Ledger → Ledger → Prop
  | head {x : Ledger} : Up b u u' ((b, u) :: x) ((b, u') :: x)
  | tail {q : Addr × Sp} {x x' : Ledger} : Up b u u' x x' → Up b u u' (q :: x) (q :: x')
  | left {x x' y : Ledger} : Up b u u' x x' → Up b u u' (x ++ y) (x' ++ y)
  | right {x y y' : Ledger} : Up b u u' y y' → Up b u u' (x ++ y) (x ++ y')

theorem Up.split (U : Up a sp sp' σ σ') : ∃ pre post, σ = pre ++ (a, sp) :: post ∧ σ' = pre ++ (a, sp') :: post := by
  induction U with
  | head => exact ⟨[], _, rfl, rfl⟩
  | tail _ ih => obtain ⟨x, y, rfl, rfl⟩ := ih; exact ⟨_ :: x, y, rfl, rfl⟩
  | @left σ σ' τ _ ih => obtain ⟨x, y, rfl, rfl⟩ := ih; exact ⟨x, y ++ τ, by simp, by simp⟩
  | @right σ τ τ' _ ih => obtain ⟨x, y, rfl, rfl⟩ := ih; exact ⟨σ ++ x, y, by simp, by simp⟩
theorem Up.mem (U : Up a sp sp' σ σ') : (a, sp) ∈ σ := by obtain ⟨x, y, rfl, _⟩ := U.split; simp
theorem At.upd (H : At prog w K p lo O g L ρ σ s) (U : Up a sp sp' σ σ') {s' : Shared} (hs : Heap.SameBut a s.heap s'.heap) (ha : ∃ o, s'.heap.get? a = some o ∧ sp'.ok prog w o)
    (hg : s'.gens = s.gens := by rfl) (ho : s'.os = s.os := by rfl) : At prog w K p lo O g L ρ σ' s' := by
  obtain ⟨⟨m, F, hm⟩, l, h1, h2, S⟩ := H
  obtain ⟨pre, post, rfl, rfl⟩ := U.split
  have hmem : (a, sp) ∈ pre ++ (a, sp) :: post := by simp
  have hF := F.change hs (l.neL _ hmem) (l.new _ hmem)
  have nd := l.nd
  rw [List.map_append, List.map_cons, List.nodup_append] at nd
  obtain ⟨_, n2, n3⟩ := nd
  rw [List.nodup_cons] at n2
  have key : ∀ q ∈ pre ++ (a, sp') :: post, q = (a, sp') ∨ (q ∈ pre ++ (a, sp) :: post ∧ q.1 ≠ a) := by
    intro q hq
    rcases List.mem_append.mp hq with hq | hq
    · exact .inr ⟨List.mem_append_left _ hq, n3 _ (List.mem_map_of_mem hq) _ (List.mem_cons_self ..)⟩
    · rcases List.mem_cons.mp hq with rfl | hq
      · exact .inl rfl
      · exact .inr ⟨List.mem_append_right _ (.tail _ hq), fun e => n2.1 (by rw [← e]; exact List.mem_map_of_mem (f := (·.1)) hq)⟩
  refine ⟨⟨m, hF, hm⟩, ⟨?_, ?_, ?_, ?_, ?_⟩, hg.trans h1, ho.trans h2, S⟩
  · intro q hq
    rcases key q hq with rfl | ⟨hq, hne⟩
    · exact ha
    · obtain ⟨o, e, r⟩ := l.at_ q hq; exact ⟨o, (hs.2 _ hne).trans e, r⟩
  · intro q hq
    rcases key q hq with rfl | ⟨hq, hne⟩
    · exact l.neL (a, sp) hmem
    · exact l.neL q hq
  · intro q hq
    rcases key q hq with rfl | ⟨hq, hne⟩
    · exact l.new (a, sp) hmem
    · exact l.new q hq
  · intro q hq
    rcases key q hq with rfl | ⟨hq, hne⟩
    · exact l.high (a, sp) hmem
    · exact l.high q hq
  · have := l.nd; simpa using this

/-- less of the ledger, in any order -/
def Sub (σ' σ : Ledger) : Prop := ∀ x, @List.count _ (@instBEqOfDecidableEq _ (Classical.typeDecidableEq _)) x σ' ≤ @List.count _ (@instBEqOfDecidableEq _ (Classical.typeDecidableEq _)) x σ

theorem Sub.mem (h : Sub σ' σ) {q : Addr × Sp} (hq : q ∈ σ') : q ∈ σ := by
  letI : DecidableEq (Addr × Sp) := Classical.typeDecidableEq _
  have := List.count_pos_iff.mpr hq
  exact List.count_pos_iff.mp (Nat.lt_of_lt_of_le this (h q))

theorem Sub.nodup : ∀ {σ' : Ledger}, Sub σ' σ → (σ.map (·.1)).Nodup → (σ'.map (·.1)).Nodup
  | [], _, _ => List.nodup_nil
  | q :: τ, h, nd => by
    letI : DecidableEq (Addr × Sp) := Classical.typeDecidableEq _
    have hτ : Sub τ σ := fun x => Nat.le_trans (by rw [List.count_cons]; exact Nat.le_add_right _ _) (h x)
    rw [List.map_cons, List.nodup_cons]
    refine ⟨fun hm => ?_, Sub.nodup hτ nd⟩
    obtain ⟨r, hr, e⟩ := List.mem_map.mp hm
    have h1 : q ∈ σ := h.mem (.head _)
    have h2 : r ∈ σ := hτ.mem hr
    have inj : ∀ {l : Ledger}, (l.map (·.1)).Nodup → ∀ {x y}, x ∈ l → y ∈ l → x.1 = y.1 → x = y := by
      intro l
      induction l with
      | nil => intro _ x y hx; cases hx
      | cons z l ih =>
        intro nd x y hx hy e
        rw [List.map_cons, List.nodup_cons] at nd
        obtain ⟨n1, n2⟩ := nd
        cases hx with
        | head => cases hy with
          | head => rfl
          | tail _ hy => exact absurd (List.mem_map_of_mem (f := (·.1)) hy) (by rw [← e]; exact n1)
        | tail _ hx => cases hy with
          | head => exact absurd (List.mem_map_of_mem (f := (·.1)) hx) (by rw [e]; exact n1)
          | tail _ hy => exact ih n2 hx hy e
    have er : r = q := inj nd h2 h1 e
    subst er
    have hc : 2 ≤ List.count r (r :: τ) := by
      rw [List.count_cons_self]
      have := List.count_pos_iff.mpr hr
      omega
    have hc' := h r
    have nm : ∀ {l : Ledger}, (l.map (·.1)).Nodup → l.Nodup := by
      intro l
      induction l with
      | nil => intro _; exact List.nodup_nil
      | cons z l ih =>
        intro nd
        rw [List.map_cons, List.nodup_cons] at nd
        exact List.nodup_cons.mpr ⟨fun h => nd.1 (List.mem_map_of_mem (f := (·.1)) h), ih nd.2⟩
    have := List.nodup_iff_count.mp (nm nd) r
    omega

/-- one entry taken out of a ledger; a block taken out -/
inductive Pick (q : Addr × Sp) : Ledger → Ledger → Prop
  | here {x : Ledger} : Pick q (q :: x) x
  | there {r : Addr × Sp} {x y : Ledger} : Pick q x y → Pick q (r :: x) (r :: y)
  | skip {B x y : Ledger} : Pick q x y → Pick q (B ++ x) (B ++ y)
inductive PickB (B : Ledger) : Ledger → Ledger → Prop
  | here {x : Ledger} : PickB B (B ++ x) x
  | there {r : Addr × Sp} {x y : Ledger} : PickB B x y → PickB B (r :: x) (r :: y)
  | skip {C x y : Ledger} : PickB B x y → PickB B (C ++ x) (C ++ y)
theorem Sub.refl : Sub σ σ := fun x => Nat.le_refl _
theorem Sub.nil : Sub [] σ := fun x => Nat.zero_le _
theorem Pick.count {q : Addr × Sp} (P : Pick q σ σ') : Sub (q :: σ') σ ∧ Sub σ (q :: σ') := by
  induction P with
  | here => exact ⟨.refl, .refl⟩
  | there _ ih => exact ⟨fun x => by have := ih.1 x; simp only [List.count_cons] at this ⊢; omega, fun x => by have := ih.2 x; simp only [List.count_cons] at this ⊢; omega⟩
  | skip _ ih => exact ⟨fun x => by have := ih.1 x; simp only [List.count_cons, List.count_append] at this ⊢; omega, fun x => by have := ih.2 x; simp only [List.count_cons, List.count_append] at this ⊢; omega⟩
theorem PickB.count {B : Ledger} (P : PickB B σ σ') : Sub (B ++ σ') σ := by
  induction P with
  | here => exact .refl
  | there _ ih => exact fun x => by have := ih x; simp only [List.count_cons, List.count_append] at this ⊢; omega
  | skip _ ih => exact fun x => by have := ih x; simp only [List.count_append] at this ⊢; omega
theorem Sub.pick {q : Addr × Sp} (P : Pick q σ σ') (h : Sub τ σ') : Sub (q :: τ) σ := fun x => by
  have h1 := P.count.1 x
  have h2 := h x
  simp only [List.count_cons] at h1 ⊢; omega
theorem Sub.pickB {B : Ledger} (P : PickB B σ σ') (h : Sub τ σ') : Sub (B ++ τ) σ := fun x => by
  have h1 := P.count x
  have h2 := h x
  simp only [List.count_append] at h1 ⊢; omega

theorem At.sub (H : At prog w K p lo O g L ρ σ s) (h : Sub σ' σ) : At prog w K p lo O g L ρ σ' s :=
  ⟨H.fr, ⟨fun q hq => H.led.at_ q (h.mem hq), fun q hq => H.led.neL q (h.mem hq), fun q hq => H.led.new q (h.mem hq), fun q hq => H.led.high q (h.mem hq), h.nodup H.led.nd⟩, H.gens, H.os, H.stat⟩
theorem At.drop {q : Addr × Sp} (H : At prog w K p lo O g L ρ (q :: σ) s) : At prog w K p lo O g L ρ σ s :=
  H.sub fun x => by
    letI : DecidableEq (Addr × Sp) := Classical.typeDecidableEq _
    rw [List.count_cons]; exact Nat.le_add_right _ _

def LSub (ρ' ρ : Locs) : Prop := ∀ x v, ρ'.lookup x = some v → ρ.lookup x = some v
theorem LSub.nil : LSub [] ρ := fun _ _ e => by cases e
theorem LSub.cons {x : Str} {v : Value} (h1 : ρ.lookup x = some v) (h : LSub ρ' ρ) : LSub ((x, v) :: ρ') ρ := fun y u e => by
  rw [List.lookup_cons] at e
  cases q : y == x with
  | true => rw [q] at e; cases e; rw [beq_iff_eq.mp q]; exact h1
  | false => rw [q] at e; exact h y u e
theorem At.loc (H : At prog w K p lo O g L ρ σ s) (h : LSub ρ' ρ) : At prog w K p lo O g L ρ' σ s :=
  let ⟨m, F, hm⟩ := H.fr; ⟨⟨m, F, fun x v e => hm x v (h x v e)⟩, H.led, H.gens, H.os, H.stat⟩
end
end Mine
namespace Mine

inductive Laid (prog : Program) (w : World) : Ledger → List (Addr × Obj) → Prop
  | nil : Laid prog w [] []
  | cons {a : Addr} {u : Sp} {o : Obj} {x : Ledger} {y : List (Addr × Obj)} : u.ok prog w o → Laid prog w x y → Laid prog w ((a, u) :: x) ((a, o) :: y)

section
variable {prog : Program} {w : World} {K : Frag} {p : Program} {lo : List Str} {O : OsState} {g h h' : Heap} {L a : Addr} {ρ ρ' : Locs} {σ σ' τ : Ledger} {s : Shared} {sp sp' : Sp} {m : Str → Option Value} {o : Obj}
  {A : Around} {E : Value → Shared → Prop}

theorem Laid.of : ∀ {σ : Ledger}, (∀ q ∈ σ, ∃ o, h.get? q.1 = some o ∧ q.2.ok prog w o) → ∃ news, Laid prog w σ news ∧ ∀ q ∈ news, h.get? q.1 = some q.2
  | [], _ => ⟨[], .nil, fun _ hq => nomatch hq⟩
  | (b, u) :: r, hall => by
    obtain ⟨o, e, k⟩ := hall (b, u) (.head _)
    obtain ⟨y, l, hy⟩ := Laid.of (σ := r) fun q hq => hall q (.tail _ hq)
    refine ⟨(b, o) :: y, .cons k l, fun q hq => ?_⟩
    rcases List.mem_cons.mp hq with rfl | hq
    · exact e
    · exact hy q hq

theorem Laid.fst {news : List (Addr × Obj)} (l : Laid prog w σ news) : news.map (·.1) = σ.map (·.1) := by
  induction l with
  | nil => rfl
  | cons _ _ ih => simp [ih]

theorem Laid.back {news : List (Addr × Obj)} (l : Laid prog w σ news) (N : ∀ q ∈ news, h.get? q.1 = some q.2) : ∀ q ∈ σ, ∃ o, h.get? q.1 = some o ∧ q.2.ok prog w o := by
  induction l with
  | nil => exact fun _ hq => nomatch hq
  | @cons b u o x y k _ ih =>
    intro q hq
    rcases List.mem_cons.mp hq with rfl | hq
    · exact ⟨o, N (b, o) (.head _), k⟩
    · exact ih (fun q hq => N q (.tail _ hq)) q hq

theorem At.news (H : At prog w K p lo O g L ρ σ s) : ∃ news m, Fr g L s.heap m ∧ (∀ x v, ρ.lookup x = some v → m x = some v) ∧ News g L s.heap news ∧ Laid prog w σ news := by
  obtain ⟨⟨m, F, hm⟩, l, h1, h2, S⟩ := H
  obtain ⟨news, la, hn⟩ := Laid.of l.at_
  refine ⟨news, m, F, hm, fun q hq => ⟨hn q hq, ?_⟩, la⟩
  have : q.1 ∈ news.map (·.1) := List.mem_map_of_mem hq
  rw [la.fst] at this
  obtain ⟨r, hr, e⟩ := List.mem_map.mp this
  exact ⟨e ▸ l.neL r hr, e ▸ l.new r hr⟩

theorem At.ofNews (H : At prog w K p lo O g L ρ σ s) (U : Up a sp sp' σ σ') {s' : Shared} {news : List (Addr × Obj)} {m : Str → Option Value} (F : Fr g L s'.heap m) (hm : ∀ x v, ρ.lookup x = some v → m x = some v) (N : News g L s'.heap news) (la : Laid prog w σ' news)
    (hg : s'.gens = s.gens := by rfl) (ho : s'.os = s.os := by rfl) : At prog w K p lo O g L ρ σ' s' := by
  obtain ⟨_, l, h1, h2, S⟩ := H
  have keys : σ'.map (·.1) = σ.map (·.1) := by obtain ⟨x, y, rfl, rfl⟩ := U.split; simp
  have back : ∀ q ∈ σ', ∃ r ∈ σ, r.1 = q.1 := fun q hq => by
    have : q.1 ∈ σ'.map (·.1) := List.mem_map_of_mem hq
    rw [keys] at this
    obtain ⟨r, hr, e⟩ := List.mem_map.mp this
    exact ⟨r, hr, e⟩
  exact ⟨⟨m, F, hm⟩, ⟨la.back fun q hq => (N q hq).1, fun q hq => let ⟨r, hr, e⟩ := back q hq; e ▸ l.neL r hr, fun q hq => let ⟨r, hr, e⟩ := back q hq; e ▸ l.new r hr,
    fun q hq => let ⟨r, hr, e⟩ := back q hq; e ▸ l.high r hr, keys ▸ l.nd⟩, hg.trans h1, ho.trans h2, S⟩

/-- the object of the ledger that an update speaks of -/
theorem Laid.up {news : List (Addr × Obj)} (la : Laid prog w σ news) (U : Up a sp sp' σ σ') (nd : (σ.map (·.1)).Nodup) : ∃ o, sp.ok prog w o ∧ (a, o) ∈ news ∧ ∀ o', sp'.ok prog w o' → ∃ news', Upd a o o' news news' ∧ Laid prog w σ' news' := by
  obtain ⟨pre, post, rfl, rfl⟩ := U.split
  clear U
  induction pre generalizing news with
  | nil =>
    cases la with
    | @cons _ _ o _ y k l =>
      refine ⟨o, k, .head _, fun o' k' => ⟨(a, o') :: y, .head fun q hq => ?_, .cons k' l⟩⟩
      rw [List.nil_append, List.map_cons, List.nodup_cons] at nd
      intro e
      have : q.1 ∈ y.map (·.1) := List.mem_map_of_mem hq
      rw [l.fst, e] at this
      exact nd.1 this
  | cons q pre ih =>
    cases la with
    | @cons b u o _ y k l =>
      rw [List.cons_append, List.map_cons, List.nodup_cons] at nd
      obtain ⟨o1, k1, m1, f⟩ := ih l nd.2
      refine ⟨o1, k1, .tail _ m1, fun o' k' => ?_⟩
      obtain ⟨n', U', la'⟩ := f o' k'
      refine ⟨(b, o) :: n', .tail (fun e => ?_) U', .cons k la'⟩
      have e' : b = a := e
      exact nd.1 (by rw [e']; simp)

theorem Laid.mem {news : List (Addr × Obj)} (la : Laid prog w σ news) (hm : (a, sp) ∈ σ) : ∃ o, sp.ok prog w o ∧ (a, o) ∈ news := by
  induction la with
  | nil => cases hm
  | cons k l ih =>
    cases hm with
    | head => exact ⟨_, k, .head _⟩
    | tail _ hm => obtain ⟨o, k1, m1⟩ := ih hm; exact ⟨o, k1, .tail _ m1⟩

/-! names: in any environment whose locals lie at L -/
section
variable {env : Env} {x : Str} {v : Value} {pos : Pos} {M : Model} {c : Addr} {kvs : List (Str × Value)} {v₀ : Option Value}
theorem r_loc {Q : Value → Shared → Prop} (H : At prog w K p lo O g L ρ σ s) (hv : ρ.lookup x = some v) (h : Q v s)
    (hL : env.locals = L := by rfl) (hk : env.scope.kind = .function := by rfl) (hx : env.kindOf x = some .local := by rfl) (hd : (x == ("__debug__" : Str)) = false := by decide) :
    wpAny M A (eval (.Name x pos) env) Q E s := let ⟨_, F, hm⟩ := H.fr; wpAny_Name (wpAny_loadName_local hk hx (hL ▸ F.ns) (hm _ _ hv) h) hd
theorem r_glob {Q : Value → Shared → Prop} (H : At prog w K p lo O g L ρ σ s) (e : nsIn K mainGlobals x = some (some v)) (h : Q v s)
    (hg : env.globals = mainGlobals := by rfl) (hk : env.scope.kind = .function := by rfl) (hx : env.kindOf x = some .globalImplicit := by rfl) (hd : (x == ("__debug__" : Str)) = false := by decide) :
    wpAny M A (eval (.Name x pos) env) Q E s :=
  let ⟨_, F, _⟩ := H.fr; let ⟨_, _, _, T⟩ := H.stat.T; have T' := topRead_of T; Name_function_global hk hx (loadGlobal_global (env := env) (hg ▸ T'.g.keeps F.keep) (mg_of H.stat.X T'.g e) h) hd
theorem r_bltn {Q : Value → Shared → Prop} (H : At prog w K p lo O g L ρ σ s) (e : nsIn K mainGlobals x = some none) (hv : bootBuiltins x = some v) (hn : x ≠ "__name__") (h : Q v s)
    (hg : env.globals = mainGlobals := by rfl) (hb : env.builtins = builtinsNs := by rfl) (hk : env.scope.kind = .function := by rfl) (hx : env.kindOf x = some .globalImplicit := by rfl) (hd : (x == ("__debug__" : Str)) = false := by decide) :
    wpAny M A (eval (.Name x pos) env) Q E s :=
  let ⟨_, F, _⟩ := H.fr; let ⟨_, _, _, T⟩ := H.stat.T; have T' := topRead_of T
  Name_function_global hk hx (loadGlobal_builtin (env := env) (hg ▸ T'.g.keeps F.keep) (mg_none_of H.stat.X T'.g e) (hb ▸ T'.b.keeps F.keep) ((T'.builtins x hn).trans hv) h) hd
theorem r_st {Q : Unit → Shared → Prop} (H : At prog w K p lo O g L ρ σ s) (h : ∀ s', At prog w K p lo O g L ((x, v) :: ρ) σ s' → Q () s')
    (hL : env.locals = L := by rfl) (hk : env.scope.kind = .function := by rfl) (hx : env.kindOf x = some .local := by rfl) : wpAny M A (storeName env x v) Q E s := by
  obtain ⟨⟨m, F, hm⟩, l, h1, h2, S⟩ := H
  subst hL
  refine wpAny_storeName_local hx F.ns (fun h' hn hs => h _ ⟨⟨_, F.set hn hs, fun y u e => ?_⟩, ?_, h1, h2, S⟩) (by rw [hk]; rfl)
  · rw [List.lookup_cons] at e
    show (if y = x then some v else m y) = some u
    cases q : y == x with
    | true => rw [q] at e; rw [if_pos (beq_iff_eq.mp q)]; exact e
    | false => rw [q] at e; rw [if_neg (beq_eq_false_iff_ne.mp q)]; exact hm y u e
  · exact ⟨fun q hq => let ⟨o, e, k⟩ := l.at_ q hq; ⟨o, (hs.2 _ (l.neL q hq)).trans e, k⟩, l.neL, l.new, l.high, l.nd⟩
/-- a captured name, by its cell -/
theorem r_cell {Q : Value → Shared → Prop} (H : At prog w K p lo O g L ρ σ s) (hc : env.cells.lookup x = some c) (hm : (c, Sp.cell (some v)) ∈ σ) (h : Q v s)
    (hk : env.scope.kind = .function := by rfl) (hx : env.kindOf x = some .cell := by rfl) (hd : (x == ("__debug__" : Str)) = false := by decide) :
    wpAny M A (eval (.Name x pos) env) Q E s := by
  obtain ⟨o, e, k⟩ := H.led.get hm
  exact wpAny_Name (wpAny_loadName_cell hk hx hc ⟨o, e, k⟩ h) hd
theorem r_stCell {Q : Unit → Shared → Prop} (H : At prog w K p lo O g L ρ σ s) (hc : env.cells.lookup x = some c) (U : Up c (.cell v₀) (.cell (some v)) σ σ') (h : ∀ s', At prog w K p lo O g L ρ σ' s' → Q () s')
    (hk : env.scope.kind = .function := by rfl) (hx : env.kindOf x = some .cell := by rfl) : wpAny M A (storeName env x v) Q E s := by
  obtain ⟨o, e, k⟩ := H.led.get U.mem
  exact wpAny_storeName_cell hk hx hc ⟨o, e, k⟩ fun h' hv hs => h _ (H.upd U hs (let ⟨o', e', k'⟩ := hv; ⟨o', e', k'⟩))
/-- a comprehension's own name: its names are an object of the ledger -/
theorem r_cloc {Q : Value → Shared → Prop} (H : At prog w K p lo O g L ρ σ s) (hm : (c, Sp.nsp kvs) ∈ σ) (hv : kvs.lookup x = some v) (h : Q v s)
    (hL : env.locals = c := by rfl) (hk : env.scope.kind = .function := by rfl) (hx : env.kindOf x = some .local := by rfl) (hd : (x == ("__debug__" : Str)) = false := by decide) :
    wpAny M A (eval (.Name x pos) env) Q E s := by
  subst hL
  obtain ⟨o, e, m, k1, k2⟩ := H.led.get hm
  exact wpAny_Name (wpAny_loadName_local hk hx (k1.ns e) (k2 _ _ hv) h) hd
theorem r_cst {Q : Unit → Shared → Prop} (H : At prog w K p lo O g L ρ σ s) (U : Up c (.nsp kvs) (.nsp ((x, v) :: kvs)) σ σ') (h : ∀ s', At prog w K p lo O g L ρ σ' s' → Q () s')
    (hL : env.locals = c := by rfl) (hk : env.scope.kind = .function := by rfl) (hx : env.kindOf x = some .local := by rfl) : wpAny M A (storeName env x v) Q E s := by
  subst hL
  obtain ⟨o, e, m, k1, k2⟩ := H.led.get U.mem
  refine wpAny_storeName_local hx (k1.ns e) (fun h' hn hs => h _ (H.upd U hs ?_)) (by rw [hk]; rfl)
  obtain ⟨o', e', k'⟩ := LCg.ns_obj hn
  refine ⟨o', e', _, k', fun y u ey => ?_⟩
  rw [List.lookup_cons] at ey
  show (if y = x then some v else m y) = some u
  cases q : y == x with
  | true => rw [q] at ey; rw [if_pos (beq_iff_eq.mp q)]; exact ey
  | false => rw [q] at ey; rw [if_neg (beq_eq_false_iff_ne.mp q)]; exact k2 y u ey
end

/-! attributes -/
theorem AttrsAre.getL {es : List DictEntry} {kvs : List (Str × Value)} (h : AttrsAre es kvs) (name : Str) : PySem.W.getL name es = some (kvs.lookup name) := by
  have nr : es.any (·.refKey) = false := by
    induction h with
    | nil => rfl
    | cons hh k t v _ ih => rw [List.any_cons, ih]; rfl
  have key : (es.find? (·.key.isStr name)).map (·.val) = kvs.lookup name := by
    clear nr
    induction h with
    | nil => rfl
    | cons hh k t v r ih =>
      have e1 : (Value.str k t).isStr name = (k == name) := rfl
      rw [List.find?_cons, List.lookup_cons]
      simp only [e1]
      cases q : k == name with
      | true =>
        have : (name == k) = true := by rw [beq_iff_eq.mp q]; simp
        rw [this]; rfl
      | false =>
        have : (name == k) = false := by rw [beq_eq_false_iff_ne] at q ⊢; exact fun e => q e.symm
        rw [this]; exact ih
  unfold PySem.W.getL
  rw [nr, ← key]
  cases es.find? (·.key.isStr name) <;> rfl

def putA (name : Str) (v : Value) : List (Str × Value) → List (Str × Value)
  | [] => [(name, v)]
  | q :: r => if q.1 == name then (q.1, v) :: r else q :: putA name v r

theorem AttrsAre.put {es : List DictEntry} {kvs : List (Str × Value)} (h : AttrsAre es kvs) (name : Str) (v : Value) (hh : Int) (t : Tok) : AttrsAre (putL name hh (.str name t) v es) (putA name v kvs) := by
  induction h with
  | nil => exact .cons _ _ _ _ .nil
  | cons h1 k t1 u r ih =>
    unfold putL putA
    show AttrsAre (if (k == name) = true then _ else _) (if (k == name) = true then _ else _)
    split
    · exact .cons _ _ _ _ r
    · exact .cons _ _ _ _ ih
theorem AttrsAre.length {es : List DictEntry} {kvs : List (Str × Value)} (h : AttrsAre es kvs) : es.length = kvs.length := by
  induction h with
  | nil => rfl
  | cons _ _ _ _ _ ih => simp [ih]

section
variable {x C d f : Addr} {kvs : List (Str × Value)} {name : Str} {v : Value}
theorem At.inst (H : At prog w K p lo O g L ρ σ s) (h1 : (x, Sp.inst C d) ∈ σ) (h2 : (d, Sp.attrs kvs) ∈ σ) : ∃ es n, AttrsAre es kvs ∧ InstAt s.heap x (instObj C d) C (some (dictOf es n)) := by
  obtain ⟨o1, e1, k1⟩ := H.led.get h1
  obtain ⟨o2, e2, k2⟩ := H.led.get h2
  obtain ⟨es, n, e, k⟩ := k2
  have k1' : o1 = instObj C d := k1
  subst k1'; subst e
  exact ⟨es, n, k, ⟨e1, rfl, rfl, e2⟩⟩

theorem r_get {expr : Bool} {attr : Option Value} {Q : Value → Shared → Prop} (H : At prog w K p lo O g L ρ σ s) (h1 : (x, Sp.inst C d) ∈ σ) (h2 : (d, Sp.attrs kvs) ∈ σ) (hg : plainGet K C name = true) (hh : hasDictIn K C = true)
    (ha : findIn K (.ref C) name = some attr) (hn : noGet K attr = true) (hl : kvs.lookup name = some v) (hv : handedIn v = true) (h : ∀ s', At prog w K p lo O g L ρ σ s' → Q v s') :
    wpAny (model prog w) A (getAttr (.ref x) name expr) Q E s := by
  obtain ⟨es, n, k, I⟩ := H.inst h1 h2
  obtain ⟨m, F, _⟩ := H.fr
  exact get_own F H.stat.X I hg hh ha hn (by rw [k.getL, hl]) hv (h _ H.toks)

theorem r_meth {pl : Sem Bool} {Q : Value × List Value → Shared → Prop} (H : At prog w K p lo O g L ρ σ s) (h1 : (x, Sp.inst C d) ∈ σ) (h2 : (d, Sp.attrs kvs) ∈ σ) (hg : plainGet K C name = true)
    (hf : findIn K (.ref C) name = some (some (.ref f))) (ht : isFn K (.ref f) = true) (hl : kvs.lookup name = none) (h : Q (.ref f, [.ref x]) s) : wpAny (model prog w) A (getMethod (.ref x) name pl) Q E s := by
  obtain ⟨es, n, k, I⟩ := H.inst h1 h2
  obtain ⟨m, F, _⟩ := H.fr
  exact method_inst F H.stat.X I hg hf ht (by rw [k.getL, hl]) h

theorem r_setA {Q : Unit → Shared → Prop} (H : At prog w K p lo O g L ρ σ s) (h1 : (x, Sp.inst C d) ∈ σ) (U : Up d (.attrs kvs) (.attrs (putA name v kvs)) σ σ')
    (hs : findIn K (.ref C) "__setattr__" = some (some (.builtin "object.__setattr__"))) (hp : plainOver K C = true) (ht : takerIn K C name = some none) (hh : hasDictIn K C = true) (hz : (putA name v kvs).length ≤ 1000)
    (h : ∀ s', At prog w K p lo O g L ρ σ' s' → Q () s') : wpAny (model prog w) A (setAttr (.ref x) name v) Q E s := by
  obtain ⟨news, m, F, hm, N, la⟩ := H.news
  obtain ⟨o, k, hmem, f⟩ := la.up U H.led.nd
  obtain ⟨es, n, rfl, k⟩ := k
  obtain ⟨o1, e1, k1⟩ := H.led.get h1
  have k1' : o1 = instObj C d := k1
  subst k1'
  obtain ⟨news', U', la'⟩ := f (dictOf (putL name (PyData.keyHash w.params name) (.str name (s.toks + 1)) v es) (putN name es n)) ⟨_, _, rfl, k.put _ _ _ _⟩
  exact set_dict F H.stat.X N ⟨e1, rfl, rfl, (N _ hmem).1⟩ rfl hs hp ht hh (by rw [k.getL]; rfl) rfl U' (by rw [(k.put _ _ _ _).length]; exact hz) fun h' F' N' => h _ (H.ofNews U F' hm N' la')
end
end
end Mine
namespace Mine

section
variable {prog : Program} {w : World} {K : Frag} {p : Program} {lo : List Str} {O : OsState} {g h h' : Heap} {L a b : Addr} {ρ ρ' : Locs} {σ σ' τ : Ledger} {s : Shared} {sp sp' : Sp} {m : Str → Option Value} {o : Obj}
  {A : Around} {E : Value → Shared → Prop} {ns ms : List Int} {as : List Addr} {kvs : List (Int × Value)} {k x : Int} {t u : Tok} {v : Value}

theorem At.ofNewsC (H : At prog w K p lo O g L ρ σ s) {s' : Shared} {D : Addr} {news : List (Addr × Obj)} {m : Str → Option Value} (F : Fr g L s'.heap m) (hm : ∀ x v, ρ.lookup x = some v → m x = some v) (N : News g L s'.heap ((D, o) :: news)) (la : Laid prog w σ news)
    (k : sp.ok prog w o) (l1 : ∀ q ∈ news, q.1 < D) (lo1 : sysModules < D) (hg : s'.gens = s.gens := by rfl) (ho : s'.os = s.os := by rfl) : At prog w K p lo O g L ρ ((D, sp) :: σ) s' := by
  obtain ⟨_, l, h1, h2, S⟩ := H
  refine ⟨⟨m, F, hm⟩, ⟨(Laid.cons k la).back fun q hq => (N q hq).1, fun q hq => ?_, fun q hq => ?_, fun q hq => ?_, ?_⟩, hg.trans h1, ho.trans h2, S⟩
  · rcases List.mem_cons.mp hq with rfl | hq
    · exact (N (D, o) (.head _)).2.1
    · exact l.neL q hq
  · rcases List.mem_cons.mp hq with rfl | hq
    · exact (N (D, o) (.head _)).2.2
    · exact l.new q hq
  · rcases List.mem_cons.mp hq with rfl | hq
    · exact lo1
    · exact l.high q hq
  · rw [List.map_cons, List.nodup_cons]
    refine ⟨fun hm => ?_, l.nd⟩
    have hm' : D ∈ σ.map (·.1) := hm
    rw [← la.fst] at hm'
    obtain ⟨q, hq, e⟩ := List.mem_map.mp hm'
    exact absurd (l1 q hq) (by rw [e]; exact Nat.lt_irrefl D)

theorem At.ints (H : At prog w K p lo O g L ρ σ s) (hm : (a, Sp.ints ns) ∈ σ) : ∃ vs n, s.heap.get? a = some (PySem.W.listOf vs.toArray n) ∧ IntsAre vs ns := by
  obtain ⟨o, e, vs, n, rfl, hi⟩ := H.led.get hm; exact ⟨vs, n, e, hi⟩
theorem At.refs (H : At prog w K p lo O g L ρ σ s) (hm : (a, Sp.refs as) ∈ σ) : ∃ n, s.heap.get? a = some (PySem.W.listOf (as.map Value.ref).toArray n) := by
  obtain ⟨o, e, n, rfl⟩ := H.led.get hm; exact ⟨n, e⟩
theorem At.dict (H : At prog w K p lo O g L ρ σ s) (hm : (a, Sp.idict kvs) ∈ σ) : s.heap.DictOf (PySem.intKind prog w) a kvs := by
  obtain ⟨o, e, k⟩ := H.led.get hm; exact Heap.dictOf_iff.mpr ⟨o, e, k⟩
theorem At.low (H : At prog w K p lo O g L ρ σ s) (hm : (a, sp) ∈ σ) : (a == sysModules) = false := H.led.notMod hm
theorem isListOf {h : Heap} {its : Array Value} {n : Nat} (e : h.get? a = some (PySem.W.listOf its n)) : h.IsList a its := ⟨_, e, rfl, n, rfl⟩

/-! len -/
theorem r_len_ints {Q : Value → Shared → Prop} (H : At prog w K p lo O g L ρ σ s) (hm : (a, Sp.ints ns) ∈ σ) (hf : ns.length < 9000000) (h : ∀ t s', At prog w K p lo O g L ρ σ s' → Q (.int ns.length t) s') :
    wpAny (model prog w) A (call (.builtin "len") [.ref a]) Q E s := by
  obtain ⟨vs, n, e, hi⟩ := H.ints hm
  have el : vs.toArray.size = ns.length := by rw [List.size_toArray]; exact hi.length
  exact call_len_list (isListOf e) (by rw [el]; omega) (by rw [el]; exact h _ _ H.toks)
theorem r_len_dict {Q : Value → Shared → Prop} (H : At prog w K p lo O g L ρ σ s) (hm : (a, Sp.idict kvs) ∈ σ) (hf : kvs.length < 9000000) (h : ∀ t s', At prog w K p lo O g L ρ σ s' → Q (.int kvs.length t) s') :
    wpAny (model prog w) A (call (.builtin "len") [.ref a]) Q E s :=
  call_len_dict (H.low hm) (H.dict hm) (by omega) (h _ _ H.toks)

/-! items -/
section
variable {value slice : PySem.Expr}
theorem r_item_ints {Q : Value → Shared → Prop} (H : At prog w K p lo O g L ρ σ s) (hm : (a, Sp.ints ns) ∈ σ) (h0 : 0 ≤ k) (h1 : k < ns.length) (h2 : ns.length < 9000000) (h : ∀ t, Q (.int (ns.getD k.toNat 0) t) s)
    (hs : subscripted slice false (.ref a) (.int k u) = operate [.ref a, .int k u] (getItem (.ref a) (.int k u)) := by with_unfolding_all rfl) :
    wpAny (model prog w) A (subscriptTail value slice (.ref a) (.int k u)) Q E s := by
  obtain ⟨vs, n, e, hi⟩ := H.ints hm
  exact item_anyK (isListOf e) hi h0 h1 (by omega) h hs
theorem r_item_dict {Q : Value → Shared → Prop} (H : At prog w K p lo O g L ρ σ s) (hm : (a, Sp.idict kvs) ∈ σ) (hx : valueAt kvs k = some v) (h : ∀ s', At prog w K p lo O g L ρ σ s' → Q v s')
    (hs : subscripted slice false (.ref a) (.int k u) = operate [.ref a, .int k u] (getItem (.ref a) (.int k u)) := by with_unfolding_all rfl) :
    wpAny (model prog w) A (subscriptTail value slice (.ref a) (.int k u)) Q E s :=
  have D := H.dict hm
  tail_any D.typeIs slot_dict_getitem.lookup (wpAny_getItem_of (knd := PySem.intKind prog w) (intKind_is prog w k u) D.mapOf hx (h _ H.toks)) hs
end

/-! in -/
theorem r_in_dict {Q : Value → Shared → Prop} (H : At prog w K p lo O g L ρ σ s) (hm : (a, Sp.idict kvs) ∈ σ) (h : ∀ s', At prog w K p lo O g L ρ σ s' → Q (.bool (valueAt kvs k).isSome) s') :
    wpAny (model prog w) A (compareOp .In (.int k u) (.ref a)) Q E s := wpAny_in_of (knd := PySem.intKind prog w) (intKind_is prog w k u) (H.low hm) (H.dict hm).mapOf (h _ H.toks)
theorem r_notin_dict {Q : Value → Shared → Prop} (H : At prog w K p lo O g L ρ σ s) (hm : (a, Sp.idict kvs) ∈ σ) (h : ∀ s', At prog w K p lo O g L ρ σ s' → Q (.bool (!(valueAt kvs k).isSome)) s') :
    wpAny (model prog w) A (compareOp .NotIn (.int k u) (.ref a)) Q E s := wpAny_notIn_of (knd := PySem.intKind prog w) (intKind_is prog w k u) (H.low hm) (H.dict hm).mapOf (h _ H.toks)
theorem r_notin_ints {Q : Value → Shared → Prop} (H : At prog w K p lo O g L ρ σ s) (hm : (a, Sp.ints ns) ∈ σ) (h : Q (.bool (!(ns.any (· == k)))) s) :
    wpAny (model prog w) A (compareOp .NotIn (.int k u) (.ref a)) Q E s := by
  obtain ⟨vs, n, e, hi⟩ := H.ints hm; exact notin_list_ints (isListOf e) hi h

/-! methods of lists and dicts -/
theorem r_meth_ints {name : Str} {id : String} {pl : Sem Bool} {Q : Value × List Value → Shared → Prop} (H : At prog w K p lo O g L ρ σ s) (hm : (a, Sp.ints ns) ∈ σ) (slot : Slot "list" name id) (ty : typeOf (.builtin id) = pure (.type "method_descriptor"))
    (h : Q (.builtin id, [.ref a]) s) : wpAny (model prog w) A (getMethod (.ref a) name pl) Q E s := by
  obtain ⟨vs, n, e, hi⟩ := H.ints hm
  exact getMethod_builtin ⟨_, e, rfl⟩ PySem.F.plainAttrs_list slot ty (fun b eb => by cases eb; exact ⟨_, e, rfl⟩) h
theorem r_meth_refs {name : Str} {id : String} {pl : Sem Bool} {Q : Value × List Value → Shared → Prop} (H : At prog w K p lo O g L ρ σ s) (hm : (a, Sp.refs as) ∈ σ) (slot : Slot "list" name id) (ty : typeOf (.builtin id) = pure (.type "method_descriptor"))
    (h : Q (.builtin id, [.ref a]) s) : wpAny (model prog w) A (getMethod (.ref a) name pl) Q E s := by
  obtain ⟨n, e⟩ := H.refs hm
  exact getMethod_builtin ⟨_, e, rfl⟩ PySem.F.plainAttrs_list slot ty (fun b eb => by cases eb; exact ⟨_, e, rfl⟩) h
/-! stores -/
theorem r_set_dict {Q : Unit → Shared → Prop} (H : At prog w K p lo O g L ρ σ s) (U : Up a (.idict kvs) (.idict (stored kvs k v)) σ σ') (hsz : kvs.length < 9000000) (h : ∀ s', At prog w K p lo O g L ρ σ' s' → Q () s') :
    wpAny (model prog w) A (setItem (.ref a) (.int k u) v) Q E s :=
  wpAny_setItem_pairs (hsz := by rw [sizeLine_eq]; omega) (knd := PySem.intKind prog w) (intKind_is prog w k u) (H.dict U.mem) fun h' hD hs =>
    h _ (H.upd U hs (let ⟨o, e, k⟩ := Heap.dictOf_iff.mp hD; ⟨o, e, k⟩))
theorem r_del_dict {Q : Unit → Shared → Prop} (H : At prog w K p lo O g L ρ σ s) (U : Up a (.idict kvs) (.idict (without kvs k)) σ σ') (hl : (valueAt kvs k).isSome = true) (hsz : kvs.length < 9000000) (h : ∀ s', At prog w K p lo O g L ρ σ' s' → Q () s') :
    wpAny (model prog w) A (delItem (.ref a) (.int k u)) Q E s := by
  have hD := H.dict U.mem
  unfold delItem
  try with_reducible refine wpAny_holding ?_
  refine wpAny_bind (wpAny_sequenceKey hD.typeIs (by decide) ?_)
  refine wpAny_bind (wpAny_callSpecial?_slot (name := Str.ofString "__delitem__") hD.typeIs PySem.F.slot_dict_delitem
    (call_meetsIn PySem.F.slot_dict_delitem hD.typeIs PySem.F.entry_dict_delitem (PySem.F.args_dict_delitem_2 _ _) (meets_dict_delitem_pairs (PySem.intKind prog w) a (intKind_is prog w k u)) ⟨kvs, hD, by rw [sizeLine_eq]; omega, hl, fun h' hmm hs => ?_⟩))
  exact wpAny_pure (h _ (H.upd U hs (let ⟨o, e, k⟩ := Heap.dictOf_iff.mp hmm; ⟨o, e, k⟩)))
theorem r_set_ints {Q : Unit → Shared → Prop} (H : At prog w K p lo O g L ρ σ s) (U : Up a (.ints ns) (.ints (ns.set k.toNat x)) σ σ') (h0 : 0 ≤ k) (h1 : k < ns.length) (h2 : ns.length < 9000000) (h : ∀ s', At prog w K p lo O g L ρ σ' s' → Q () s') :
    wpAny (model prog w) A (setItem (.ref a) (.int k t) (.int x u)) Q E s := by
  obtain ⟨vs, n, e, hi⟩ := H.ints U.mem
  have hl : vs.toArray.size = ns.length := by rw [List.size_toArray]; exact hi.length
  have q := PySem.IsL.update e (fun x_1 => x_1.setIfInBounds k.toNat (.int x u))
  have he : vs.toArray.setIfInBounds k.toNat (.int x u) = (vs.set k.toNat (.int x u)).toArray := by simp
  rw [he] at q
  exact ki_setAt e h0 (by omega) (by rw [hl]; exact h1) (h _ (H.upd U (Heap.SameBut.update ..) ⟨_, q, _, _, rfl, ints_set hi _⟩))

/-! growing, shrinking -/
theorem r_append_ints {Q : Value → Shared → Prop} (H : At prog w K p lo O g L ρ σ s) (U : Up a (.ints ns) (.ints (ns ++ [k])) σ σ') (hz : ns.length < 9000000) (h : ∀ s', At prog w K p lo O g L ρ σ' s' → Q .none s') :
    wpAny (model prog w) A (call (.builtin "list.append") [.ref a, .int k u]) Q E s := by
  obtain ⟨vs, n, e, hi⟩ := H.ints U.mem
  refine append_at (hsz := by rw [List.size_toArray, hi.length, sizeLine_eq]; omega) e fun h' hs e' => h _ (H.upd U hs ⟨_, e', vs ++ [.int k u], n + 1, ?_, hi.append (.cons k u .nil)⟩)
  simp
theorem r_append_refs {Q : Value → Shared → Prop} (H : At prog w K p lo O g L ρ σ s) (U : Up a (.refs as) (.refs (as ++ [b])) σ σ') (hz : as.length < 9000000) (h : ∀ s', At prog w K p lo O g L ρ σ' s' → Q .none s') :
    wpAny (model prog w) A (call (.builtin "list.append") [.ref a, .ref b]) Q E s := by
  obtain ⟨n, e⟩ := H.refs U.mem
  refine append_at (hsz := by simp only [List.size_toArray, List.length_map]; rw [sizeLine_eq]; omega) e fun h' hs e' => h _ (H.upd U hs ⟨_, e', n + 1, ?_⟩)
  simp
theorem popLast {Q : Value → Shared → Prop} {vs : List Value} {y : Value} {n : Nat} (e : s.heap.get? a = some (PySem.W.listOf (vs ++ [y]).toArray n)) (hz : vs.length < 9000000)
    (h : ∀ h', Heap.SameBut a s.heap h' → h'.get? a = some (PySem.W.listOf vs.toArray (n + 1)) → Q y { s with heap := h' }) : wpAny (model prog w) A (call (.builtin "list.pop") [.ref a]) Q E s := by
  have hz' : (vs ++ [y]).toArray.size ≤ sizeLine := by rw [List.size_toArray, List.length_append, sizeLine_eq]; simp; omega
  have hk : (vs ++ [y]).toArray.size - 1 = vs.length := by rw [List.size_toArray, List.length_append]; rfl
  have hy : (vs ++ [y]).toArray[(vs ++ [y]).toArray.size - 1]? = some y := by rw [hk]; simp
  refine call_meets PySem.F.slot_list_pop ⟨_, e, rfl⟩ PySem.F.entry_list_pop (PySem.F.args_list_pop_1 _) (PySem.MeetsSeq.list_pop_last a _ n y hy hz') ⟨e, h _ (Heap.SameBut.update ..) ?_⟩
  have q := PySem.IsL.update e (fun xs => xs.eraseIdxIfInBounds ((vs ++ [y]).toArray.size - 1))
  have he : (vs ++ [y]).toArray.eraseIdxIfInBounds ((vs ++ [y]).toArray.size - 1) = vs.toArray := by rw [hk, kl_erase, List.append_nil]
  rw [he, if_neg (by simp)] at q
  exact q
theorem r_pop_ints {Q : Value → Shared → Prop} (H : At prog w K p lo O g L ρ σ s) (U : Up a (.ints (ns ++ [k])) (.ints ns) σ σ') (hz : ns.length < 9000000) (h : ∀ t s', At prog w K p lo O g L ρ σ' s' → Q (.int k t) s') :
    wpAny (model prog w) A (call (.builtin "list.pop") [.ref a]) Q E s := by
  obtain ⟨vs, n, e, hi⟩ := H.ints U.mem
  have hlen := hi.length
  obtain ⟨y, t, h1, h2, h3⟩ := kpa_ints hi (by rw [hlen, List.length_append]; exact Nat.succ_pos _)
  have hg : (ns ++ [k]).getLastD 0 = k := by simp
  rw [hg] at h2
  rw [List.dropLast_concat] at h3
  rw [h1] at e
  refine popLast e (by rw [h3.length]; exact hz) fun h' hs e' => ?_
  subst h2
  exact h _ _ (H.upd U hs ⟨_, e', _, _, rfl, h3⟩)
theorem r_pop_refs {Q : Value → Shared → Prop} (H : At prog w K p lo O g L ρ σ s) (U : Up a (.refs (as ++ [b])) (.refs as) σ σ') (hz : as.length < 9000000) (h : ∀ s', At prog w K p lo O g L ρ σ' s' → Q (.ref b) s') :
    wpAny (model prog w) A (call (.builtin "list.pop") [.ref a]) Q E s := by
  obtain ⟨n, e⟩ := H.refs U.mem
  rw [List.map_append] at e
  exact popLast e (by simpa using hz) fun h' hs e' => h _ (H.upd U hs ⟨_, e', _, rfl⟩)
theorem r_pop0_ints {Q : Value → Shared → Prop} (H : At prog w K p lo O g L ρ σ s) (U : Up a (.ints (k :: ns)) (.ints ns) σ σ') (hz : ns.length < 9000000) (h : ∀ t s', At prog w K p lo O g L ρ σ' s' → Q (.int k t) s') :
    wpAny (model prog w) A (call (.builtin "list.pop") [.ref a, .int 0 u]) Q E s := by
  obtain ⟨vs, n, e, hi⟩ := H.ints U.mem
  cases hi with
  | @cons _ t us _ hi' =>
    have hz' : (Value.int k t :: us).toArray.size ≤ sizeLine := by rw [List.size_toArray, List.length_cons, hi'.length, sizeLine_eq]; omega
    refine call_meets PySem.F.slot_list_pop ⟨_, e, rfl⟩ PySem.F.entry_list_pop (PySem.F.args_list_pop_2 _ _)
      (PySem.MeetsSeq.list_pop_at a _ n 0 u 0 (Value.int k t) (by decide) (by simp [seqIndex?]) (by simp) hz') ⟨e, h _ _ (H.upd U (Heap.SameBut.update ..) ?_)⟩
    have q := PySem.IsL.update e (fun xs => xs.eraseIdxIfInBounds 0)
    have he : (Value.int k t :: us).toArray.eraseIdxIfInBounds 0 = us.toArray := kl_erase [] us (Value.int k t)
    rw [he, if_neg (by simp)] at q
    exact ⟨_, q, us, _, rfl, hi'⟩
end
end Mine
namespace Mine

section
variable {prog : Program} {w : World} {K : Frag} {p : Program} {lo : List Str} {O : OsState} {g h h' : Heap} {L a b : Addr} {ρ ρ' : Locs} {σ σ' τ : Ledger} {s : Shared} {sp sp' : Sp} {m : Str → Option Value} {o : Obj}
  {A : Around} {E : Value → Shared → Prop} {ns ms : List Int} {as : List Addr} {kvs : List (Int × Value)} {k x : Int} {t u : Tok} {v : Value}

/-! made objects -/
theorem At.push (H : At prog w K p lo O g L ρ σ s) {o : Obj} (k : sp.ok prog w o) (hfree : o.isFreed = false := by rfl) {tk : Tok} : At prog w K p lo O g L ρ ((s.heap.objs.size, sp) :: σ) { s with heap := s.heap.push o, toks := tk } :=
  H.alloc (s' := { s with heap := s.heap.push o, toks := tk }) (fun b o' e => Heap.get?_push_of_some _ e) (Nat.le_refl _) ⟨o, Heap.get?_push_size _ hfree, k⟩

theorem r_newList_ints {vs : List Value} {Q : Value → Shared → Prop} (H : At prog w K p lo O g L ρ σ s) (hi : IntsAre vs ns) (hz : ns.length < 9000000) (h : ∀ D s', At prog w K p lo O g L ρ ((D, .ints ns) :: σ) s' → Q (.ref D) s') :
    wpAny (model prog w) A (newList vs) Q E s :=
  wpAny_newObj_type (h _ _ (H.push (tk := s.toks) (sp := .ints ns) ⟨vs, 0, rfl, hi⟩)) (by show vs.toArray.size ≤ sizeLine; rw [List.size_toArray, hi.length, sizeLine_eq]; omega)
theorem r_newDict {env : Env} {pos : Pos} {Q : Value → Shared → Prop} (H : At prog w K p lo O g L ρ σ s) (h : ∀ D s', At prog w K p lo O g L ρ ((D, .idict []) :: σ) s' → Q (.ref D) s') :
    wpAny (model prog w) A (eval (.Dict [] [] pos) env) Q E s := by
  obtain ⟨o, ho, hd⟩ := Heap.dictOf_iff.mp (Heap.DictOf.new (knd := PySem.intKind prog w) s.heap)
  rw [Heap.get?_push_size _ rfl] at ho
  cases ho
  exact wpAny_Dict_empty (h _ _ (H.push (tk := s.toks) (sp := .idict []) hd))
theorem r_copy_ints {Q : Value → Shared → Prop} (H : At prog w K p lo O g L ρ σ s) (hm : (a, Sp.ints ns) ∈ σ) (hz : ns.length < 9000000) (h : ∀ D s', At prog w K p lo O g L ρ ((D, .ints ns) :: σ) s' → Q (.ref D) s') :
    wpAny (model prog w) A (call (.type "list") [.ref a]) Q E s := by
  obtain ⟨vs, n, e, hi⟩ := H.ints hm
  exact call_list_seq (hsz := by rw [List.size_toArray, hi.length, sizeLine_eq]; omega) a (.inl rfl) e rfl rfl fun h' c' hk hD => h _ _ (H.alloc (s' := { s with heap := h' }) hk (Nat.le_refl _) ⟨_, hD, vs, c', rfl, hi⟩)

theorem ints_of_keys : ∀ {vs : List Value} {kvs : List (Int × Value)}, vs.length = kvs.length → (∀ (j : Nat) (v : Value), vs[j]? = some v → ∃ k x, kvs[j]? = some (k, x) ∧ (PySem.intKind prog w).is k v = true) → IntsAre vs (kvs.map (·.1))
  | [], [], _, _ => .nil
  | v :: vs, q :: kvs, hl, hv => by
    obtain ⟨k, x, e1, e2⟩ := hv 0 v rfl
    obtain ⟨t, rfl⟩ := Value.isInt_shape e2
    have : q = (k, x) := by simpa using e1
    subst this
    exact .cons _ _ (ints_of_keys (by simpa using hl) fun j v e => hv (j + 1) v (by simpa using e))

theorem sort_at {Q : Value → Shared → Prop} {vs : List Value} {n : Nat} (e : s.heap.get? a = some (PySem.W.listOf vs.toArray n)) (hi : IntsAre vs ns) (h64 : ns.length < 64)
    (h : ∀ (h' : Heap) (vs' : List Value) (ms : List Int) n', (∀ b o, b ≠ a → s.heap.get? b = some o → h'.get? b = some o) → h'.get? a = some (PySem.W.listOf vs'.toArray n') → IntsAre vs' ms → ms.Perm ns → ms.Pairwise (· ≤ ·) → Q .none { s with heap := h' }) :
    wpAny (model prog w) A (call (.builtin "list.sort") [.ref a]) Q E s := by
  refine wpAny_call_entry slot_list_sort ⟨_, e, rfl⟩ entry_list_sort (list_sort_tree e hi (by rw [hi.length]; exact h64) fun out ms a1 a2 a3 => ⟨_, rfl, ?_⟩) (args_list_sort _)
  obtain ⟨e', he'⟩ := sortedHeap_at (vs := vs) (out := out) e
  exact h _ out.toList ms e' (fun b o hb eb => (sortedHeap_old hb (Heap.lt_size eb)).trans eb) (by rw [Array.toArray_toList]; exact he') a1 a2 a3

theorem r_sorted_dict {Q : Value → Shared → Prop} (H : At prog w K p lo O g L ρ σ s) (hm : (a, Sp.idict kvs) ∈ σ) (hh : A.handled = none) (h64 : kvs.length < 64)
    (h : ∀ D ms s', ms.Perm (kvs.map (·.1)) → ms.Pairwise (· ≤ ·) → At prog w K p lo O g L ρ ((D, .ints ms) :: σ) s' → Q (.ref D) s') :
    wpAny (model prog w) A (call (.builtin "sorted") [.ref a]) Q E s := by
  obtain ⟨news, m, F, hρ, N, la⟩ := H.news
  obtain ⟨ep, hat⟩ := (H.dict hm).dictAt
  have low : sysModules < a := H.led.high _ hm
  refine kdu_sorted (kdl_dict (knd := PySem.intKind prog w) (kvs := kvs) (ep := ep) (H.low hm)) hh F N hat (by rw [sizeLine_eq]; omega) fun D h' tk vs F' N' l1 hl hv => ?_
  have hi := ints_of_keys hl hv
  obtain ⟨o, _, hmem⟩ := la.mem hm
  have lD : sysModules < D := Nat.lt_trans low (l1 _ hmem)
  have H' : At prog w K p lo O g L ρ ((D, .ints (kvs.map (·.1))) :: σ) { s with heap := h', toks := tk } := H.ofNewsC F' hρ N' la ⟨vs, 0, rfl, hi⟩ l1 lD
  have eD : h'.get? D = some (PySem.W.listOf vs.toArray 0) := (N' _ (.head _)).1
  refine sort_at (s := { s with heap := h', toks := tk }) eD hi (by rw [List.length_map]; exact h64) fun h2 vs' ms n' k2 e2 i2 p2 o2 => h D ms _ p2 o2 ?_
  obtain ⟨⟨m', F1, hm'⟩, l, g1, g2, S⟩ := H'
  have hDL : D ≠ L := l.neL _ (.head _)
  have hDg : g.get? D = none := l.new _ (.head _)
  have F2 : Fr g L h2 m' := by
    obtain ⟨oL, a1, a2, hL, a3⟩ := F1.ns
    exact ⟨⟨oL, a1, a2, k2 _ _ (Ne.symm hDL) hL, a3⟩, fun b o e => k2 _ _ (fun q => by rw [q, hDg] at e; cases e) (F1.keep b o e), F1.above⟩
  refine ⟨⟨m', F2, hm'⟩, ⟨fun q hq => ?_, fun q hq => ?_, fun q hq => ?_, fun q hq => ?_, by have := l.nd; simpa using this⟩, g1, g2, S⟩
  · rcases List.mem_cons.mp hq with rfl | hq
    · exact ⟨_, e2, vs', n', rfl, i2⟩
    · obtain ⟨o, e, r⟩ := l.at_ q (.tail _ hq)
      refine ⟨o, k2 _ _ (fun e => ?_) e, r⟩
      have nd := l.nd
      rw [List.map_cons, List.nodup_cons] at nd
      exact nd.1 (by rw [← e]; exact List.mem_map_of_mem (f := (·.1)) hq)
  · rcases List.mem_cons.mp hq with rfl | hq
    · exact hDL
    · exact l.neL q (.tail _ hq)
  · rcases List.mem_cons.mp hq with rfl | hq
    · exact hDg
    · exact l.new q (.tail _ hq)
  · rcases List.mem_cons.mp hq with rfl | hq
    · exact lD
    · exact l.high q (.tail _ hq)

/-! comparisons of lists of ints -/
theorem r_eq_ints {Q : Value → Shared → Prop} (H : At prog w K p lo O g L ρ σ s) (hm : (a, Sp.ints ns) ∈ σ) (hm' : (b, Sp.ints ms) ∈ σ) (hu : A.units + 64 < cLine) (h : Q (.bool (decide (ns = ms))) s) :
    wpAny (model prog w) A (compareOp .Eq (.ref a) (.ref b)) Q E s := by
  obtain ⟨vs, n, e, hi⟩ := H.ints hm
  obtain ⟨us, n', e', hi'⟩ := H.ints hm'
  exact eq_intsK (isListOf e) hi (isListOf e') hi' hu h
theorem r_ne_ints {Q : Value → Shared → Prop} (H : At prog w K p lo O g L ρ σ s) (hm : (a, Sp.ints ns) ∈ σ) (hm' : (b, Sp.ints ms) ∈ σ) (hu : A.units + 64 < cLine) (h : Q (.bool (!decide (ns = ms))) s) :
    wpAny (model prog w) A (compareOp .NotEq (.ref a) (.ref b)) Q E s := by
  obtain ⟨vs, n, e, hi⟩ := H.ints hm
  obtain ⟨us, n', e', hi'⟩ := H.ints hm'
  exact ne_intsK (isListOf e) hi (isListOf e') hi' hu h

/-! iterators -/
structure Src (prog : Program) (w : World) (K : Frag) (p : Program) (lo : List Str) (O : OsState) (A : Around) (it : Addr) (isp : Nat → Sp) (n : Nat) (val : Nat → Value → Prop) (need : Ledger → Prop) : Prop where
  item : ∀ {g : Heap} {L : Addr} {ρ : Locs} {σ : Ledger} {s : Shared} {i : Nat} {Q : Option Value → Shared → Prop} {E : Value → Shared → Prop}, At prog w K p lo O g L ρ ((it, isp i) :: σ) s → need σ → i < n →
    (∀ v s', val i v → At prog w K p lo O g L ρ ((it, isp (i + 1)) :: σ) s' → Q (some v) s') → wpAny (model prog w) A (pyNext (.ref it)) Q E s
  done : ∀ {g : Heap} {L : Addr} {ρ : Locs} {σ : Ledger} {s : Shared} {Q : Option Value → Shared → Prop} {E : Value → Shared → Prop}, At prog w K p lo O g L ρ ((it, isp n) :: σ) s → need σ →
    (∀ s', At prog w K p lo O g L ρ σ s' → Q none s') → wpAny (model prog w) A (pyNext (.ref it)) Q E s

abbrev listIt (l : Addr) (i : Nat) : Sp := .obj { cls := .type "list_iterator", data := .fields #[.ref l, .int i 0] }
abbrev rangeIt (n i : Nat) : Sp := .obj { cls := .type "range_iterator", data := .fields #[rawInt (i : Int), rawInt ((n : Int) - (i : Int)), rawInt 1] }

theorem At.extBut (H : At prog w K p lo O g L ρ ((a, sp) :: σ) s) {s' : Shared} (hk : Heap.ExtBut a s.heap s'.heap) (hg : s'.gens = s.gens := by rfl) (ho : s'.os = s.os := by rfl) : At prog w K p lo O g L ρ σ s' := by
  obtain ⟨⟨m', F1, hm'⟩, l, g1, g2, S⟩ := H
  have hDL : a ≠ L := l.neL _ (.head _)
  have hDg : g.get? a = none := l.new _ (.head _)
  have F2 : Fr g L s'.heap m' := by
    obtain ⟨oL, a1, a2, hL, a3⟩ := F1.ns
    exact ⟨⟨oL, a1, a2, hk _ _ (Ne.symm hDL) hL, a3⟩, fun b o e => hk _ _ (fun q => by rw [q, hDg] at e; cases e) (F1.keep b o e), F1.above⟩
  have nd := l.nd
  rw [List.map_cons, List.nodup_cons] at nd
  refine ⟨⟨m', F2, hm'⟩, ⟨fun q hq => ?_, fun q hq => l.neL q (.tail _ hq), fun q hq => l.new q (.tail _ hq), fun q hq => l.high q (.tail _ hq), nd.2⟩, hg.trans g1, ho.trans g2, S⟩
  obtain ⟨o, e, r⟩ := l.at_ q (.tail _ hq)
  exact ⟨o, hk _ _ (fun e => nd.1 (by rw [← e]; exact List.mem_map_of_mem (f := (·.1)) hq)) e, r⟩

theorem listIter_eq {h : Heap} {it l : Addr} {i : Nat} {o : Obj} (e : h.get? it = some o) (k : o = { cls := .type "list_iterator", data := .fields #[.ref l, .int i 0] }) : h.IsListIter it l i := ⟨o, e, by rw [k], by rw [k]⟩

theorem pyNext_list {it l : Addr} {i : Nat} {items : Array Value} {x : Value} {Q : Option Value → Shared → Prop} (hit : s.heap.get? it = some { cls := .type "list_iterator", data := .fields #[.ref l, .int i 0] }) (hl : s.heap.IsList l items) (hx : items[i]? = some x)
    (hQ : ∀ h', h'.get? it = some { cls := .type "list_iterator", data := .fields #[.ref l, .int (i + 1 : Nat) 0] } → Heap.SameBut it s.heap h' → Q (some x) { s with heap := h' }) : wpAny (model prog w) A (pyNext (.ref it)) Q E s := by
  obtain ⟨ol, hol, _, nl, hdl⟩ := hl
  have hT : s.TypeIs (.ref it) "list_iterator" := ⟨_, hit, rfl⟩
  unfold pyNext
  refine wpAny_bind (wpAny_attempt (wpAny_callSpecial?_slot (name := Str.ofString "__next__") hT slot_listiter_next
    (wpAny_call_entry slot_listiter_next hT entry_listiter_next ?_ (args_listiter_next _))))
  show wpAny _ _ (field (.ref it) 0 >>= _) _ _ s
  refine wpAny_bind (wpAny_field hit rfl (x := .ref l) rfl ?_)
  show wpAny _ _ (if (Value.ref l == Value.none) = true then _ else _) _ _ s
  rw [if_neg (show ¬ ((Value.ref l == Value.none) = true) from Bool.false_ne_true)]
  show wpAny _ _ (field (.ref it) 1 >>= _) _ _ s
  refine wpAny_bind (wpAny_field hit rfl (x := .int i 0) rfl ?_)
  show wpAny _ _ (seqItems? (.ref l) >>= _) _ _ s
  refine wpAny_bind (wpAny_seqItems hol hdl ?_)
  simp only [Int.toNat_natCast, hx]
  refine wpAny_bind (wpAny_setField hit rfl (by simp) (wpAny_pure ⟨x, rfl, wpAny_pure (hQ _ ?_ (Heap.SameBut.update ..))⟩))
  rw [Heap.get?_update_self _ hit rfl]
  simp [rawInt, Obj.mapFields]

theorem src_seq {it l : Addr} {n : Nat} {val : Nat → Value → Prop} (sp : Sp) (hh : A.handled = none) (hsp : ∀ o, sp.ok prog w o → ∃ (vs : List Value) (n' : Nat), o = PySem.W.listOf vs.toArray n' ∧ vs.length = n ∧ ∀ i v, vs[i]? = some v → val i v) :
    Src prog w K p lo O A it (listIt l) n val (fun σ => (l, sp) ∈ σ) where
  item := by
    intro g L ρ σ s i Q E H hm hi hQ
    obtain ⟨o, e, k⟩ := H.led.get (.tail _ hm)
    obtain ⟨vs, n', rfl, hl, hv⟩ := hsp o k
    obtain ⟨oi, ei, ki⟩ := H.led.get (.head _)
    have ki' : oi = _ := ki
    subst ki'
    have hx : vs[i]? = some (vs[i]'(by omega)) := List.getElem?_eq_getElem _
    exact pyNext_list ei (isListOf e) (by simpa using hx) fun h' e' hs => hQ _ _ (hv _ _ hx) (H.upd .head hs ⟨_, e', rfl⟩)
  done := by
    intro g L ρ σ s Q E H hm hQ
    obtain ⟨o, e, k⟩ := H.led.get (.tail _ hm)
    obtain ⟨vs, n', rfl, hl, hv⟩ := hsp o k
    obtain ⟨oi, ei, ki⟩ := H.led.get (.head _)
    exact wpAny_pyNext_list_end hh (listIter_eq ei ki) (isListOf e) (by simp [hl]) fun h' hs => hQ _ (H.extBut (s' := { s with heap := h' }) hs)

theorem src_ints {it l : Addr} (hh : A.handled = none) : Src prog w K p lo O A it (listIt l) ns.length (fun i v => ∃ t, ∃ h : i < ns.length, v = .int ns[i] t) (fun σ => (l, Sp.ints ns) ∈ σ) :=
  src_seq (.ints ns) hh fun o ⟨vs, n', e, hi⟩ => ⟨vs, n', e, hi.length, fun i v ev => by
    obtain ⟨t, e1⟩ := hi.int_at i v ev
    have hlt : i < ns.length := by rw [← hi.length]; exact (List.getElem?_eq_some_iff.mp ev).1
    refine ⟨t, hlt, ?_⟩
    rw [e1]; simp [hlt]⟩
theorem src_refs {it l : Addr} (hh : A.handled = none) : Src prog w K p lo O A it (listIt l) as.length (fun i v => ∃ h : i < as.length, v = .ref as[i]) (fun σ => (l, Sp.refs as) ∈ σ) :=
  src_seq (.refs as) hh fun o ⟨n', e⟩ => ⟨_, n', e, by simp, fun i v ev => by
    rw [List.getElem?_map] at ev
    obtain ⟨b, eb, rfl⟩ := Option.map_eq_some_iff.mp ev
    obtain ⟨hlt, rfl⟩ := List.getElem?_eq_some_iff.mp eb
    exact ⟨hlt, rfl⟩⟩
theorem src_range {it : Addr} {n : Nat} (hh : A.handled = none) : Src prog w K p lo O A it (rangeIt n) n (fun i v => ∃ t, v = .int (i : Int) t) (fun _ => True) where
  item := by
    intro g L ρ σ s i Q E H hm hi hQ
    obtain ⟨oi, ei, ki⟩ := H.led.get (.head _)
    have ki' : oi = _ := ki
    subst ki'
    refine wpAny_pyNext_range_item (x := (i : Int)) (left := (n : Int) - (i : Int)) (step := 1) ei (by omega) fun h' e' hs => hQ _ _ ⟨_, rfl⟩ (H.upd (s' := { s with heap := h', toks := s.toks + 1 }) .head hs ⟨_, e', ?_⟩)
    have e1 : (n : Int) - (i : Int) - 1 = (n : Int) - ((i + 1 : Nat) : Int) := by omega
    have e2 : (i : Int) + 1 = ((i + 1 : Nat) : Int) := by omega
    show _ = _
    rw [e1, e2]
  done := by
    intro g L ρ σ s Q E H hm hQ
    obtain ⟨oi, ei, ki⟩ := H.led.get (.head _)
    have ki' : oi = _ := ki
    subst ki'
    exact wpAny_pyNext_range_end (x := (n : Int)) (left := (n : Int) - (n : Int)) (step := 1) hh ei (by omega) fun h' hs => hQ _ (H.extBut (s' := { s with heap := h' }) hs)
end
end Mine
namespace Mine

section
variable {prog : Program} {w : World} {K : Frag} {p : Program} {lo : List Str} {O : OsState} {g h h' : Heap} {L a b : Addr} {ρ ρ' : Locs} {σ σ' τ : Ledger} {s : Shared} {sp sp' : Sp} {m : Str → Option Value} {o : Obj}
  {A : Around} {E : Value → Shared → Prop} {ns ms : List Int} {as : List Addr} {kvs : List (Int × Value)} {k x : Int} {t u : Tok} {v : Value}

theorem wpAny_noE {α : Type} {M : Model} {T : Sem α} {Q : α → Shared → Prop} (h : wpAny M A T Q (fun _ _ => False) s) : wpAny M A T Q E s := wpAny_mono h (fun _ _ x => x) fun _ _ x => x.elim
/-- a turn's end -/
def Hold (P : Prop) : Prop := P
theorem hold {P : Prop} (h : P) : Hold P := h

/-- a for loop over an iterator that the ledger bears -/
theorem loop_src {it : Addr} {isp : Nat → Sp} {n : Nat} {val : Nat → Value → Prop} {need : Ledger → Prop} {x : Str} {xp : Pos} {body : List Stmt} {env : Env} {Q : Flow → Shared → Prop} {Er : Value → Shared → Prop}
    (S : Src prog w K p lo O A it isp n val need) (I : Nat → Locs → Ledger → Prop) (keep : ∀ i ρ σ, I i ρ σ → need σ)
    (turn : ∀ i ρ σ s v, i < n → I i ρ σ → val i v → At prog w K p lo O g L ((x, v) :: ρ) ((it, isp (i + 1)) :: σ) s →
      wpAny (model prog w) A (execs body env) (fun f s' => match f with
        | .next | .cont => Hold (∃ ρ' σ', At prog w K p lo O g L ρ' ((it, isp (i + 1)) :: σ') s' ∧ I (i + 1) ρ' σ')
        | .brk => Q .next s'
        | .ret v => Q (.ret v) s') (fun _ _ => False) s)
    (fin : ∀ ρ σ s, I n ρ σ → At prog w K p lo O g L ρ σ s → Q .next s)
    (H : At prog w K p lo O g L ρ ((it, isp 0) :: σ) s) (h0 : I 0 ρ σ)
    (hL : env.locals = L := by rfl) (hk : env.scope.kind = .function := by rfl) (hx : env.kindOf x = some .local := by rfl) :
    codeAny (model prog w) A (.forLoop (.Name x xp) (.ref it) body [] env) (fun r s' => match r with | .ok f => Q f s' | .error e => Er e s') s := by
  refine codeAny_forLoop (fun k s => ∃ i ρ σ, i ≤ n ∧ k = n - i ∧ I i ρ σ ∧ At prog w K p lo O g L ρ ((it, isp i) :: σ) s) (fun k s hI => ?_) n ⟨0, ρ, σ, Nat.zero_le _, rfl, h0, H⟩
  obtain ⟨i, ρ, σ, hi, hk', hI, H⟩ := hI
  rcases Nat.lt_or_ge i n with hlt | hge
  · refine S.item H (keep _ _ _ hI) hlt fun v s' hv H' => ?_
    refine wpAny_assign_Name (r_st H' (fun s2 H2 => ?_) hL hk hx)
    refine wpAny_mono (turn i ρ σ s2 v hlt hI hv H2) (fun f s3 h3 => ?_) fun _ _ e => e.elim
    cases f with
    | next => obtain ⟨ρ', σ', H3, I3⟩ := h3; exact ⟨n - (i + 1), by omega, i + 1, ρ', σ', hlt, rfl, I3, H3⟩
    | cont => obtain ⟨ρ', σ', H3, I3⟩ := h3; exact ⟨n - (i + 1), by omega, i + 1, ρ', σ', hlt, rfl, I3, H3⟩
    | brk => exact h3
    | ret v => exact h3
  · have e : i = n := Nat.le_antisymm hi hge
    subst e
    exact S.done H (keep _ _ _ hI) fun s' H' => wpAny_execs_nil (fin ρ σ s' hI H')

theorem At.pushObj (H : At prog w K p lo O g L ρ σ s) (o : Obj) (hfree : o.isFreed = false := by rfl) {tk : Tok} : At prog w K p lo O g L ρ ((s.heap.objs.size, .obj o) :: σ) { s with heap := s.heap.push o, toks := tk } :=
  H.push (sp := .obj o) (rfl : o = o) hfree

theorem wpAny_nx {M : Model} {T : Sem Flow} {X : Shared → Prop} {Q : Flow → Shared → Prop} (h : wpAny M A T (fun f s' => match f with | .next => X s' | _ => False) (fun _ _ => False) s) :
    wpAny M A T (fun f s' => match f with | .next | .cont => X s' | .brk => Q .next s' | .ret v => Q (.ret v) s') (fun _ _ => False) s :=
  wpAny_mono h (fun f s' hf => by cases f with
    | next => exact hf
    | _ => exact hf.elim) fun _ _ e => e

theorem for_ints {l : Addr} {x : Str} {xp : Pos} {body : List Stmt} {env : Env} {Q : Flow → Shared → Prop} {Er : Value → Shared → Prop} {E : Value → Shared → Prop}
    (H : At prog w K p lo O g L ρ σ s) (hm : (l, Sp.ints ns) ∈ σ) (hh : A.handled = none) (I : Nat → Locs → Ledger → Prop) (h0 : I 0 ρ σ) (keep : ∀ i ρ σ, I i ρ σ → (l, Sp.ints ns) ∈ σ)
    (turn : ∀ it i ρ σ s t, (hi : i < ns.length) → I i ρ σ → At prog w K p lo O g L ((x, .int ns[i] t) :: ρ) ((it, listIt l (i + 1)) :: σ) s →
      wpAny (model prog w) A (execs body env) (fun f s' => match f with
        | .next => Hold (∃ ρ' σ', At prog w K p lo O g L ρ' ((it, listIt l (i + 1)) :: σ') s' ∧ I (i + 1) ρ' σ')
        | _ => False) (fun _ _ => False) s)
    (fin : ∀ ρ σ s, I ns.length ρ σ → At prog w K p lo O g L ρ σ s → Q .next s)
    (hL : env.locals = L := by rfl) (hk : env.scope.kind = .function := by rfl) (hx : env.kindOf x = some .local := by rfl) :
    wpAny (model prog w) A (pyIter (.ref l)) (fun it s₂ => codeAny (model prog w) A (.forLoop (.Name x xp) it body [] env) (fun r s' => match r with | .ok f => Q f s' | .error e => Er e s') s₂) E s := by
  obtain ⟨vs, n, e, hi⟩ := H.ints hm
  refine wpAny_pyIter_list (isListOf e) ?_
  exact loop_src (src_ints hh) I keep (fun i ρ σ s v hi hI hv H' => by obtain ⟨t, h1, rfl⟩ := hv; exact wpAny_nx (turn _ i ρ σ s t h1 hI H')) fin (H.pushObj _ (tk := s.toks)) h0 hL hk hx

theorem for_refs {l : Addr} {x : Str} {xp : Pos} {body : List Stmt} {env : Env} {Q : Flow → Shared → Prop} {Er : Value → Shared → Prop} {E : Value → Shared → Prop}
    (H : At prog w K p lo O g L ρ σ s) (hm : (l, Sp.refs as) ∈ σ) (hh : A.handled = none) (I : Nat → Locs → Ledger → Prop) (h0 : I 0 ρ σ) (keep : ∀ i ρ σ, I i ρ σ → (l, Sp.refs as) ∈ σ)
    (turn : ∀ it i ρ σ s, (hi : i < as.length) → I i ρ σ → At prog w K p lo O g L ((x, .ref as[i]) :: ρ) ((it, listIt l (i + 1)) :: σ) s →
      wpAny (model prog w) A (execs body env) (fun f s' => match f with
        | .next => Hold (∃ ρ' σ', At prog w K p lo O g L ρ' ((it, listIt l (i + 1)) :: σ') s' ∧ I (i + 1) ρ' σ')
        | _ => False) (fun _ _ => False) s)
    (fin : ∀ ρ σ s, I as.length ρ σ → At prog w K p lo O g L ρ σ s → Q .next s)
    (hL : env.locals = L := by rfl) (hk : env.scope.kind = .function := by rfl) (hx : env.kindOf x = some .local := by rfl) :
    wpAny (model prog w) A (pyIter (.ref l)) (fun it s₂ => codeAny (model prog w) A (.forLoop (.Name x xp) it body [] env) (fun r s' => match r with | .ok f => Q f s' | .error e => Er e s') s₂) E s := by
  obtain ⟨n, e⟩ := H.refs hm
  refine wpAny_pyIter_list (isListOf e) ?_
  exact loop_src (src_refs hh) I keep (fun i ρ σ s v hi hI hv H' => by obtain ⟨h1, rfl⟩ := hv; exact wpAny_nx (turn _ i ρ σ s h1 hI H')) fin (H.pushObj _ (tk := s.toks)) h0 hL hk hx

theorem r_range {n : Nat} {Q : Value → Shared → Prop} (H : At prog w K p lo O g L ρ σ s) (h : ∀ D t₁ t₂ t₃ s', At prog w K p lo O g L ρ ((D, .obj { cls := .type "range", data := .fields #[.int 0 t₁, .int n t₂, .int 1 t₃] }) :: σ) s' → Q (.ref D) s') :
    wpAny (model prog w) A (call (.type "range") [.int (n : Int) t]) Q E s :=
  call_range_1 (h _ _ _ _ _ (H.pushObj _))

theorem range_small {n : Nat} (hn : n < 9000000) : Builtin.Range.small 0 (n : Int) 1 = true ∧ Builtin.Range.rangeSize 0 (n : Int) 1 = (n : Int) := by
  have e : Builtin.Range.rangeSize 0 (n : Int) 1 = (n : Int) := by
    unfold Builtin.Range.rangeSize
    have h1 : ((1 : Int) > 0) = True := by simp
    simp only [h1, if_true]
    split <;> omega
  refine ⟨?_, e⟩
  unfold Builtin.Range.small
  rw [e]
  unfold Builtin.Range.rangeFitsLong
  simp
  omega

theorem for_range {r : Addr} {t₁ t₂ t₃ : Tok} {n : Nat} {x : Str} {xp : Pos} {body : List Stmt} {env : Env} {Q : Flow → Shared → Prop} {Er : Value → Shared → Prop} {E : Value → Shared → Prop}
    (H : At prog w K p lo O g L ρ ((r, .obj { cls := .type "range", data := .fields #[.int 0 t₁, .int n t₂, .int 1 t₃] }) :: σ) s) (hn : n < 9000000) (hh : A.handled = none) (I : Nat → Locs → Ledger → Prop) (h0 : I 0 ρ σ)
    (turn : ∀ it i ρ σ s t, i < n → I i ρ σ → At prog w K p lo O g L ((x, .int (i : Int) t) :: ρ) ((it, rangeIt n (i + 1)) :: σ) s →
      wpAny (model prog w) A (execs body env) (fun f s' => match f with
        | .next | .cont => Hold (∃ ρ' σ', At prog w K p lo O g L ρ' ((it, rangeIt n (i + 1)) :: σ') s' ∧ I (i + 1) ρ' σ')
        | .brk => Q .next s'
        | .ret v => Q (.ret v) s') (fun _ _ => False) s)
    (fin : ∀ ρ σ s, I n ρ σ → At prog w K p lo O g L ρ σ s → Q .next s)
    (hL : env.locals = L := by rfl) (hk : env.scope.kind = .function := by rfl) (hx : env.kindOf x = some .local := by rfl) :
    wpAny (model prog w) A (pyIter (.ref r)) (fun it s₂ => codeAny (model prog w) A (.forLoop (.Name x xp) it body [] env) (fun r s' => match r with | .ok f => Q f s' | .error e => Er e s') s₂) E s := by
  obtain ⟨o, e, k⟩ := H.led.get (.head _)
  have k' : o = _ := k
  subst k'
  obtain ⟨hs, hz⟩ := range_small hn
  refine wpAny_pyIter_range (a := 0) (b := (n : Int)) (c := 1) e hs ?_
  rw [hz]
  have H1 := H.push (tk := s.toks) (o := { cls := .type "range_iterator", data := .fields #[rawInt 0, rawInt (n : Int), rawInt 1] }) (sp := rangeIt n 0) (by show _ = _; simp [rawInt])
  have H2 : At prog w K p lo O g L ρ ((s.heap.objs.size, rangeIt n 0) :: σ) _ := H1.sub fun x => by
    letI : DecidableEq (Addr × Sp) := Classical.typeDecidableEq _
    simp only [List.count_cons]; omega
  exact loop_src (src_range hh) I (fun _ _ _ _ => trivial) (fun i ρ σ s v hi hI hv H' => by obtain ⟨t, rfl⟩ := hv; exact turn _ i ρ σ s t hi hI H') fin H2 h0 hL hk hx

theorem while_rule {test : PySem.Expr} {body : List Stmt} {pos : Pos} {env : Env} {Q : Flow → Shared → Prop} (I : Nat → Locs → Ledger → Prop) (n : Nat) (H : At prog w K p lo O g L ρ σ s) (h0 : I n ρ σ)
    (turn : ∀ n ρ σ s, I n ρ σ → At prog w K p lo O g L ρ σ s → wpAny (model prog w) A (PySem.isTrue test env (eval test env)) (fun b s₂ =>
      if b = true then wpAny (model prog w) A (execs body env) (fun f s₃ => match f with
          | .next | .cont => Hold (∃ m ρ' σ', m < n ∧ At prog w K p lo O g L ρ' σ' s₃ ∧ I m ρ' σ')
          | .brk => Q .next s₃
          | .ret v => Q (.ret v) s₃) (fun _ _ => False) s₂
      else Q .next s₂) (fun _ _ => False) s) :
    wpAny (model prog w) A (exec (.While test body [] pos) env) Q E s := by
  refine wpAny_While (codeAny_whileLoop (fun n s => ∃ ρ σ, I n ρ σ ∧ At prog w K p lo O g L ρ σ s) (fun n s hI => ?_) n ⟨ρ, σ, h0, H⟩)
  obtain ⟨ρ, σ, hI, H⟩ := hI
  refine wpAny_mono (turn n ρ σ s hI H) (fun b s₂ h₂ => ?_) fun _ _ e => e.elim
  cases b with
  | false => exact wpAny_execs_nil h₂
  | true =>
    refine wpAny_mono h₂ (fun f s3 h3 => ?_) fun _ _ e => e.elim
    cases f with
    | next => obtain ⟨m, ρ', σ', hm, H3, I3⟩ := h3; exact ⟨m, hm, ρ', σ', I3, H3⟩
    | cont => obtain ⟨m, ρ', σ', hm, H3, I3⟩ := h3; exact ⟨m, hm, ρ', σ', I3, H3⟩
    | brk => exact h3
    | ret v => exact h3

/-! calls -/
def Back (prog : Program) (w : World) (K : Frag) (p : Program) (lo : List Str) (O : OsState) (g' : Heap) (L' : Addr) (g : Heap) (L : Addr) (ρ : Locs) (R : Result → Shared → Prop) (v : Value) (s : Shared) : Prop :=
  ∃ ρ' σ', At prog w K p lo O g' L' ρ' σ' s ∧ (At prog w K p lo O g L ρ σ' s → R (.ok (.ret v)) s)

theorem call_fnS {R : Result → Shared → Prop} {name qual : Str} {params : Arguments} {body : List Stmt} {scope : Scope} {dV kV doc pm cdv ct oc : Value} {an od : Option Addr} {osl : Array (Option Value)} {f : Addr} {args : Args} {binds : List (Str × Value)}
    (H : At prog w K p lo O g L ρ σ s)
    (ho : K.lookup f = some ⟨oc, od, .func (fnOf name qual params body scope dV kV doc pm an cdv ct), osl⟩) (hcd : codeIn K cdv qual = true) (hroom : A.depth < recursionLimit)
    (hbind : BindsTo s (fnOf name qual params body scope dV kV doc pm an cdv ct) args binds) (hloc : ∀ y ∈ binds, scope.names.lookup y.1 = some .local)
    (h : ∀ g' L' s', (∀ b o, g.get? b = some o → g'.get? b = some o) → At prog w K p lo O g' L' binds.reverse σ s' →
      wpAny (model prog w) (A.deeper (envOf qual scope L' f cdv)) (execs body (envOf qual scope L' f cdv)) (fun fl s'' => Back prog w K p lo O g' L' g L ρ R (match fl with | .ret v => v | _ => .none) s'') (fun _ _ => False) s')
    (hco : scope.isCoroutine = false := by rfl) (hgen : scope.isGenerator = false := by rfl) (hk : scope.kind = .function := by rfl)
    (hcell : ∀ x ∈ scope.names, x.2 ≠ .cell := by decide) : codeAny (model prog w) A (.call (.ref f) args) R s := by
  obtain ⟨⟨m, F, hm⟩, l, h1, h2, S⟩ := H
  have X := S.X.keeps F.keep
  refine codeAny_call_def (fd := fnOf name qual params body scope dV kV doc pm an cdv ct) (body := body) (binds := binds) hroom (X _ _ ho) rfl (S.nolimit.keeps F.keep) (codeRec_of X hcd) rfl hbind hcell hloc (fun h₁ hns hk₁ => ?_) hco hgen hk
  have nm : ∀ b o, g.get? b = some o → b ∉ σ.map (·.1) := fun b o e q => by
    obtain ⟨r, hr, rfl⟩ := List.mem_map.mp q
    rw [l.new r hr] at e; cases e
  have st : ∀ b o, g.get? b = some o → (hideAll s.heap (σ.map (·.1))).get? b = some o := fun b o e => hideAll_get _ (F.keep b o e) (nm b o e)
  obtain ⟨oL, es, ep, hL, hLd, hLk, hLf⟩ := F.ns
  have nL : L ∉ σ.map (·.1) := fun q => by
    obtain ⟨r, hr, e⟩ := List.mem_map.mp q
    exact l.neL r hr e
  have hLg := hideAll_get (σ.map (·.1)) hL nL
  have H' : At prog w K p lo O (hideAll s.heap (σ.map (·.1))) s.heap.objs.size binds.reverse σ { s with heap := h₁, toks := s.toks + binds.length } :=
    ⟨⟨_, ⟨hns, fun b o e => hk₁ b o (of_hideAll _ e), Nat.le_of_eq (hideAll_size _ _)⟩, fun x v e => e⟩,
     ⟨fun q hq => let ⟨o, e, r⟩ := l.at_ q hq; ⟨o, hk₁ _ _ e, r⟩, fun q hq => let ⟨o, e, r⟩ := l.at_ q hq; Nat.ne_of_lt (Heap.lt_size e), fun q hq => hideAll_none _ (List.mem_map_of_mem hq), l.high, l.nd⟩, h1, h2, S.keeps st⟩
  refine wpAny_mono (h _ _ _ st H') (fun fl s' hl => ?_) fun _ _ e => e.elim
  obtain ⟨ρ', σ', ⟨⟨m', F', hm'⟩, l', h1', h2', S'⟩, k⟩ := hl
  refine k ⟨⟨m, ⟨⟨oL, es, ep, F'.keep L oL hLg, hLd, hLk, hLf⟩, fun b o e => F'.keep b o (st b o e), F.above⟩, hm⟩, ⟨l'.at_, fun q hq => fun e => ?_, fun q hq => ?_, l'.high, l'.nd⟩, h1', h2', S⟩
  · have := l'.new q hq; rw [e, hLg] at this; cases this
  · cases e : g.get? q.1 with
    | none => rfl
    | some o => have := l'.new q hq; rw [st _ _ e] at this; cases this

theorem call_fn {R : Result → Shared → Prop} {name qual : Str} {params : Arguments} {body : List Stmt} {scope : Scope} {dV kV doc pm cdv ct oc : Value} {an od : Option Addr} {osl : Array (Option Value)} {f : Addr} {args : Args} {binds : List (Str × Value)}
    (H : At prog w K p lo O g L ρ σ s)
    (ho : K.lookup f = some ⟨oc, od, .func (fnOf name qual params body scope dV kV doc pm an cdv ct), osl⟩) (hcd : codeIn K cdv qual = true) (hroom : A.depth < recursionLimit)
    (hbind : BindsTo s (fnOf name qual params body scope dV kV doc pm an cdv ct) args binds) (hloc : ∀ y ∈ binds, scope.names.lookup y.1 = some .local)
    (h : ∀ g' L' s', At prog w K p lo O g' L' binds.reverse σ s' →
      wpAny (model prog w) (A.deeper (envOf qual scope L' f cdv)) (execs body (envOf qual scope L' f cdv)) (fun fl s'' => Back prog w K p lo O g' L' g L ρ R (match fl with | .ret v => v | _ => .none) s'') (fun _ _ => False) s')
    (hco : scope.isCoroutine = false := by rfl) (hgen : scope.isGenerator = false := by rfl) (hk : scope.kind = .function := by rfl)
    (hcell : ∀ x ∈ scope.names, x.2 ≠ .cell := by decide) : codeAny (model prog w) A (.call (.ref f) args) R s :=
  call_fnS H ho hcd hroom hbind hloc (fun g' L' s' _ H' => h g' L' s' H') hco hgen hk hcell

theorem back {R : Result → Shared → Prop} {g' : Heap} {L' : Addr} (H : At prog w K p lo O g' L' ρ' σ' s) (k : At prog w K p lo O g L ρ σ' s → R (.ok (.ret v)) s) : Back prog w K p lo O g' L' g L ρ R v s := ⟨_, _, H, k⟩

/-- what a call gives back -/
def Ret (P : Value → Shared → Prop) : Result → Shared → Prop
  | .ok (.ret v), s => P v s
  | _, _ => False
theorem use_call {P : Value → Shared → Prop} {f : Value} {args : List Value} {Q : Value → Shared → Prop} (h : codeAny (model prog w) A (.call f ⟨args, []⟩) (Ret P) s) (k : ∀ v s', P v s' → Q v s') :
    wpAny (model prog w) A (call f args) Q E s :=
  wpAny_call (codeAny_mono h fun r s' hr => by
    cases r with
    | error e => exact hr.elim
    | ok f => cases f with
      | ret v => exact k v s' hr
      | _ => exact hr.elim)
theorem callWith_any {f : Value} {pos : Pos} {first : List Value} {e : PySem.Expr} {rest : List PySem.Expr} {env : Env} {Q : Value → Shared → Prop} (H : At prog w K p lo O g L ρ σ s) (hk : keepIn K f = true)
    (h : wpAny (model prog w) A (spliced (backTo pos (starEach (e :: rest) env))) (fun vs s₁ => K.In s₁.heap ∧ wpAny (model prog w) A (call f (first ++ vs)) Q E s₁) E s)
    (he : starEach (e :: rest) env = (false, eval e env) :: starEach rest env := by rfl) (hplain : (backTo pos (starEach rest env)).any (·.1) = false := by rfl) :
    wpAny (model prog w) A (callWith pos f first (backTo pos (starEach (e :: rest) env)) []) Q E s := by
  rw [he] at h ⊢
  exact callWith_of (by show ((false || (backTo pos (starEach rest env)).any (·.1)) || false) = false; rw [hplain]; rfl) (keeps_K hk) (evalArgs_plain h)
theorem callWith_none {f : Value} {pos : Pos} {first : List Value} {env : Env} {Q : Value → Shared → Prop} (H : At prog w K p lo O g L ρ σ s) (hk : keepIn K f = true) (h : wpAny (model prog w) A (call f (first ++ [])) Q E s) :
    wpAny (model prog w) A (callWith pos f first (backTo pos (starEach [] env)) []) Q E s :=
  let ⟨_, F, _⟩ := H.fr; callWith_K0 (H.stat.X.keeps F.keep) hk h
theorem At.X (H : At prog w K p lo O g L ρ σ s) : K.In s.heap := let ⟨_, F, _⟩ := H.fr; H.stat.X.keeps F.keep
end
end Mine
namespace Mine
section
variable {prog : Program} {w : World} {K : Frag} {p : Program} {lo : List Str} {O : OsState} {g h h' : Heap} {L a b : Addr} {ρ ρ' : Locs} {σ σ' τ : Ledger} {s : Shared} {sp sp' : Sp} {m : Str → Option Value} {o : Obj}
  {A : Around} {E : Value → Shared → Prop}

theorem r_make {C fI : Addr} {pos : List Value} {Q : Value → Shared → Prop} (H : At prog w K p lo O g L ρ σ s) (hne : (b, sp) ∈ σ) (hm : makesIn K C = true) (hi : findIn K (.ref C) "__init__" = some (some (.ref fI))) (hf : isFn K (.ref fI) = true)
    (h : ∀ x d s', At prog w K p lo O g L ρ ((x, .inst C d) :: (d, .attrs []) :: σ) s' →
      codeAny (model prog w) (A.under (.builtin "type.__call__" ⟨.ref C :: pos, []⟩)) (.call (.ref fI) ⟨.ref x :: pos, []⟩) (Ret fun v s'' => v = .none ∧ Q (.ref x) s'') s') : wpAny (model prog w) A (call (.ref C) pos) Q E s := by
  obtain ⟨news, m, F, hρ, N, la⟩ := H.news
  obtain ⟨o, _, hmem⟩ := la.mem hne
  have low : sysModules < b := H.led.high _ hne
  refine call_cls F H.stat.X N hm hi hf fun x d h' F' N' l1 l2 => ?_
  have ld : sysModules < d := Nat.lt_trans low (l1 _ hmem)
  have H1 : At prog w K p lo O g L ρ ((d, .attrs []) :: σ) { s with heap := h' } := H.ofNewsC F' hρ (fun q hq => N' q (.tail _ hq)) la ⟨[], 0, rfl, .nil⟩ l1 ld
  have H2 : At prog w K p lo O g L ρ ((x, .inst C d) :: (d, .attrs []) :: σ) { s with heap := h' } := H1.ofNewsC (s' := { s with heap := h' }) F' hρ N' (.cons ⟨[], 0, rfl, .nil⟩ la) rfl (fun q hq => by
    rcases List.mem_cons.mp hq with rfl | hq
    · exact l2
    · exact Nat.lt_trans (l1 q hq) l2) (Nat.lt_trans ld l2)
  refine codeAny_mono (h x d _ H2) fun r s' hr => ?_
  cases r with
  | error e => exact hr.elim
  | ok f => cases f with
    | ret v => exact ⟨hr.1, hr.2⟩
    | _ => exact hr.elim
theorem r_slice_upto {value slice : PySem.Expr} {l : Addr} {vs : List Value} {ns : List Int} {y : Int} {u : Tok} {Q : Value → Shared → Prop} (H : At prog w K p lo O g L ρ σ s) (hl : s.heap.IsList l vs.toArray) (hi : IntsAre vs ns) (h0 : 0 ≤ y) (hz : ns.length < 9000000)
    (h : ∀ D s', At prog w K p lo O g L ρ ((D, .ints (ns.take y.toNat)) :: σ) s' → Q (.ref D) s')
    (hs : subscripted slice false (.ref l) (.ref s.heap.objs.size) = operate [.ref s.heap.objs.size, .ref l] (getItem (.ref l) (.ref s.heap.objs.size)) := by with_unfolding_all rfl)
    (ht : ∀ r, letTemporaryGo value (.ref l) r = pure () := by intro _; with_unfolding_all rfl) :
    wpAny (model prog w) A (subscriptTail value slice (.ref l) (.ref s.heap.objs.size)) Q E { s with heap := s.heap.push { cls := .type "slice", data := .fields #[.none, .int y u, .none] } } := by
  obtain ⟨news, m, F, hρ, N, la⟩ := H.news
  refine slice_list F N hl .none (.int y u) (fun h' F' N' => h _ _ (H.ofNewsC (s' := { s with heap := h' }) F' hρ N' la ⟨(slicePick vs.toArray none (some y) none).toList, 0, by rw [Array.toArray_toList], slice_ints_uptoW hi h0⟩ (fun q hq => ?_) ?_)) hs ht (by rw [List.size_toArray, hi.length, sizeLine_eq]; omega)
  · exact Nat.lt_succ_of_lt (Heap.lt_size (N q hq).1)
  · have h1 : (sysModules : Nat) < g.objs.size := modules_low H.stat.nolimit
    have h2 := Fr.gsize F
    exact Nat.lt_succ_of_lt (Nat.lt_of_lt_of_le h1 h2)
theorem At.recast (H : At prog w K p lo O g L ρ σ s) (U : Up a sp sp' σ σ') (h : ∀ o, sp.ok prog w o → sp'.ok prog w o) : At prog w K p lo O g L ρ σ' s :=
  H.upd U ⟨rfl, fun _ _ => rfl⟩ (let ⟨o, e, k⟩ := H.led.get U.mem; ⟨o, e, h o k⟩)
theorem nil_refs (o : Obj) (h : (Sp.ints []).ok prog w o) : (Sp.refs []).ok prog w o := by
  obtain ⟨vs, n, rfl, hi⟩ := h
  cases hi
  exact ⟨n, rfl⟩
end
end Mine
namespace Mine

/-- the arguments that are plain locals, the last first -/
def listL (kindOf : Str → Option NameKind) : List (Str × Value) → Locs → Locs
  | [], acc => acc
  | (n, v) :: r, acc => listL kindOf r (if kindOf n = some .local then (n, v) :: acc else acc)
theorem listL_ok (kindOf : Str → Option NameKind) : ∀ (b : List (Str × Value)) (acc : Locs) (m : Str → Option Value), (∀ x v, acc.lookup x = some v → m x = some v) → ∀ x v, (listL kindOf b acc).lookup x = some v → bindL kindOf b m x = some v
  | [], _, _, h, x, v, e => h x v e
  | (n, u) :: r, acc, m, h, x, v, e => by
    unfold bindL
    unfold listL at e
    refine listL_ok kindOf r _ _ (fun y z ey => ?_) x v e
    by_cases hk : kindOf n = some .local
    · rw [if_pos hk] at ey
      rw [if_pos hk]
      rw [List.lookup_cons] at ey
      show (if y = n then some u else m y) = some z
      cases q : y == n with
      | true => rw [q] at ey; rw [if_pos (beq_iff_eq.mp q)]; exact ey
      | false => rw [q] at ey; rw [if_neg (beq_eq_false_iff_ne.mp q)]; exact h y z ey
    · rw [if_neg hk] at ey
      rw [if_neg hk]; exact h y z ey

/-- the cells of a call, as the ledger bears them -/
def cellsLed (cm : Str → Option Value) (cs : List (Str × Addr)) : Ledger := cs.map fun q => (q.2, Sp.cell (cm q.1))

section
variable {prog : Program} {w : World} {K : Frag} {p : Program} {lo : List Str} {O : OsState} {g h h' : Heap} {L a b : Addr} {ρ ρ' : Locs} {σ σ' τ : Ledger} {s : Shared} {sp sp' : Sp} {m : Str → Option Value} {o : Obj}
  {A : Around} {E : Value → Shared → Prop} {ns ms : List Int}

theorem cellsFrom_above : ∀ (names : List (Str × NameKind)) (n : Nat) (acc : List (Str × Addr)), (∀ q ∈ acc, (q.2 : Nat) < n) → (acc.map (·.2)).Nodup → ((cellsFrom n names acc).map (·.2)).Nodup
  | [], _, _, _, h => h
  | (name, kind) :: r, n, acc, h, nd => by
    unfold cellsFrom
    split
    · refine cellsFrom_above r (n + 1) _ (fun q hq => ?_) ?_
      · rcases List.mem_cons.mp hq with rfl | hq
        · exact Nat.lt_succ_self _
        · exact Nat.lt_succ_of_lt (h q hq)
      · rw [List.map_cons, List.nodup_cons]
        refine ⟨fun hm => ?_, nd⟩
        obtain ⟨q, hq, e⟩ := List.mem_map.mp hm
        have h' := h q hq
        have e' : q.2 = n := e
        rw [e'] at h'
        exact Nat.lt_irrefl _ h'
    · exact cellsFrom_above r n acc h nd

/-- a call of a def, some of whose names are captured -/
theorem call_fnC {R : Result → Shared → Prop} {name qual : Str} {params : Arguments} {body : List Stmt} {scope : Scope} {dV kV doc pm cdv ct oc : Value} {an od : Option Addr} {osl : Array (Option Value)} {f : Addr} {args : Args} {binds : List (Str × Value)}
    (H : At prog w K p lo O g L ρ σ s)
    (ho : K.lookup f = some ⟨oc, od, .func (fnOf name qual params body scope dV kV doc pm an cdv ct), osl⟩) (hcd : codeIn K cdv qual = true) (hroom : A.depth < recursionLimit)
    (hbind : BindsTo s (fnOf name qual params body scope dV kV doc pm an cdv ct) args binds)
    (hkind : ∀ n, ∀ x ∈ binds, scope.names.lookup x.1 = some .local ∨ (scope.names.lookup x.1 = some .cell ∧ ((cellsFrom n scope.names []).lookup x.1).isSome = true))
    (hnd : ((cellsFrom 0 scope.names []).map (·.1)).Nodup)
    (h : ∀ g' L' s', (∀ b o, g.get? b = some o → g'.get? b = some o) → At prog w K p lo O g' L' (listL (fun x => scope.names.lookup x) binds []) (cellsLed (bindC (fun x => scope.names.lookup x) binds fun _ => none) (cellsFrom (L' + 1) scope.names []) ++ σ) s' →
      wpAny (model prog w) (A.deeper (envOfC qual scope L' f cdv)) (execs body (envOfC qual scope L' f cdv)) (fun fl s'' => Back prog w K p lo O g' L' g L ρ R (match fl with | .ret v => v | _ => .none) s'') (fun _ _ => False) s')
    (hco : scope.isCoroutine = false := by rfl) (hgen : scope.isGenerator = false := by rfl) (hk : scope.kind = .function := by rfl) : codeAny (model prog w) A (.call (.ref f) args) R s := by
  obtain ⟨⟨m, F, hm⟩, l, h1, h2, S⟩ := H
  have X := S.X.keeps F.keep
  refine codeAny_call_function (fd := fnOf name qual params body scope dV kV doc pm an cdv ct) hroom (X _ _ ho) rfl hco hgen rfl (codeRec_of X hcd) (hbind _ _ _ _ ?_)
  refine wpAny_newFunctionEnv_cells hk (hkind _) fun env' he s₂ x => ?_
  subst he
  refine ⟨(S.nolimit.keeps F.keep).keeps x.toInCall.keep, codeAny_func ?_⟩
  obtain ⟨h₁, tk, rfl, _⟩ := x.done
  have hk₁ := x.toInCall.keep
  have hlt : ∀ q ∈ σ, (q.1 : Nat) < s.heap.objs.size := fun q hq => let ⟨o, e, _⟩ := l.at_ q hq; Heap.lt_size e
  have nm : ∀ b o, g.get? b = some o → b ∉ σ.map (·.1) := fun b o e q => by
    obtain ⟨r, hr, rfl⟩ := List.mem_map.mp q
    rw [l.new r hr] at e; cases e
  have st : ∀ b o, g.get? b = some o → (hideAll s.heap (σ.map (·.1))).get? b = some o := fun b o e => hideAll_get _ (F.keep b o e) (nm b o e)
  obtain ⟨oL, es, ep, hL, hLd, hLk, hLf⟩ := F.ns
  have nL : L ∉ σ.map (·.1) := fun q => by
    obtain ⟨r, hr, e⟩ := List.mem_map.mp q
    exact l.neL r hr e
  have hLg := hideAll_get (σ.map (·.1)) hL nL
  have low : (sysModules : Nat) < s.heap.objs.size := Nat.lt_of_lt_of_le (modules_low S.nolimit) (Fr.gsize F)
  have cellIs : ∀ q ∈ cellsFrom (s.heap.objs.size + 1) scope.names [], h₁.IsCell q.2 (bindC (fun y => scope.names.lookup y) binds (fun _ => none) q.1) ∧ s.heap.objs.size < q.2 := fun q hq =>
    ⟨x.cell q.1 q.2 (lookup_of_mem_nodup (cellsFrom_names scope.names 0 (s.heap.objs.size + 1) [] [] rfl ▸ hnd) hq), x.above q.1 q.2 hq⟩
  have H' : At prog w K p lo O (hideAll s.heap (σ.map (·.1))) s.heap.objs.size (listL (fun x => scope.names.lookup x) binds [])
      (cellsLed (bindC (fun x => scope.names.lookup x) binds fun _ => none) (cellsFrom (s.heap.objs.size + 1) scope.names []) ++ σ) { s with heap := h₁, toks := tk } := by
    refine ⟨⟨_, ⟨x.toInCall.ns, fun b o e => hk₁ b o (of_hideAll _ e), Nat.le_of_eq (hideAll_size _ _)⟩, fun y v e => listL_ok _ binds [] _ (fun _ _ e => by cases e) y v e⟩, ⟨fun q hq => ?_, fun q hq => ?_, fun q hq => ?_, fun q hq => ?_, ?_⟩, h1, h2, S.keeps st⟩
    · rcases List.mem_append.mp hq with hq | hq
      · obtain ⟨r, hr, rfl⟩ := List.mem_map.mp hq
        obtain ⟨⟨o, e, k⟩, _⟩ := cellIs r hr
        exact ⟨o, e, k⟩
      · obtain ⟨o, e, r⟩ := l.at_ q hq; exact ⟨o, hk₁ _ _ e, r⟩
    · rcases List.mem_append.mp hq with hq | hq
      · obtain ⟨r, hr, rfl⟩ := List.mem_map.mp hq
        exact Nat.ne_of_gt (cellIs r hr).2
      · exact Nat.ne_of_lt (hlt q hq)
    · rcases List.mem_append.mp hq with hq | hq
      · obtain ⟨r, hr, rfl⟩ := List.mem_map.mp hq
        refine Heap.get?_none_of_le ?_
        rw [hideAll_size]; exact Nat.le_of_lt (cellIs r hr).2
      · exact hideAll_none _ (List.mem_map_of_mem hq)
    · rcases List.mem_append.mp hq with hq | hq
      · obtain ⟨r, hr, rfl⟩ := List.mem_map.mp hq
        exact Nat.lt_trans low (cellIs r hr).2
      · exact l.high q hq
    · rw [List.map_append, List.nodup_append]
      refine ⟨?_, l.nd, fun a ha b hb e => ?_⟩
      · have := cellsFrom_above scope.names (s.heap.objs.size + 1) [] (fun _ hq => nomatch hq) List.nodup_nil
        unfold cellsLed
        rw [List.map_map]
        exact this
      · obtain ⟨r, hr, rfl⟩ := List.mem_map.mp ha
        obtain ⟨r', hr', rfl⟩ := List.mem_map.mp hr
        obtain ⟨q, hq, rfl⟩ := List.mem_map.mp hb
        have h3 := (cellIs r' hr').2
        have h4 := hlt q hq
        have e' : r'.2 = q.1 := e
        rw [e'] at h3
        exact Nat.lt_irrefl _ (Nat.lt_trans h3 h4)
  refine wpAny_mono (h _ _ _ st H') (fun fl s' hl => ?_) fun _ _ e => e.elim
  obtain ⟨ρ', σ', ⟨⟨m', F', hm'⟩, l', h1', h2', S'⟩, k⟩ := hl
  refine k ⟨⟨m, ⟨⟨oL, es, ep, F'.keep L oL hLg, hLd, hLk, hLf⟩, fun b o e => F'.keep b o (st b o e), F.above⟩, hm⟩, ⟨l'.at_, fun q hq => fun e => ?_, fun q hq => ?_, l'.high, l'.nd⟩, h1', h2', S⟩
  · have := l'.new q hq; rw [e, hLg] at this; cases this
  · cases e : g.get? q.1 with
    | none => rfl
    | some o => have := l'.new q hq; rw [st _ _ e] at this; cases this

/-! comprehensions -/
abbrev Tests (prog : Program) (w : World) (A : Around) (ifs : List PySem.Expr) (env : Env) (Q : Bool → Shared → Prop) (s : Shared) : Prop :=
  wpAny (model prog w) A (forIn ifs true fun c r => if r = true then do let ok ← isTrue c env (eval c env); pure (ForInStep.yield ok) else pure (ForInStep.yield r)) Q (fun _ _ => False) s
/-- a turn's end -/
abbrev TurnEnd (prog : Program) (w : World) (K : Frag) (p : Program) (lo : List Str) (O : OsState) (g : Heap) (L C it : Addr) (isp : Sp) (I : Locs → Ledger → Prop) (s : Shared) : Prop :=
  Hold (∃ kvs' ρ' σ', At prog w K p lo O g L ρ' ((C, .nsp kvs') :: (it, isp) :: σ') s ∧ I ρ' σ')

theorem comp_loop {elt iter : PySem.Expr} {x : Str} {px : Pos} {ifs : List PySem.Expr} {scope : Scope} {pos : Pos} {cenv : Env} {it C D : Addr} {isp : Nat → Sp} {n : Nat} {val : Nat → Value → Prop} {need : Ledger → Prop} {R : Result → Shared → Prop} {kvs : List (Str × Value)}
    (S : Src prog w K p lo O A it isp n val need) (I : Nat → Locs → Ledger → Prop) (keep : ∀ i ρ σ q, I i ρ σ → need (q :: σ))
    (turn : ∀ i ρ σ kvs s v, i < n → I i ρ σ → val i v → At prog w K p lo O g L ρ ((C, .nsp ((x, v) :: kvs)) :: (it, isp (i + 1)) :: σ) s →
      Tests prog w A ifs cenv (fun ok s₃ =>
        if ok = true then wpAny (model prog w) A (eval elt cenv) (fun y s₄ => wpAny (model prog w) A (call (.builtin "list.append") [.ref D, y]) (fun _ s₅ => TurnEnd prog w K p lo O g L C it (isp (i + 1)) (I (i + 1)) s₅) (fun _ _ => False) s₄) (fun _ _ => False) s₃
        else TurnEnd prog w K p lo O g L C it (isp (i + 1)) (I (i + 1)) s₃) s)
    (fin : ∀ ρ σ kvs s, I n ρ σ → At prog w K p lo O g L ρ ((C, .nsp kvs) :: σ) s → R (.ok .next) s)
    (H : At prog w K p lo O g L ρ ((C, .nsp kvs) :: (it, isp 0) :: σ) s) (h0 : I 0 ρ σ)
    (hL : cenv.locals = C) (hk : cenv.scope.kind = .function) (hx : cenv.kindOf x = some .local) :
    codeAny (model prog w) A (.compLoop (.ListComp elt [⟨.Name x px, iter, ifs, 0⟩] scope pos) 0 (.ref it) (.ref D) cenv) R s := by
  have swap : ∀ {ρ : Locs} {q r : Addr × Sp} {σ : Ledger} {s : Shared}, At prog w K p lo O g L ρ (q :: r :: σ) s → At prog w K p lo O g L ρ (r :: q :: σ) s := fun H => H.sub fun x => by
    simp only [List.count_cons]; omega
  refine codeAny_compLoop_tests (fun k s => ∃ i ρ σ kvs, i ≤ n ∧ k = n + 1 - i ∧ I i ρ σ ∧ At prog w K p lo O g L ρ ((C, .nsp kvs) :: (it, isp i) :: σ) s) (fun k s hI => ?_) (n + 1) ⟨0, ρ, σ, kvs, Nat.zero_le _, rfl, h0, H⟩
  obtain ⟨i, ρ, σ, kvs, hi, hk', hI, H⟩ := hI
  have H1 := swap H
  rcases Nat.lt_or_ge i n with hlt | hge
  · refine S.item H1 (keep _ _ _ _ hI) hlt fun v s' hv H' => ?_
    refine wpAny_noE (wpAny_assign_Name (r_cst (swap H') .head (fun s2 H2 => ?_) hL hk hx))
    refine wpAny_mono (turn i ρ σ kvs s2 v hlt hI hv H2) (fun ok s3 h3 => ?_) fun _ _ e => e.elim
    split
    · rename_i hok
      rw [if_pos hok] at h3
      refine wpAny_mono h3 (fun y s4 h4 => ?_) fun _ _ e => e.elim
      refine wpAny_mono h4 (fun _ s5 h5 => ?_) fun _ _ e => e.elim
      obtain ⟨kvs', ρ', σ', H5, I5⟩ := h5
      exact ⟨n + 1 - (i + 1), by omega, i + 1, ρ', σ', kvs', hlt, rfl, I5, H5⟩
    · rename_i hok
      rw [if_neg hok] at h3
      obtain ⟨kvs', ρ', σ', H5, I5⟩ := h3
      exact ⟨n + 1 - (i + 1), by omega, i + 1, ρ', σ', kvs', hlt, rfl, I5, H5⟩
  · have e : i = n := Nat.le_antisymm hi hge
    subst e
    exact S.done H1 (keep _ _ _ _ hI) fun s' H' => fin ρ σ kvs s' hI H'

/-- from the iterator on -/
theorem comp_from {elt iter : PySem.Expr} {x : Str} {px : Pos} {ifs : List PySem.Expr} {scope : Scope} {cl : List (Str × Addr)} {pos : Pos} {env : Env} {it : Addr} {isp : Nat → Sp} {n : Nat} {val : Nat → Value → Prop} {need : Ledger → Prop} {RR : Value → Addr → Result → Shared → Prop}
    (S : Src prog w K p lo O A it isp n val need) (asp : Sp) (hasp : ∀ o, (Sp.ints []).ok prog w o → asp.ok prog w o) (I : Addr → Nat → Locs → Ledger → Prop) (keep : ∀ D i ρ σ q, I D i ρ σ → need (q :: σ))
    (self : ∀ {ρ : Locs} {σ : Ledger} {s : Shared} {Q : Value → Shared → Prop}, At prog w K p lo O g L ρ ((it, isp 0) :: σ) s → Q (.ref it) s → wpAny (model prog w) A (pyIter (.ref it)) Q (fun _ _ => False) s)
    (h0 : ∀ D, I D 0 ρ ((D, asp) :: σ))
    (turn : ∀ C D i ρ σ kvs s v, i < n → I D i ρ σ → val i v → At prog w K p lo O g L ρ ((C, .nsp ((x, v) :: kvs)) :: (it, isp (i + 1)) :: σ) s →
      Tests prog w A ifs (compEnvC scope cl C env) (fun ok s₃ =>
        if ok = true then wpAny (model prog w) A (eval elt (compEnvC scope cl C env)) (fun y s₄ => wpAny (model prog w) A (call (.builtin "list.append") [.ref D, y]) (fun _ s₅ => TurnEnd prog w K p lo O g L C it (isp (i + 1)) (I D (i + 1)) s₅) (fun _ _ => False) s₄) (fun _ _ => False) s₃
        else TurnEnd prog w K p lo O g L C it (isp (i + 1)) (I D (i + 1)) s₃) s)
    (fin : ∀ C D ρ σ kvs s, I D n ρ σ → At prog w K p lo O g L ρ ((C, .nsp kvs) :: σ) s → RR (.ref D) C (.ok .next) s)
    (H : At prog w K p lo O g L ρ ((it, isp 0) :: σ) s)
    (hcell : ∀ y ∈ scope.names, y.2 ≠ .cell) (hkind : scope.kind = .function) (hx : scope.names.lookup x = some .local) :
    wpAny (model prog w) A (newList []) (fun acc s₃ => wpAny (model prog w) A (newFunctionEnv scope env.globals cl [] env.qual none .none (some env)) (fun cenv s₄ =>
      codeAny (model prog w) A (.compStart (.ListComp elt [⟨.Name x px, iter, ifs, 0⟩] scope pos) 0 (.ref it) acc { cenv with scope := relabel scope env }) (RR acc cenv.locals) s₄) E s₃) E s := by
  refine r_newList_ints H .nil (by decide) fun D s1 H1 => ?_
  have H1' := H1.recast .head hasp
  refine wpAny_newFunctionEnv hcell (by intro y hy; simp at hy) (fun h₁ hns₁ hsb₁ => ?_) hkind
  have up : ∀ b o, s1.heap.get? b = some o → h₁.get? b = some o := fun b o e => hsb₁.extBut b o (Nat.ne_of_lt (Heap.lt_size e)) (Heap.get?_push_of_some _ e)
  obtain ⟨oC, eC, kC⟩ := LCg.ns_obj hns₁
  have H2 := H1'.alloc (s' := { s1 with heap := h₁, toks := s1.toks + ([] : List (Str × Value)).length }) (sp := .nsp []) up (Nat.le_refl _) ⟨oC, eC, _, kC, fun _ _ e => by cases e⟩
  have H3 := H2.sub (σ' := (s1.heap.objs.size, .nsp []) :: (it, isp 0) :: (D, asp) :: σ) fun x => by
    simp only [List.count_cons]; omega
  have loop := comp_loop (elt := elt) (iter := iter) (px := px) (ifs := ifs) (scope := scope) (pos := pos) (cenv := compEnvC scope cl s1.heap.objs.size env) (D := D) (R := RR (.ref D) s1.heap.objs.size) S (I D) (keep D) (turn s1.heap.objs.size D) (fin s1.heap.objs.size D) H3 (h0 D) rfl (by simp [compEnvC, relabel, hkind]) (lookup_relabel_local hx)
  refine codeAny_compStart_list loop (wpAny_noE (self (ρ := ρ) (σ := (s1.heap.objs.size, .nsp []) :: (D, asp) :: σ) (H2.sub fun x => by simp only [List.count_cons]; omega) loop))

theorem self_list {it l : Addr} {Q : Value → Shared → Prop} (H : At prog w K p lo O g L ρ ((it, listIt l 0) :: σ) s) (h : Q (.ref it) s) : wpAny (model prog w) A (pyIter (.ref it)) Q E s := by
  obtain ⟨o, e, k⟩ := H.led.get (.head _)
  exact wpAny_pyIter_listiter (listIter_eq e k) h

theorem comp_ints {elt iter : PySem.Expr} {x : Str} {px : Pos} {ifs : List PySem.Expr} {scope : Scope} {cl : List (Str × Addr)} {pos : Pos} {env : Env} {l : Addr} {RR : Value → Addr → Result → Shared → Prop}
    (H : At prog w K p lo O g L ρ σ s) (hm : (l, Sp.ints ns) ∈ σ) (hh : A.handled = none) (asp : Sp) (hasp : ∀ o, (Sp.ints []).ok prog w o → asp.ok prog w o) (I : Addr → Nat → Locs → Ledger → Prop)
    (h0 : ∀ D, I D 0 ρ ((D, asp) :: σ)) (keep : ∀ D i ρ σ, I D i ρ σ → (l, Sp.ints ns) ∈ σ)
    (turn : ∀ it C D i ρ σ kvs s t, (hi : i < ns.length) → I D i ρ σ → At prog w K p lo O g L ρ ((C, .nsp ((x, .int ns[i] t) :: kvs)) :: (it, listIt l (i + 1)) :: σ) s →
      Tests prog w A ifs (compEnvC scope cl C env) (fun ok s₃ =>
        if ok = true then wpAny (model prog w) A (eval elt (compEnvC scope cl C env)) (fun y s₄ => wpAny (model prog w) A (call (.builtin "list.append") [.ref D, y]) (fun _ s₅ => TurnEnd prog w K p lo O g L C it (listIt l (i + 1)) (I D (i + 1)) s₅) (fun _ _ => False) s₄) (fun _ _ => False) s₃
        else TurnEnd prog w K p lo O g L C it (listIt l (i + 1)) (I D (i + 1)) s₃) s)
    (fin : ∀ C D ρ σ kvs s, I D ns.length ρ σ → At prog w K p lo O g L ρ ((C, .nsp kvs) :: σ) s → RR (.ref D) C (.ok .next) s)
    (hcell : ∀ y ∈ scope.names, y.2 ≠ .cell := by decide) (hkind : scope.kind = .function := by rfl) (hx : scope.names.lookup x = some .local := by rfl) :
    wpAny (model prog w) A (pyIter (.ref l)) (fun it s₂ => wpAny (model prog w) A (newList []) (fun acc s₃ => wpAny (model prog w) A (newFunctionEnv scope env.globals cl [] env.qual none .none (some env)) (fun cenv s₄ =>
      codeAny (model prog w) A (.compStart (.ListComp elt [⟨.Name x px, iter, ifs, 0⟩] scope pos) 0 it acc { cenv with scope := relabel scope env }) (RR acc cenv.locals) s₄) E s₃) E s₂) E s := by
  obtain ⟨vs, n, e, hi⟩ := H.ints hm
  refine wpAny_pyIter_list (isListOf e) ?_
  exact comp_from (src_ints hh) asp hasp I (fun D i ρ σ q hI => .tail _ (keep D i ρ σ hI)) (fun H h => self_list H h) h0 (fun C D i ρ σ kvs s v hi hI hv H' => by obtain ⟨t, h1, rfl⟩ := hv; exact turn _ C D i ρ σ kvs s t h1 hI H') fin (H.pushObj _ (tk := s.toks)) hcell hkind hx

theorem compPost_none {C : Addr} {acc : Value} {kvs : List (Str × Value)} {Q : Value → Shared → Prop} (H : At prog w K p lo O g L ρ ((C, .nsp kvs) :: σ) s) (k : ∀ s', At prog w K p lo O g L ρ σ s' → Q acc s') : compPost (model prog w) A E none Q acc C (.ok .next) s := by
  obtain ⟨o, e, m, k1, _⟩ := H.led.get (.head _)
  exact ⟨m, k1.ns e, fun h' hs => k _ (H.extBut (s' := { s with heap := h' }) hs.extBut)⟩
theorem compPost_store {C : Addr} {acc : Value} {y : Str} {py : Pos} {env : Env} {kvs : List (Str × Value)} {Q : Value → Shared → Prop}
    (h : wpAny (model prog w) A (storeName env y acc) (fun _ s' => ∃ ρ σ kvs', At prog w K p lo O g L ρ ((C, .nsp kvs') :: σ) s' ∧ ∀ s'', At prog w K p lo O g L ρ σ s'' → Q .none s'') (fun _ _ => False) s) :
    compPost (model prog w) A E (some (assign (.Name y py) env)) Q acc C (.ok .next) s := by
  refine wpAny_assign_Name (wpAny_mono h (fun _ s' h' => ?_) fun _ _ e => e.elim)
  obtain ⟨ρ, σ, kvs', H, k⟩ := h'
  obtain ⟨o, e, m, k1, _⟩ := H.led.get (.head _)
  exact ⟨m, k1.ns e, fun h' hs => k _ (H.extBut (s' := { s' with heap := h' }) hs.extBut)⟩

theorem comp_eval {elt iter : PySem.Expr} {target : PySem.Expr} {ifs : List PySem.Expr} {rest : List Comprehension} {scope : Scope} {cl : List (Str × Addr)} {pos : Pos} {env : Env} {Q : Value → Shared → Prop}
    (hclos : closureFor scope env = pure cl)
    (h : wpAny (model prog w) A (eval iter env) (fun xv s₁ => wpAny (model prog w) A (pyIter xv) (fun it s₂ => wpAny (model prog w) A (newList []) (fun acc s₃ => wpAny (model prog w) A (newFunctionEnv scope env.globals cl [] env.qual none .none (some env)) (fun cenv s₄ =>
      codeAny (model prog w) A (.compStart (.ListComp elt (⟨target, iter, ifs, 0⟩ :: rest) scope pos) 0 it acc { cenv with scope := relabel scope env }) (compPost (model prog w) A E none Q acc cenv.locals) s₄) E s₃) E s₂) E s₁) E s)
    (hkind : scope.kind = .function := by rfl) (hnames : ∀ y ∈ scope.names, y.2 = .local → scope.names.lookup y.1 = some .local := by decide) (hs : ∀ x, foldedSetIterable iter env x = pure x := by intro _; rfl) :
    wpAny (model prog w) A (eval (.ListComp elt (⟨target, iter, ifs, 0⟩ :: rest) scope pos) env) Q E s := by
  rw [eval_ListComp]
  exact wpAny_comprehension_free (use := none) rfl hs hclos hkind hnames h

theorem comp_assign {elt iter : PySem.Expr} {target : PySem.Expr} {ifs : List PySem.Expr} {rest : List Comprehension} {scope : Scope} {cl : List (Str × Addr)} {pos spos py : Pos} {y : Str} {env : Env} {Q : Flow → Shared → Prop}
    (hsw : swapsWith (.ListComp elt (⟨target, iter, ifs, 0⟩ :: rest) scope pos) (some (.Name y py)) spos.line env = pure true) (hclos : closureFor scope env = pure cl)
    (h : wpAny (model prog w) A (eval iter env) (fun xv s₁ => wpAny (model prog w) A (pyIter xv) (fun it s₂ => wpAny (model prog w) A (newList []) (fun acc s₃ => wpAny (model prog w) A (newFunctionEnv scope env.globals cl [] env.qual none .none (some env)) (fun cenv s₄ =>
      codeAny (model prog w) A (.compStart (.ListComp elt (⟨target, iter, ifs, 0⟩ :: rest) scope pos) 0 it acc { cenv with scope := relabel scope env }) (compPost (model prog w) A E (some (assign (.Name y py) env)) (fun _ s' => Q .next s') acc cenv.locals) s₄) E s₃) E s₂) E s₁) E s)
    (hkind : scope.kind = .function := by rfl) (hnames : ∀ y ∈ scope.names, y.2 = .local → scope.names.lookup y.1 = some .local := by decide) (hs : ∀ x, foldedSetIterable iter env x = pure x := by intro _; rfl) :
    wpAny (model prog w) A (exec (.Assign [.Name y py] (.ListComp elt (⟨target, iter, ifs, 0⟩ :: rest) scope pos) spos) env) Q E s := by
  rw [exec_Assign_Name_used _ _ _ _ hsw]
  refine wpAny_bind (wpAny_standAt (wpAny_bind ?_))
  show wpAny _ A (do let _ ← comprehension (.ListComp elt (⟨target, iter, ifs, 0⟩ :: rest) scope pos) scope env _ (newList []) false (eval iter env) (some (assign (.Name y py) env))) _ _ s
  exact wpAny_bind (wpAny_mono (wpAny_comprehension_free (use := some (assign (.Name y py) env)) (Q := fun _ s' => Q .next s') rfl hs hclos hkind hnames h) (fun _ s' hq => wpAny_pure (wpAny_pure hq)) fun _ _ e => e)
end
end Mine
namespace Mine
section
variable {prog : Program} {w : World} {K : Frag} {p : Program} {lo : List Str} {O : OsState} {g h h' : Heap} {L a b : Addr} {ρ ρ' : Locs} {σ σ' τ : Ledger} {s : Shared} {sp sp' : Sp} {m : Str → Option Value} {o : Obj}
  {A : Around} {E : Value → Shared → Prop} {ns ms : List Int} {env : Env} {x : Str} {v : Value} {M : Model}
theorem compPost_st {C : Addr} {acc : Value} {y : Str} {py : Pos} {Q : Value → Shared → Prop} (_H : At prog w K p lo O g L ρ σ s)
    (h : wpAny (model prog w) A (storeName env y acc) (fun _ s' => ∃ ρ σ kvs', At prog w K p lo O g L ρ ((C, .nsp kvs') :: σ) s' ∧ ∀ s'', At prog w K p lo O g L ρ σ s'' → Q .none s'') (fun _ _ => False) s) :
    compPost (model prog w) A E (some (assign (.Name y py) env)) Q acc C (.ok .next) s := compPost_store (kvs := []) h
end
end Mine
namespace Mine
abbrev keyIt (d : Addr) (n ep i : Nat) : Sp := .pred fun o => o.cls = .type "dict_keyiterator" ∧ o.data = .fields #[.ref d, .int i 0, .int n 0, .int ep 0]
/-- a dict whose table has not been touched since -/
abbrev dictE (prog : Program) (w : World) (kvs : List (Int × Value)) (ep : Nat) : Sp := .pred fun o => ∃ es, o.ExactDict ∧ o.data = .dict es ep ∧ KeysOf (PySem.intKind prog w) es ∧ Pairs (PySem.intKind prog w) es.toList kvs ∧ (kvs.map (·.1)).Nodup
section
variable {prog : Program} {w : World} {K : Frag} {p : Program} {lo : List Str} {O : OsState} {g h h' : Heap} {L a b d : Addr} {ρ ρ' : Locs} {σ σ' τ : Ledger} {s : Shared} {sp sp' : Sp} {m : Str → Option Value} {o : Obj}
  {A : Around} {E : Value → Shared → Prop} {ns ms : List Int} {env : Env} {x : Str} {v : Value} {M : Model} {kvs ka kb : List (Int × Value)} {ep : Nat} {k : Int} {t u : Tok}

theorem dictE_of : (dictE prog w kvs ep).ok prog w o → (Sp.idict kvs).ok prog w o := fun ⟨es, h⟩ => ⟨es, ep, h⟩
theorem At.openE (H : At prog w K p lo O g L ρ ((d, .idict kvs) :: σ) s) : ∃ ep, At prog w K p lo O g L ρ ((d, dictE prog w kvs ep) :: σ) s := by
  obtain ⟨o, e, es, ep, r⟩ := H.led.get (.head _)
  exact ⟨ep, H.upd .head ⟨rfl, fun _ _ => rfl⟩ ⟨o, e, es, r⟩⟩
theorem At.closeE (H : At prog w K p lo O g L ρ ((d, dictE prog w kvs ep) :: σ) s) : At prog w K p lo O g L ρ ((d, .idict kvs) :: σ) s := H.recast .head fun o => dictE_of
theorem At.dictE (H : At prog w K p lo O g L ρ σ s) (hm : (a, Mine.dictE prog w kvs ep) ∈ σ) : s.heap.DictAt (PySem.intKind prog w) a kvs ep := by
  obtain ⟨o, e, es, r⟩ := H.led.get hm; exact ⟨o, es, e, r⟩

theorem r_item_dictE {value slice : PySem.Expr} {Q : Value → Shared → Prop} (H : At prog w K p lo O g L ρ σ s) (hm : (a, Mine.dictE prog w kvs ep) ∈ σ) (hx : valueAt kvs k = some v) (h : ∀ s', At prog w K p lo O g L ρ σ s' → Q v s')
    (hs : subscripted slice false (.ref a) (.int k u) = operate [.ref a, .int k u] (getItem (.ref a) (.int k u)) := by with_unfolding_all rfl) :
    wpAny (model prog w) A (subscriptTail value slice (.ref a) (.int k u)) Q E s :=
  have D := (H.dictE hm).dictOf
  tail_any D.typeIs slot_dict_getitem.lookup (wpAny_getItem_of (knd := PySem.intKind prog w) (intKind_is prog w k u) D.mapOf hx (h _ H.toks)) hs

/-! a dict's keys -/
theorem src_keys {it : Addr} (hh : A.handled = none) : Src prog w K p lo O A it (keyIt d kvs.length ep) kvs.length (fun i v => ∃ t, ∃ h : i < kvs.length, v = .int kvs[i].1 t) (fun σ => (d, Mine.dictE prog w kvs ep) ∈ σ) where
  item := by
    intro g L ρ σ s i Q E H hm hi hQ
    have D := H.dictE (.tail _ hm)
    obtain ⟨o, e, k1, k2⟩ := H.led.get (.head _)
    have hx : kvs[i]? = some (kvs[i].1, kvs[i].2) := List.getElem?_eq_getElem hi
    refine wpAny_pyNext_dict_item (knd := PySem.intKind prog w) ⟨o, e, k1, k2⟩ D hx fun key h' hkey hit' hs => ?_
    obtain ⟨t, rfl⟩ := Value.isInt_shape hkey
    obtain ⟨o', e', k1', k2'⟩ := hit'
    exact hQ _ _ ⟨t, hi, rfl⟩ (H.upd .head hs ⟨o', e', k1', k2'⟩)
  done := by
    intro g L ρ σ s Q E H hm hQ
    have D := H.dictE (.tail _ hm)
    obtain ⟨o, e, k1, k2⟩ := H.led.get (.head _)
    exact wpAny_pyNext_dict_end (knd := PySem.intKind prog w) hh ⟨o, e, k1, k2⟩ D (by simp) fun h' hs => hQ _ (H.extBut (s' := { s with heap := h' }) hs)
theorem self_keys {it : Addr} {n i : Nat} {Q : Value → Shared → Prop} (H : At prog w K p lo O g L ρ ((it, keyIt d n ep i) :: σ) s) (h : Q (.ref it) s) : wpAny (model prog w) A (pyIter (.ref it)) Q E s := by
  obtain ⟨o, e, k1, k2⟩ := H.led.get (.head _)
  exact wpAny_pyIter_keyiter ⟨o, e, k1, k2⟩ h
theorem iter_keys {Q : Value → Shared → Prop} (H : At prog w K p lo O g L ρ σ s) (hm : (d, Mine.dictE prog w kvs ep) ∈ σ) (h : ∀ it s', At prog w K p lo O g L ρ ((it, keyIt d kvs.length ep 0) :: σ) s' → Q (.ref it) s') :
    wpAny (model prog w) A (pyIter (.ref d)) Q E s :=
  wpAny_pyIter_dict (knd := PySem.intKind prog w) (H.low hm) (H.dictE hm) (h _ _ (H.push (tk := s.toks) (sp := keyIt d kvs.length ep 0) ⟨rfl, rfl⟩))
theorem self_range {it : Addr} {n : Nat} {Q : Value → Shared → Prop} (H : At prog w K p lo O g L ρ ((it, rangeIt n 0) :: σ) s) (h : Q (.ref it) s) : wpAny (model prog w) A (pyIter (.ref it)) Q E s := by
  obtain ⟨o, e, k1⟩ := H.led.get (.head _)
  subst k1
  exact wpAny_pyIter_rangeiter (x := ((0 : Nat) : Int)) (left := (n : Int) - ((0 : Nat) : Int)) (step := 1) e h
theorem iter_range {r : Addr} {t₁ t₂ t₃ : Tok} {n : Nat} {Q : Value → Shared → Prop} (H : At prog w K p lo O g L ρ ((r, .obj { cls := .type "range", data := .fields #[.int 0 t₁, .int n t₂, .int 1 t₃] }) :: σ) s) (hn : n < 9000000)
    (h : ∀ it s', At prog w K p lo O g L ρ ((it, rangeIt n 0) :: σ) s' → Q (.ref it) s') : wpAny (model prog w) A (pyIter (.ref r)) Q E s := by
  obtain ⟨o, e, k⟩ := H.led.get (.head _)
  have k' : o = _ := k
  subst k'
  obtain ⟨hs, hz⟩ := range_small hn
  refine wpAny_pyIter_range (a := 0) (b := (n : Int)) (c := 1) e hs ?_
  rw [hz]
  have H1 := H.push (tk := s.toks) (o := { cls := .type "range_iterator", data := .fields #[rawInt 0, rawInt (n : Int), rawInt 1] }) (sp := rangeIt n 0) (by show _ = _; simp [rawInt])
  exact h _ _ (H1.sub fun x => by simp only [List.count_cons]; omega)

theorem for_keys {x : Str} {xp : Pos} {body : List Stmt} {Q : Flow → Shared → Prop} {Er : Value → Shared → Prop}
    (H : At prog w K p lo O g L ρ σ s) (hm : (d, Mine.dictE prog w kvs ep) ∈ σ) (hh : A.handled = none) (I : Nat → Locs → Ledger → Prop) (h0 : I 0 ρ σ) (keep : ∀ i ρ σ, I i ρ σ → (d, Mine.dictE prog w kvs ep) ∈ σ)
    (turn : ∀ it i ρ σ s t, (hi : i < kvs.length) → I i ρ σ → At prog w K p lo O g L ((x, .int kvs[i].1 t) :: ρ) ((it, keyIt d kvs.length ep (i + 1)) :: σ) s →
      wpAny (model prog w) A (execs body env) (fun f s' => match f with
        | .next => Hold (∃ ρ' σ', At prog w K p lo O g L ρ' ((it, keyIt d kvs.length ep (i + 1)) :: σ') s' ∧ I (i + 1) ρ' σ')
        | _ => False) (fun _ _ => False) s)
    (fin : ∀ ρ σ s, I kvs.length ρ σ → At prog w K p lo O g L ρ σ s → Q .next s)
    (hL : env.locals = L := by rfl) (hk : env.scope.kind = .function := by rfl) (hx : env.kindOf x = some .local := by rfl) :
    wpAny (model prog w) A (pyIter (.ref d)) (fun it s₂ => codeAny (model prog w) A (.forLoop (.Name x xp) it body [] env) (fun r s' => match r with | .ok f => Q f s' | .error e => Er e s') s₂) E s :=
  iter_keys H hm fun it s' H' => loop_src (src_keys hh) I keep (fun i ρ σ s v hi hI hv H' => by obtain ⟨t, h1, rfl⟩ := hv; exact wpAny_nx (turn _ i ρ σ s t h1 hI H')) fin H' h0 hL hk hx

/-! comprehensions over a range, over a dict's keys -/
theorem comp_range {elt iter : PySem.Expr} {x : Str} {px : Pos} {ifs : List PySem.Expr} {scope : Scope} {cl : List (Str × Addr)} {pos : Pos} {r : Addr} {t₁ t₂ t₃ : Tok} {n : Nat} {RR : Value → Addr → Result → Shared → Prop}
    (H : At prog w K p lo O g L ρ ((r, .obj { cls := .type "range", data := .fields #[.int 0 t₁, .int n t₂, .int 1 t₃] }) :: σ) s) (hn : n < 9000000) (hh : A.handled = none) (asp : Sp) (hasp : ∀ o, (Sp.ints []).ok prog w o → asp.ok prog w o) (I : Addr → Nat → Locs → Ledger → Prop)
    (h0 : ∀ D, I D 0 ρ ((D, asp) :: σ))
    (turn : ∀ it C D i ρ σ kvs s t, i < n → I D i ρ σ → At prog w K p lo O g L ρ ((C, .nsp ((x, .int (i : Int) t) :: kvs)) :: (it, rangeIt n (i + 1)) :: σ) s →
      Tests prog w A ifs (compEnvC scope cl C env) (fun ok s₃ =>
        if ok = true then wpAny (model prog w) A (eval elt (compEnvC scope cl C env)) (fun y s₄ => wpAny (model prog w) A (call (.builtin "list.append") [.ref D, y]) (fun _ s₅ => TurnEnd prog w K p lo O g L C it (rangeIt n (i + 1)) (I D (i + 1)) s₅) (fun _ _ => False) s₄) (fun _ _ => False) s₃
        else TurnEnd prog w K p lo O g L C it (rangeIt n (i + 1)) (I D (i + 1)) s₃) s)
    (fin : ∀ C D ρ σ kvs s, I D n ρ σ → At prog w K p lo O g L ρ ((C, .nsp kvs) :: σ) s → RR (.ref D) C (.ok .next) s)
    (hcell : ∀ y ∈ scope.names, y.2 ≠ .cell := by decide) (hkind : scope.kind = .function := by rfl) (hx : scope.names.lookup x = some .local := by rfl) :
    wpAny (model prog w) A (pyIter (.ref r)) (fun it s₂ => wpAny (model prog w) A (newList []) (fun acc s₃ => wpAny (model prog w) A (newFunctionEnv scope env.globals cl [] env.qual none .none (some env)) (fun cenv s₄ =>
      codeAny (model prog w) A (.compStart (.ListComp elt [⟨.Name x px, iter, ifs, 0⟩] scope pos) 0 it acc { cenv with scope := relabel scope env }) (RR acc cenv.locals) s₄) E s₃) E s₂) E s :=
  iter_range H hn fun it s' H' => comp_from (src_range hh) asp hasp I (fun D i ρ σ q hI => trivial) (fun H h => self_range H h) h0 (fun C D i ρ σ kvs s v hi hI hv H' => by obtain ⟨t, rfl⟩ := hv; exact turn _ C D i ρ σ kvs s t hi hI H') fin H' hcell hkind hx

/-! dict comprehensions -/
theorem dcomp_loop {kx vx iter : PySem.Expr} {x : Str} {px : Pos} {ifs : List PySem.Expr} {scope : Scope} {pos : Pos} {cenv : Env} {it C D : Addr} {isp : Nat → Sp} {n : Nat} {val : Nat → Value → Prop} {need : Ledger → Prop} {R : Result → Shared → Prop} {kvs : List (Str × Value)}
    (S : Src prog w K p lo O A it isp n val need) (I : Nat → Locs → Ledger → Prop) (keep : ∀ i ρ σ q, I i ρ σ → need (q :: σ))
    (turn : ∀ i ρ σ kvs s v, i < n → I i ρ σ → val i v → At prog w K p lo O g L ρ ((C, .nsp ((x, v) :: kvs)) :: (it, isp (i + 1)) :: σ) s →
      Tests prog w A ifs cenv (fun ok s₃ =>
        if ok = true then wpAny (model prog w) A (eval kx cenv) (fun y s₄ => wpAny (model prog w) A (eval vx cenv) (fun z s₅ => wpAny (model prog w) A (dictSet D y z) (fun _ s₆ => TurnEnd prog w K p lo O g L C it (isp (i + 1)) (I (i + 1)) s₆) (fun _ _ => False) s₅) (fun _ _ => False) s₄) (fun _ _ => False) s₃
        else TurnEnd prog w K p lo O g L C it (isp (i + 1)) (I (i + 1)) s₃) s)
    (fin : ∀ ρ σ kvs s, I n ρ σ → At prog w K p lo O g L ρ ((C, .nsp kvs) :: σ) s → R (.ok .next) s)
    (H : At prog w K p lo O g L ρ ((C, .nsp kvs) :: (it, isp 0) :: σ) s) (h0 : I 0 ρ σ)
    (hL : cenv.locals = C) (hk : cenv.scope.kind = .function) (hx : cenv.kindOf x = some .local) :
    codeAny (model prog w) A (.compLoop (.DictComp kx vx [⟨.Name x px, iter, ifs, 0⟩] scope pos) 0 (.ref it) (.ref D) cenv) R s := by
  have swap : ∀ {ρ : Locs} {q r : Addr × Sp} {σ : Ledger} {s : Shared}, At prog w K p lo O g L ρ (q :: r :: σ) s → At prog w K p lo O g L ρ (r :: q :: σ) s := fun H => H.sub fun x => by
    simp only [List.count_cons]; omega
  refine codeAny_compLoop_testsD (fun k s => ∃ i ρ σ kvs, i ≤ n ∧ k = n + 1 - i ∧ I i ρ σ ∧ At prog w K p lo O g L ρ ((C, .nsp kvs) :: (it, isp i) :: σ) s) (fun k s hI => ?_) (n + 1) ⟨0, ρ, σ, kvs, Nat.zero_le _, rfl, h0, H⟩
  obtain ⟨i, ρ, σ, kvs, hi, hk', hI, H⟩ := hI
  have H1 := swap H
  rcases Nat.lt_or_ge i n with hlt | hge
  · refine S.item H1 (keep _ _ _ _ hI) hlt fun v s' hv H' => ?_
    refine wpAny_noE (wpAny_assign_Name (r_cst (swap H') .head (fun s2 H2 => ?_) hL hk hx))
    refine wpAny_mono (turn i ρ σ kvs s2 v hlt hI hv H2) (fun ok s3 h3 => ?_) fun _ _ e => e.elim
    split
    · rename_i hok
      rw [if_pos hok] at h3
      refine wpAny_mono h3 (fun y s4 h4 => ?_) fun _ _ e => e.elim
      refine wpAny_mono h4 (fun z s5 h5 => ?_) fun _ _ e => e.elim
      refine wpAny_mono h5 (fun _ s6 h6 => ?_) fun _ _ e => e.elim
      obtain ⟨kvs', ρ', σ', H5, I5⟩ := h6
      exact ⟨n + 1 - (i + 1), by omega, i + 1, ρ', σ', kvs', hlt, rfl, I5, H5⟩
    · rename_i hok
      rw [if_neg hok] at h3
      obtain ⟨kvs', ρ', σ', H5, I5⟩ := h3
      exact ⟨n + 1 - (i + 1), by omega, i + 1, ρ', σ', kvs', hlt, rfl, I5, H5⟩
  · have e : i = n := Nat.le_antisymm hi hge
    subst e
    exact S.done H1 (keep _ _ _ _ hI) fun s' H' => fin ρ σ kvs s' hI H'

theorem r_newDict0 {Q : Value → Shared → Prop} (H : At prog w K p lo O g L ρ σ s) (h : ∀ D s', At prog w K p lo O g L ρ ((D, .idict []) :: σ) s' → Q (.ref D) s') : wpAny M A newDict Q E s := by
  obtain ⟨o, ho, hd⟩ := Heap.dictOf_iff.mp (Heap.DictOf.new (knd := PySem.intKind prog w) s.heap)
  rw [Heap.get?_push_size _ rfl] at ho
  cases ho
  exact wpAny_newObj_type (h _ _ (H.push (tk := s.toks) (sp := .idict []) hd))

theorem dcomp_keys {kx vx iter : PySem.Expr} {x : Str} {px : Pos} {ifs : List PySem.Expr} {scope : Scope} {cl : List (Str × Addr)} {pos : Pos} {RR : Value → Addr → Result → Shared → Prop}
    (H : At prog w K p lo O g L ρ σ s) (hm : (d, Mine.dictE prog w kvs ep) ∈ σ) (hh : A.handled = none) (I : Addr → Nat → Locs → Ledger → Prop)
    (h0 : ∀ D, I D 0 ρ ((D, .idict []) :: σ)) (keep : ∀ D i ρ σ, I D i ρ σ → (d, Mine.dictE prog w kvs ep) ∈ σ)
    (turn : ∀ it C D i ρ σ ls s t, (hi : i < kvs.length) → I D i ρ σ → At prog w K p lo O g L ρ ((C, .nsp ((x, .int kvs[i].1 t) :: ls)) :: (it, keyIt d kvs.length ep (i + 1)) :: σ) s →
      Tests prog w A ifs (compEnvC scope cl C env) (fun ok s₃ =>
        if ok = true then wpAny (model prog w) A (eval kx (compEnvC scope cl C env)) (fun y s₄ => wpAny (model prog w) A (eval vx (compEnvC scope cl C env)) (fun z s₅ => wpAny (model prog w) A (dictSet D y z) (fun _ s₆ => TurnEnd prog w K p lo O g L C it (keyIt d kvs.length ep (i + 1)) (I D (i + 1)) s₆) (fun _ _ => False) s₅) (fun _ _ => False) s₄) (fun _ _ => False) s₃
        else TurnEnd prog w K p lo O g L C it (keyIt d kvs.length ep (i + 1)) (I D (i + 1)) s₃) s)
    (fin : ∀ C D ρ σ ls s, I D kvs.length ρ σ → At prog w K p lo O g L ρ ((C, .nsp ls) :: σ) s → RR (.ref D) C (.ok .next) s)
    (hcell : ∀ y ∈ scope.names, y.2 ≠ .cell := by decide) (hkind : scope.kind = .function := by rfl) (hx : scope.names.lookup x = some .local := by rfl) :
    wpAny (model prog w) A (pyIter (.ref d)) (fun it s₂ => wpAny (model prog w) A newDict (fun acc s₃ => wpAny (model prog w) A (newFunctionEnv scope env.globals cl [] env.qual none .none (some env)) (fun cenv s₄ =>
      codeAny (model prog w) A (.compStart (.DictComp kx vx [⟨.Name x px, iter, ifs, 0⟩] scope pos) 0 it acc { cenv with scope := relabel scope env }) (RR acc cenv.locals) s₄) E s₃) E s₂) E s := by
  refine iter_keys H hm fun it s0 H0 => r_newDict0 H0 fun D s1 H1 => ?_
  refine wpAny_newFunctionEnv hcell (by intro y hy; simp at hy) (fun h₁ hns₁ hsb₁ => ?_) hkind
  have up : ∀ b o, s1.heap.get? b = some o → h₁.get? b = some o := fun b o e => hsb₁.extBut b o (Nat.ne_of_lt (Heap.lt_size e)) (Heap.get?_push_of_some _ e)
  obtain ⟨oC, eC, kC⟩ := LCg.ns_obj hns₁
  have H2 := H1.alloc (s' := { s1 with heap := h₁, toks := s1.toks + ([] : List (Str × Value)).length }) (sp := .nsp []) up (Nat.le_refl _) ⟨oC, eC, _, kC, fun _ _ e => by cases e⟩
  have H3 := H2.sub (σ' := (s1.heap.objs.size, .nsp []) :: (it, keyIt d kvs.length ep 0) :: (D, .idict []) :: σ) fun x => by
    simp only [List.count_cons]; omega
  have loop := dcomp_loop (kx := kx) (vx := vx) (iter := iter) (px := px) (ifs := ifs) (scope := scope) (pos := pos) (cenv := compEnvC scope cl s1.heap.objs.size env) (D := D) (R := RR (.ref D) s1.heap.objs.size) (src_keys hh) (I D) (fun i ρ σ q hI => .tail _ (keep D i ρ σ hI))
    (fun i ρ σ ls s v hi hI hv H' => by obtain ⟨t, h1, rfl⟩ := hv; exact turn it s1.heap.objs.size D i ρ σ ls s t h1 hI H') (fin s1.heap.objs.size D) H3 (h0 D) rfl (by simp [compEnvC, relabel, hkind]) (lookup_relabel_local hx)
  refine codeAny_compStart_dict loop (wpAny_noE (self_keys (it := it) (d := d) (n := kvs.length) (ep := ep) (i := 0) (ρ := ρ) (σ := (s1.heap.objs.size, .nsp []) :: (D, .idict []) :: σ) (H2.sub fun x => by simp only [List.count_cons]; omega) loop))

theorem r_dictSet {Q : Unit → Shared → Prop} (H : At prog w K p lo O g L ρ σ s) (U : Up d (.idict kvs) (.idict (stored kvs k v)) σ σ') (hsz : kvs.length < 9000000) (h : ∀ s', At prog w K p lo O g L ρ σ' s' → Q () s') :
    wpAny (model prog w) A (dictSet d (.int k u) v) Q E s := by
  refine wpAny_dictSet_pairs (hsz := by rw [sizeLine_eq]; omega) (knd := PySem.intKind prog w) (intKind_is prog w k u) (H.dict U.mem) fun h' hD hs => h _ (H.upd U hs (let ⟨o, e, k⟩ := Heap.dictOf_iff.mp hD; ⟨o, e, k⟩))

theorem dcomp_eval {kx vx iter : PySem.Expr} {target : PySem.Expr} {ifs : List PySem.Expr} {rest : List Comprehension} {scope : Scope} {cl : List (Str × Addr)} {pos : Pos} {Q : Value → Shared → Prop}
    (hclos : closureFor scope env = pure cl)
    (h : wpAny (model prog w) A (eval iter env) (fun xv s₁ => wpAny (model prog w) A (pyIter xv) (fun it s₂ => wpAny (model prog w) A newDict (fun acc s₃ => wpAny (model prog w) A (newFunctionEnv scope env.globals cl [] env.qual none .none (some env)) (fun cenv s₄ =>
      codeAny (model prog w) A (.compStart (.DictComp kx vx (⟨target, iter, ifs, 0⟩ :: rest) scope pos) 0 it acc { cenv with scope := relabel scope env }) (compPost (model prog w) A E none Q acc cenv.locals) s₄) E s₃) E s₂) E s₁) E s)
    (hkind : scope.kind = .function := by rfl) (hnames : ∀ y ∈ scope.names, y.2 = .local → scope.names.lookup y.1 = some .local := by decide) (hs : ∀ x, foldedSetIterable iter env x = pure x := by intro _; rfl) :
    wpAny (model prog w) A (eval (.DictComp kx vx (⟨target, iter, ifs, 0⟩ :: rest) scope pos) env) Q E s := by
  rw [arm_eval_DictComp]
  exact wpAny_comprehension_free (use := none) rfl hs hclos hkind hnames h

/-! tuples of two ints -/
theorem r_newTuple {vs : List Value} {Q : Value → Shared → Prop} (H : At prog w K p lo O g L ρ σ s) (hi : IntsAre vs ns) (hz : ns.length < 9000000) (h : ∀ D s', At prog w K p lo O g L ρ ((D, .tints ns) :: σ) s' → Q (.ref D) s') :
    wpAny M A (newTuple vs) Q E s :=
  wpAny_newTuple (h _ _ (H.push (tk := s.toks) (sp := .tints ns) ⟨vs, 0, rfl, hi⟩)) (by rw [hi.length, sizeLine_eq]; omega)
theorem r_in_tuple {Q : Value → Shared → Prop} (H : At prog w K p lo O g L ρ σ s) (hm : (a, Sp.tints ns) ∈ σ) (h : Q (.bool (ns.any (· == k))) s) : wpAny (model prog w) A (compareOp .In (.int k u) (.ref a)) Q E s := by
  obtain ⟨o, e, vs, n, rfl, hi⟩ := H.led.get hm
  refine SeqAt.in_tupleAt (fun y => match y with | .int z _ => z == k | _ => false) ⟨_, e, rfl, n, rfl⟩ (fun y hy => ?_) ?_
  · obtain ⟨i, hi', ey⟩ := List.mem_iff_getElem.mp (by simpa using hy)
    obtain ⟨t', e1⟩ := hi.int_at i y (by rw [List.getElem?_eq_getElem hi', ey])
    subst e1
    have q := keq_flat (A := A.in1) (s := s) (Flat.int (ns.getD i 0) t') (Flat.int k u)
    have e2 : PyData.eqv (.int (ns.getD i 0)) (.int k) = (ns.getD i 0 == k) := by first | rfl | simp [PyData.eqv]
    rw [e2] at q
    exact q
  · have : vs.toArray.any (fun y => match y with | .int z _ => z == k | _ => false) = ns.any (· == k) := by
      rw [List.any_toArray]
      clear h e hm H
      induction hi with
      | nil => rfl
      | cons z t _ ih => rw [List.any_cons, List.any_cons, ih]
    rw [this]; exact h

/-! equality of dicts -/
theorem r_ne_dict0 {Q : Value → Shared → Prop} (H : At prog w K p lo O g L ρ σ s) (hm : (a, Sp.idict []) ∈ σ) (hm' : (b, Sp.idict []) ∈ σ) (hu : A.units + 64 < cLine) (h : Q (.bool false) s) :
    wpAny (model prog w) A (compareOp .NotEq (.ref a) (.ref b)) Q E s :=
  keq_ne (H.low hm) (H.low hm') (H.dict hm) (H.dict hm') (by omega) (r := true) (fun _ => .nil) h
end
end Mine
namespace Mine
section
variable {prog : Program} {w : World} {K : Frag} {p : Program} {lo : List Str} {O : OsState} {g h h' : Heap} {L a b d : Addr} {ρ ρ' : Locs} {σ σ' τ : Ledger} {s : Shared} {sp sp' : Sp} {m : Str → Option Value} {o : Obj}
  {A : Around} {E : Value → Shared → Prop} {ns ms : List Int} {env : Env} {v : Value} {M : Model} {kvs ka kb : List (Int × Value)} {ep : Nat} {k : Int} {t u : Tok}

/-! a loop over pairs -/
theorem for_pairs {l : Addr} {x y : Str} {xp yp tp : Pos} {tk} {body : List Stmt} {Ps : List (Addr × Int × Int)} {Q : Flow → Shared → Prop} {Er : Value → Shared → Prop}
    (H : At prog w K p lo O g L ρ σ s) (hm : (l, Sp.refs (Ps.map (·.1))) ∈ σ) (hh : A.handled = none) (I : Nat → Locs → Ledger → Prop) (h0 : I 0 ρ σ) (keep : ∀ i ρ σ, I i ρ σ → (l, Sp.refs (Ps.map (·.1))) ∈ σ ∧ ∀ q ∈ Ps, (q.1, Sp.tints [q.2.1, q.2.2]) ∈ σ)
    (turn : ∀ it i ρ σ s t1 t2, (hi : i < Ps.length) → I i ρ σ → At prog w K p lo O g L ((y, .int Ps[i].2.2 t2) :: (x, .int Ps[i].2.1 t1) :: ρ) ((it, listIt l (i + 1)) :: σ) s →
      wpAny (model prog w) A (execs body env) (fun f s' => match f with
        | .next => Hold (∃ ρ' σ', At prog w K p lo O g L ρ' ((it, listIt l (i + 1)) :: σ') s' ∧ I (i + 1) ρ' σ')
        | _ => False) (fun _ _ => False) s)
    (fin : ∀ ρ σ s, I Ps.length ρ σ → At prog w K p lo O g L ρ σ s → Q .next s)
    (hL : env.locals = L := by rfl) (hk : env.scope.kind = .function := by rfl) (hx : env.kindOf x = some .local := by rfl) (hy : env.kindOf y = some .local := by rfl) :
    wpAny (model prog w) A (pyIter (.ref l)) (fun it s₂ => codeAny (model prog w) A (.forLoop (.Tuple [.Name x xp, .Name y yp] tk tp) it body [] env) (fun r s' => match r with | .ok f => Q f s' | .error e => Er e s') s₂) E s := by
  obtain ⟨n, e⟩ := H.refs hm
  refine wpAny_pyIter_list (isListOf e) ?_
  have S := src_refs (prog := prog) (w := w) (K := K) (p := p) (lo := lo) (O := O) (A := A) (it := s.heap.objs.size) (l := l) (as := Ps.map (·.1)) hh
  refine codeAny_forLoop_any (fun k s' => ∃ i ρ σ, i ≤ Ps.length ∧ k = Ps.length - i ∧ I i ρ σ ∧ At prog w K p lo O g L ρ ((s.heap.objs.size, listIt l i) :: σ) s') (fun k s' hI => ?_) Ps.length ⟨0, ρ, σ, Nat.zero_le _, rfl, h0, H.pushObj _ (tk := s.toks)⟩
  obtain ⟨i, ρ, σ, hi, hk', hI, H⟩ := hI
  have hlen : (Ps.map (·.1)).length = Ps.length := List.length_map _
  rcases Nat.lt_or_ge i Ps.length with hlt | hge
  · refine wpAny_noE (S.item H (keep _ _ _ hI).1 (by rw [hlen]; exact hlt) fun v s1 hv H1 => ?_)
    obtain ⟨hj, rfl⟩ := hv
    have eq1 : (Ps.map (·.1))[i] = Ps[i].1 := by simp
    rw [eq1]
    obtain ⟨oi, ei, ki⟩ := H1.led.get (.head _)
    refine wpAny_letOwnedTupleGo_listiter (listIter_eq ei ki) ?_
    obtain ⟨ot, et, vs, nt, rfl, hti⟩ := H1.led.get (.tail _ ((keep _ _ _ hI).2 _ (List.getElem_mem hlt)))
    cases hti with
    | @cons _ t1 us _ hti2 =>
      cases hti2 with
      | @cons _ t2 us2 _ hti3 =>
        cases hti3
        refine assign_Tuple_tuple hh ⟨_, et, rfl, nt, rfl⟩ rfl rfl fun h5 he => ?_
        have he' : ∀ b o, s1.heap.get? b = some o → h5.get? b = some o := fun b o e => he b o (Nat.ne_of_lt (Heap.lt_size e)) e
        have H2 := H1.grow (s' := { s1 with heap := h5 }) he'
        refine assignInOrder_cons (wpAny_assign_Name (r_st H2 (fun s2 H3 => ?_) hL hk hx))
        refine assignInOrder_cons (wpAny_assign_Name (r_st H3 (fun s3 H4 => ?_) hL hk hy))
        refine assignInOrder_nil ?_
        refine wpAny_mono (turn _ i ρ σ s3 t1 t2 hlt hI H4) (fun f s4 h4 => ?_) fun _ _ e => e.elim
        cases f with
        | next => obtain ⟨ρ', σ', H5, I5⟩ := h4; exact ⟨Ps.length - (i + 1), by omega, i + 1, ρ', σ', hlt, rfl, I5, H5⟩
        | _ => exact h4.elim
  · have e : i = Ps.length := Nat.le_antisymm hi hge
    subst e
    rw [← hlen] at H
    exact wpAny_noE (S.done H (keep _ _ _ hI).1 fun s' H' => wpAny_execs_nil (fin ρ σ s' hI H'))

/-! a comprehension of two clauses -/
theorem compTurn_two0 (elt t1 i1 t2 i2 : PySem.Expr) (scope : Scope) (pos : Pos) (it acc : Value) (env : Env) :
    compTurn (.ListComp elt [⟨t1, i1, [], 0⟩, ⟨t2, i2, [], 0⟩] scope pos) 0 it acc env = (standAt i1.pos >>= fun _ => pyNext it >>= fun r => match r with
      | none => pure (.done .next)
      | some v => letOwnedTupleGo t1 it v >>= fun _ => assign t1 env v >>= fun _ =>
        (eval i2 env >>= fun x => standAt i2.pos >>= fun _ => foldedSetIterable i2 env x >>= fun x => holding [x] (pyIter x) >>= fun it2 => runOwn (.compStart (.ListComp elt [⟨t1, i1, [], 0⟩, ⟨t2, i2, [], 0⟩] scope pos) 1 it2 acc env) env >>= fun _ =>
          again (.compLoop (.ListComp elt [⟨t1, i1, [], 0⟩, ⟨t2, i2, [], 0⟩] scope pos) 0 it acc env))) := by rfl
theorem compTurn_two1 (elt t1 i1 t2 i2 : PySem.Expr) (scope : Scope) (pos : Pos) (it acc : Value) (env : Env) :
    compTurn (.ListComp elt [⟨t1, i1, [], 0⟩, ⟨t2, i2, [], 0⟩] scope pos) 1 it acc env = (standAt i2.pos >>= fun _ => pyNext it >>= fun r => match r with
      | none => pure (.done .next)
      | some v => letOwnedTupleGo t2 it v >>= fun _ => assign t2 env v >>= fun _ =>
        (eval elt env >>= fun x => call (.builtin "list.append") [acc, x] >>= fun _ => pure ()) >>= fun _ =>
          again (.compLoop (.ListComp elt [⟨t1, i1, [], 0⟩, ⟨t2, i2, [], 0⟩] scope pos) 1 it acc env)) := by rfl

abbrev two (elt : PySem.Expr) (x : Str) (px : Pos) (i1 : PySem.Expr) (y : Str) (py : Pos) (i2 : PySem.Expr) (scope : Scope) (pos : Pos) : PySem.Expr := .ListComp elt [⟨.Name x px, i1, [], 0⟩, ⟨.Name y py, i2, [], 0⟩] scope pos

theorem codeAny_compStart1 {R : Result → Shared → Prop} {elt i1 i2 : PySem.Expr} {x y : Str} {px py pos : Pos} {scope : Scope} {it acc : Value}
    (h0 : codeAny (model prog w) A (.compLoop (two elt x px i1 y py i2 scope pos) 1 it acc env) R s)
    (h : wpAny (model prog w) A (pyIter it) (fun it' s' => codeAny (model prog w) A (.compLoop (two elt x px i1 y py i2 scope pos) 1 it' acc env) R s') (notedBy (model prog w) A env fun x s' => R (.error x) s') s) :
    codeAny (model prog w) A (.compStart (two elt x px i1 y py i2 scope pos) 1 it acc env) R s := by
  refine codeAny_of_tree ?_
  show wpAny _ _ ((compStart (two elt x px i1 y py i2 scope pos) 1 it acc env).onRaise (fun x => do noteFrame x env; standAt theWindowsPlace)) _ _ s
  refine wpAny_notedAt ?_
  unfold compStart
  show wpAny _ _ (ask >>= _) _ _ s
  refine wpAny_bind (wpAny_askSetting (wpAny_ite ?_))
  split
  · first
      | exact wpAny_bind (wpAny_pure (wpAny_pure (And.intro rfl h0)))
      | exact wpAny_pure (And.intro rfl h0)
  · first
      | exact wpAny_bind (wpAny_rule (wpAny_bind (wpAny_standAt (wpAny_bind (wpAny_mono h (fun it' s' h' => wpAny_pure (And.intro rfl h')) fun _ _ x => x)))))
      | (refine wpAny_bind (wpAny_rule ?_); show wpAny _ _ (standAt i2.pos >>= _) _ _ s; exact wpAny_bind (wpAny_standAt (wpAny_bind (wpAny_mono h (fun it' s' h' => wpAny_pure (And.intro rfl h')) fun _ _ x => x))))

theorem comp2_inner {R : Result → Shared → Prop} {elt i1 i2 : PySem.Expr} {x y : Str} {px py pos : Pos} {scope : Scope} {it2 C D l : Addr} (hh : A.handled = none) (J : Nat → Locs → Ledger → Prop) (keep : ∀ j ρ σ, J j ρ σ → (l, Sp.ints ns) ∈ σ)
    (turn : ∀ j ρ σ s t, (hj : j < ns.length) → J j ρ σ → At prog w K p lo O g L ρ ((C, .nsp [(y, .int ns[j] t), (x, v)]) :: (it2, listIt l (j + 1)) :: σ) s →
      wpAny (model prog w) A (eval elt env) (fun z s₄ => wpAny (model prog w) A (call (.builtin "list.append") [.ref D, z]) (fun _ s₅ => Hold (∃ ρ' σ', At prog w K p lo O g L ρ' ((C, .nsp [(y, .int ns[j] t), (x, v)]) :: (it2, listIt l (j + 1)) :: σ') s₅ ∧ J (j + 1) ρ' σ')) (fun _ _ => False) s₄) (fun _ _ => False) s)
    (fin : ∀ ρ σ s, J ns.length ρ σ → At prog w K p lo O g L ρ ((C, .nsp [(x, v)]) :: σ) s → R (.ok .next) s)
    (H : At prog w K p lo O g L ρ ((C, .nsp [(x, v)]) :: (it2, listIt l 0) :: σ) s) (h0 : J 0 ρ σ) (hxy : x ≠ y)
    (hL : env.locals = C) (hk : env.scope.kind = .function) (hy : env.kindOf y = some .local) :
    codeAny (model prog w) A (.compLoop (two elt x px i1 y py i2 scope pos) 1 (.ref it2) (.ref D) env) R s := by
  have swap : ∀ {ρ : Locs} {q r : Addr × Sp} {σ : Ledger} {s : Shared}, At prog w K p lo O g L ρ (q :: r :: σ) s → At prog w K p lo O g L ρ (r :: q :: σ) s := fun H => H.sub fun x => by
    simp only [List.count_cons]; omega
  have S := src_ints (prog := prog) (w := w) (K := K) (p := p) (lo := lo) (O := O) (A := A) (it := it2) (l := l) (ns := ns) hh
  refine codeAny_loop rfl (fun k s => ∃ j ρ σ, j ≤ ns.length ∧ k = ns.length + 1 - j ∧ J j ρ σ ∧ At prog w K p lo O g L ρ ((C, .nsp [(x, v)]) :: (it2, listIt l j) :: σ) s) (fun k s hI => ?_) (ns.length + 1) ⟨0, ρ, σ, Nat.zero_le _, rfl, h0, H⟩
  show wpAny _ A ((compTurn (two elt x px i1 y py i2 scope pos) 1 (.ref it2) (.ref D) env).onRaise (fun x => do noteFrame x env; theTreesLotGoes x)) _ _ s
  refine wpAny_noted ?_
  rw [compTurn_two1]
  obtain ⟨j, ρ, σ, hj, hk', hJ, H⟩ := hI
  have H1 := swap H
  rcases Nat.lt_or_ge j ns.length with hlt | hge
  · refine wpAny_bind (wpAny_standAt (wpAny_bind (S.item H1 (.tail _ (keep _ _ _ hJ)) hlt fun u s' hv H' => ?_)))
    obtain ⟨t, h1, rfl⟩ := hv
    refine wpAny_bind (wpAny_of_eq (rfl : letOwnedTupleGo (.Name y py) (.ref it2) _ = pure ()) ?_)
    refine wpAny_bind (wpAny_noE (wpAny_assign_Name (r_cst (swap H') .head (fun s2 H2 => ?_) hL hk hy)))
    refine wpAny_bind (wpAny_bind (wpAny_mono (turn j ρ σ s2 t hlt hJ H2) (fun z s4 h4 => wpAny_bind (wpAny_mono h4 (fun _ s5 h5 => wpAny_pure (wpAny_pure ⟨rfl, ?_⟩)) fun _ _ e => e.elim)) fun _ _ e => e.elim))
    obtain ⟨ρ', σ', H5, J5⟩ := h5
    refine ⟨ns.length + 1 - (j + 1), by omega, j + 1, ρ', σ', hlt, rfl, J5, H5.recast .head ?_⟩
    rintro o ⟨m, a, b⟩
    refine ⟨m, a, fun z u e => b z u ?_⟩
    rw [List.lookup_cons] at e ⊢
    cases q : z == x with
    | true =>
      rw [q] at e
      have : (z == y) = false := by rw [beq_iff_eq.mp q]; exact beq_eq_false_iff_ne.mpr hxy
      rw [this, List.lookup_cons, q]; exact e
    | false => rw [q] at e; cases e
  · have e : j = ns.length := Nat.le_antisymm hj hge
    subst e
    exact wpAny_bind (wpAny_standAt (wpAny_bind (S.done H1 (.tail _ (keep _ _ _ hJ)) fun s' H' => wpAny_pure (fin ρ σ s' hJ H'))))

theorem comp2_outer {R : Result → Shared → Prop} {elt i1 i2 : PySem.Expr} {x y : Str} {px py pos : Pos} {scope : Scope} {it C D : Addr} {isp : Nat → Sp} {n : Nat} {val : Nat → Value → Prop} {need : Ledger → Prop}
    (S : Src prog w K p lo O A it isp n val need) (hh : A.handled = none) (J : Nat → Nat → Locs → Ledger → Prop) (lf : Nat → Addr) (nf : Nat → List Int)
    (keep : ∀ i j ρ σ q, J i j ρ σ → need (q :: σ)) (cell : ∀ i j ρ σ, i < n → J i j ρ σ → (lf i, Sp.ints (nf i)) ∈ σ) (next : ∀ i ρ σ, i < n → J i (nf i).length ρ σ → J (i + 1) 0 ρ σ)
    (outer : ∀ i ρ σ s v, i < n → J i 0 ρ σ → val i v → At prog w K p lo O g L ρ ((C, .nsp [(x, v)]) :: (it, isp (i + 1)) :: σ) s →
      wpAny (model prog w) A (eval i2 env) (fun xv s₂ => Hold (xv = .ref (lf i) ∧ At prog w K p lo O g L ρ ((C, .nsp [(x, v)]) :: (it, isp (i + 1)) :: σ) s₂)) (fun _ _ => False) s)
    (inner : ∀ it2 i j ρ σ s v t, i < n → (hj : j < (nf i).length) → J i j ρ σ → val i v → At prog w K p lo O g L ρ ((C, .nsp [(y, .int (nf i)[j] t), (x, v)]) :: (it2, listIt (lf i) (j + 1)) :: (it, isp (i + 1)) :: σ) s →
      wpAny (model prog w) A (eval elt env) (fun z s₄ => wpAny (model prog w) A (call (.builtin "list.append") [.ref D, z]) (fun _ s₅ => Hold (∃ ρ' σ', At prog w K p lo O g L ρ' ((C, .nsp [(y, .int (nf i)[j] t), (x, v)]) :: (it2, listIt (lf i) (j + 1)) :: (it, isp (i + 1)) :: σ') s₅ ∧ J i (j + 1) ρ' σ')) (fun _ _ => False) s₄) (fun _ _ => False) s)
    (fin : ∀ ρ σ kvs s, J n 0 ρ σ → At prog w K p lo O g L ρ ((C, .nsp kvs) :: σ) s → R (.ok .next) s) {ls : List (Str × Value)}
    (H : At prog w K p lo O g L ρ ((C, .nsp ls) :: (it, isp 0) :: σ) s) (h0 : J 0 0 ρ σ) (hxy : x ≠ y)
    (hL : env.locals = C) (hk : env.scope.kind = .function) (hx : env.kindOf x = some .local) (hy : env.kindOf y = some .local) (hs : ∀ x, foldedSetIterable i2 env x = pure x) :
    codeAny (model prog w) A (.compLoop (two elt x px i1 y py i2 scope pos) 0 (.ref it) (.ref D) env) R s := by
  have swap : ∀ {ρ : Locs} {q r : Addr × Sp} {σ : Ledger} {s : Shared}, At prog w K p lo O g L ρ (q :: r :: σ) s → At prog w K p lo O g L ρ (r :: q :: σ) s := fun H => H.sub fun x => by
    simp only [List.count_cons]; omega
  refine codeAny_loop rfl (fun k s => ∃ i ρ σ kvs, i ≤ n ∧ k = n + 1 - i ∧ J i 0 ρ σ ∧ At prog w K p lo O g L ρ ((C, .nsp kvs) :: (it, isp i) :: σ) s) (fun k s hI => ?_) (n + 1) ⟨0, ρ, σ, ls, Nat.zero_le _, rfl, h0, H⟩
  show wpAny _ A ((compTurn (two elt x px i1 y py i2 scope pos) 0 (.ref it) (.ref D) env).onRaise (fun x => do noteFrame x env; theTreesLotGoes x)) _ _ s
  refine wpAny_noted ?_
  rw [compTurn_two0]
  obtain ⟨i, ρ, σ, kvs, hi, hk', hJ, H⟩ := hI
  have H1 := swap H
  rcases Nat.lt_or_ge i n with hlt | hge
  · refine wpAny_bind (wpAny_standAt (wpAny_bind (S.item H1 (keep _ _ _ _ _ hJ) hlt fun v s' hv H' => ?_)))
    refine wpAny_bind (wpAny_of_eq (rfl : letOwnedTupleGo (.Name x px) (.ref it) _ = pure ()) ?_)
    refine wpAny_bind (wpAny_noE (wpAny_assign_Name (r_cst (swap H') .head (fun s2 H2 => ?_) hL hk hx)))
    have H3 : At prog w K p lo O g L ρ ((C, .nsp [(x, v)]) :: (it, isp (i + 1)) :: σ) s2 := H2.recast .head fun o ⟨m, a, b⟩ => ⟨m, a, fun z u e => b z u (by
      rw [List.lookup_cons] at e ⊢
      cases q : z == x with
      | true => rw [q] at e; exact e
      | false => rw [q] at e; cases e)⟩
    refine wpAny_bind (wpAny_mono (outer i ρ σ s2 v hlt hJ hv H3) (fun xv s4 h4 => ?_) fun _ _ e => e.elim)
    obtain ⟨rfl, H4⟩ := h4
    refine wpAny_bind (wpAny_standAt (wpAny_bind (wpAny_of_eq (hs _) ?_)))
    obtain ⟨n', e⟩ := H4.ints (.tail _ (.tail _ (cell i 0 ρ σ hlt hJ)))
    obtain ⟨n2, e, hi4⟩ := e
    refine wpAny_bind (wpAny_holding (wpAny_pyIter_list (isListOf e) ?_))
    have H5 := H4.pushObj (o := { cls := .type "list_iterator", data := .fields #[.ref (lf i), .int 0 0] }) (tk := s4.toks)
    have H6 : At prog w K p lo O g L ρ ((C, .nsp [(x, v)]) :: (s4.heap.objs.size, listIt (lf i) 0) :: (it, isp (i + 1)) :: σ) _ := swap H5
    have loop := comp2_inner (elt := elt) (i1 := i1) (i2 := i2) (x := x) (y := y) (px := px) (py := py) (pos := pos) (scope := scope) (it2 := s4.heap.objs.size) (C := C) (D := D) (l := lf i) (ns := nf i) (v := v)
      (R := fun r s' => match r with
        | .ok _ => ∃ m, m < k ∧ ∃ i ρ σ kvs, i ≤ n ∧ m = n + 1 - i ∧ J i 0 ρ σ ∧ At prog w K p lo O g L ρ ((C, .nsp kvs) :: (it, isp i) :: σ) s'
        | .error _ => False) hh (fun j ρ' σ' => ∃ σ, σ' = (it, isp (i + 1)) :: σ ∧ J i j ρ' σ) (fun j ρ' σ' ⟨σ, e, hJ⟩ => by rw [e]; exact .tail _ (cell i j ρ' σ hlt hJ))
      (fun j ρ' σ' s t hj ⟨σ, e, hJ⟩ H' => by
        subst e
        refine wpAny_mono (inner _ i j ρ' σ s v t hlt hj hJ hv H') (fun z s4 h4 => ?_) fun _ _ e => e
        refine wpAny_mono h4 (fun _ s5 h5 => ?_) fun _ _ e => e
        obtain ⟨ρ2, σ2, H7, J7⟩ := h5
        exact ⟨ρ2, _, H7, σ2, rfl, J7⟩)
      (fun ρ' σ' s ⟨σ, e, hJ⟩ H' => by
        subst e
        exact ⟨n + 1 - (i + 1), by omega, i + 1, ρ', σ, _, hlt, rfl, next i ρ' σ hlt hJ, H'⟩) H6 ⟨σ, rfl, hJ⟩ hxy hL hk hy
    refine wpAny_bind (wpAny_runOwn (codeAny_mono (codeAny_compStart1 loop (wpAny_noE (self_list (l := lf i) (σ := (C, .nsp [(x, v)]) :: (it, isp (i + 1)) :: σ) H5 loop))) fun r s' hr => ?_))
    cases r with
    | error e => exact hr.elim
    | ok f => exact wpAny_pure ⟨rfl, hr⟩
  · have e : i = n := Nat.le_antisymm hi hge
    subst e
    exact wpAny_bind (wpAny_standAt (wpAny_bind (S.done H1 (keep _ _ _ _ _ hJ) fun s' H' => wpAny_pure (fin ρ σ kvs s' hJ H'))))
end
end Mine
namespace Mine
section
variable {prog : Program} {w : World} {K : Frag} {p : Program} {lo : List Str} {O : OsState} {g h h' : Heap} {L a b d : Addr} {ρ ρ' : Locs} {σ σ' τ : Ledger} {s : Shared} {sp sp' : Sp} {m : Str → Option Value} {o : Obj}
  {A : Around} {E : Value → Shared → Prop} {ns ms : List Int} {as : List Addr} {env : Env} {v : Value} {M : Model} {kvs ka kb : List (Int × Value)} {ep : Nat} {k : Int} {t u : Tok}

theorem r_eq_refs0 {Q : Value → Shared → Prop} (H : At prog w K p lo O g L ρ σ s) (hm : (a, Sp.refs as) ∈ σ) (hm' : (b, Sp.ints []) ∈ σ) (hu : A.units < cLine) (h : Q (.bool (decide (as = []))) s) :
    wpAny (model prog w) A (compareOp .Eq (.ref a) (.ref b)) Q E s := by
  obtain ⟨n, e⟩ := H.refs hm
  obtain ⟨vs, n', e', hi⟩ := H.ints hm'
  cases hi
  cases as with
  | nil => exact SeqAt.RcAt.lists (isListOf e) (isListOf e') rfl hu (e := fun _ => true) (fun j h1 _ => absurd h1 (by simp)) prog w E Q h
  | cons x r => exact SeqAt.RcAt.lists_lengths (isListOf e) (isListOf e') (by simp) hu prog w E Q h

theorem r_dict1 {ke ve : PySem.Expr} {pos : Pos} {Q : Value → Shared → Prop} (H : At prog w K p lo O g L ρ σ s)
    (h : ∀ D s', At prog w K p lo O g L ρ ((D, .idict []) :: σ) s' → wpAny (model prog w) A (eval ke env) (fun kv s₁ => wpAny (model prog w) A (eval ve env) (fun vv s₂ => Hold (∃ k t ρ' σ', kv = .int k t ∧ At prog w K p lo O g L ρ' ((D, .idict []) :: σ') s₂ ∧ ∀ s₃, At prog w K p lo O g L ρ' ((D, .idict [(k, vv)]) :: σ') s₃ → Q (.ref D) s₃)) E s₁) E s') :
    wpAny (model prog w) A (eval (.Dict [some ke] [ve] pos) env) Q E s := by
  obtain ⟨o, ho, hd⟩ := Heap.dictOf_iff.mp (Heap.DictOf.new (knd := PySem.intKind prog w) s.heap)
  rw [Heap.get?_push_size _ rfl] at ho
  cases ho
  have H1 := H.push (tk := s.toks) (sp := .idict []) hd
  refine wpAny_Dict_pairs (knd := PySem.intKind prog w) (pairs := [(eval ke env, do let x ← eval ve env; standAt pos; pure x)]) rfl (by simp) (by simp) ?_
  show wpAny _ A (do let kv ← eval ke env; let vv ← holding [kv] (do let x ← eval ve env; standAt pos; pure x); return (kv, vv) :: (← holding [kv, vv] (evalPairs []))) _ _ _
  refine wpAny_bind (wpAny_mono (h _ _ H1) (fun kv s1 h1 => ?_) fun _ _ e => e)
  refine wpAny_bind (wpAny_holding (wpAny_bind (wpAny_mono h1 (fun vv s2 h2 => ?_) fun _ _ e => e)))
  obtain ⟨k, t, ρ', σ', rfl, H2, hQ⟩ := h2
  refine wpAny_bind (wpAny_standAt (wpAny_pure ?_))
  refine wpAny_bind (wpAny_holding (evalPairs_nil (wpAny_pure ?_)))
  refine ⟨[(k, vv)], ⟨intKind_is prog w k t, rfl, trivial⟩, H2.dict (.head _), fun h' hD hs => ?_⟩
  exact hQ _ (H2.upd (s' := { s2 with heap := h', toks := s2.toks + 1 }) .head hs (let ⟨o, e, k⟩ := Heap.dictOf_iff.mp hD; ⟨o, e, k⟩))

theorem keyhit {Q : Value → Shared → Prop} (H : At prog w K p lo O g L ρ σ s) {x y : Addr} (hm : (a, Sp.idict [(k, .ref x)]) ∈ σ) (hm' : (b, Sp.idict [(k, .ref y)]) ∈ σ) (hx : (x, Sp.ints []) ∈ σ) (hy : (y, Sp.ints []) ∈ σ) (hu : A.units + 100 < cLine) (hu2 : A.in1.units + 64 < cLine)
    (h : Q (.bool true) s) : wpAny (model prog w) A (compareOp .Eq (.ref a) (.ref b)) Q E s := by
  obtain ⟨vs, n, e, hi⟩ := H.ints hx
  obtain ⟨us, n', e', hi'⟩ := H.ints hy
  refine keq_eq (H.low hm) (H.low hm') (H.dict hm) (H.dict hm') (by omega) (r := decide (([] : List Int) = []) && true) (fun _ => .hit (y := .ref y) ?_ (keq_ints (isListOf e) hi (isListOf e') hi' hu2) .nil) h
  simp [valueAt]
end
end Mine
namespace Mine
section
variable {prog : Program} {w : World} {K : Frag} {p : Program} {lo : List Str} {O : OsState} {g h h' : Heap} {L a b d : Addr} {ρ ρ' : Locs} {σ σ' τ : Ledger} {s : Shared} {sp sp' : Sp} {m : Str → Option Value} {o : Obj}
  {A : Around} {E : Value → Shared → Prop} {ns ms : List Int} {as : List Addr} {env : Env} {v : Value} {M : Model} {kvs ka kb : List (Int × Value)} {ep : Nat} {k : Int} {t u : Tok}

theorem comp2_keys {elt i1 i2 : PySem.Expr} {x y : Str} {px py pos : Pos} {scope : Scope} {cl : List (Str × Addr)} {RR : Value → Addr → Result → Shared → Prop}
    (H : At prog w K p lo O g L ρ σ s) (hm : (d, Mine.dictE prog w kvs ep) ∈ σ) (hh : A.handled = none) (J : Addr → Nat → Nat → Locs → Ledger → Prop) (lf : Nat → Addr) (nf : Nat → List Int)
    (h0 : ∀ D, J D 0 0 ρ ((D, .refs []) :: σ)) (keep : ∀ D i j ρ σ, J D i j ρ σ → (d, Mine.dictE prog w kvs ep) ∈ σ)
    (cell : ∀ D i j ρ σ, i < kvs.length → J D i j ρ σ → (lf i, Sp.ints (nf i)) ∈ σ) (next : ∀ D i ρ σ, i < kvs.length → J D i (nf i).length ρ σ → J D (i + 1) 0 ρ σ)
    (outer : ∀ it C D i ρ σ s t, (hi : i < kvs.length) → J D i 0 ρ σ → At prog w K p lo O g L ρ ((C, .nsp [(x, .int kvs[i].1 t)]) :: (it, keyIt d kvs.length ep (i + 1)) :: σ) s →
      wpAny (model prog w) A (eval i2 (compEnvC scope cl C env)) (fun xv s₂ => Hold (xv = .ref (lf i) ∧ At prog w K p lo O g L ρ ((C, .nsp [(x, .int kvs[i].1 t)]) :: (it, keyIt d kvs.length ep (i + 1)) :: σ) s₂)) (fun _ _ => False) s)
    (inner : ∀ it it2 C D i j ρ σ s t0 t, (hi : i < kvs.length) → (hj : j < (nf i).length) → J D i j ρ σ → At prog w K p lo O g L ρ ((C, .nsp [(y, .int (nf i)[j] t), (x, .int kvs[i].1 t0)]) :: (it2, listIt (lf i) (j + 1)) :: (it, keyIt d kvs.length ep (i + 1)) :: σ) s →
      wpAny (model prog w) A (eval elt (compEnvC scope cl C env)) (fun z s₄ => wpAny (model prog w) A (call (.builtin "list.append") [.ref D, z]) (fun _ s₅ => Hold (∃ ρ' σ', At prog w K p lo O g L ρ' ((C, .nsp [(y, .int (nf i)[j] t), (x, .int kvs[i].1 t0)]) :: (it2, listIt (lf i) (j + 1)) :: (it, keyIt d kvs.length ep (i + 1)) :: σ') s₅ ∧ J D i (j + 1) ρ' σ')) (fun _ _ => False) s₄) (fun _ _ => False) s)
    (fin : ∀ C D ρ σ ls s, J D kvs.length 0 ρ σ → At prog w K p lo O g L ρ ((C, .nsp ls) :: σ) s → RR (.ref D) C (.ok .next) s)
    (hcell : ∀ y ∈ scope.names, y.2 ≠ .cell := by decide) (hkind : scope.kind = .function := by rfl) (hx : scope.names.lookup x = some .local := by rfl) (hy : scope.names.lookup y = some .local := by rfl) (hxy : x ≠ y := by decide)
    (hs : ∀ C x, foldedSetIterable i2 (compEnvC scope cl C env) x = pure x := by intro _ _; rfl) :
    wpAny (model prog w) A (pyIter (.ref d)) (fun it s₂ => wpAny (model prog w) A (newList []) (fun acc s₃ => wpAny (model prog w) A (newFunctionEnv scope env.globals cl [] env.qual none .none (some env)) (fun cenv s₄ =>
      codeAny (model prog w) A (.compStart (two elt x px i1 y py i2 scope pos) 0 it acc { cenv with scope := relabel scope env }) (RR acc cenv.locals) s₄) E s₃) E s₂) E s := by
  refine iter_keys H hm fun it s0 H0 => ?_
  refine r_newList_ints H0 .nil (by decide) fun D s1 H1 => ?_
  have H1' := H1.recast (sp' := .refs []) .head nil_refs
  refine wpAny_newFunctionEnv hcell (by intro y hy; simp at hy) (fun h₁ hns₁ hsb₁ => ?_) hkind
  have up : ∀ b o, s1.heap.get? b = some o → h₁.get? b = some o := fun b o e => hsb₁.extBut b o (Nat.ne_of_lt (Heap.lt_size e)) (Heap.get?_push_of_some _ e)
  obtain ⟨oC, eC, kC⟩ := LCg.ns_obj hns₁
  have H2 := H1'.alloc (s' := { s1 with heap := h₁, toks := s1.toks + ([] : List (Str × Value)).length }) (sp := .nsp []) up (Nat.le_refl _) ⟨oC, eC, _, kC, fun _ _ e => by cases e⟩
  have H3 := H2.sub (σ' := (s1.heap.objs.size, .nsp []) :: (it, keyIt d kvs.length ep 0) :: (D, .refs []) :: σ) fun x => by
    simp only [List.count_cons]; omega
  have loop := comp2_outer (elt := elt) (i1 := i1) (i2 := i2) (x := x) (y := y) (px := px) (py := py) (scope := scope) (pos := pos) (env := compEnvC scope cl s1.heap.objs.size env) (D := D) (R := RR (.ref D) s1.heap.objs.size) (src_keys hh) hh (J D) lf nf
    (fun i j ρ σ q hJ => .tail _ (keep D i j ρ σ hJ)) (cell D) (next D)
    (fun i ρ σ s v hi hJ hv H' => by obtain ⟨t, h1, rfl⟩ := hv; exact outer it s1.heap.objs.size D i ρ σ s t h1 hJ H')
    (fun it2 i j ρ σ s v t hi hj hJ hv H' => by obtain ⟨t0, h1, rfl⟩ := hv; exact inner it it2 s1.heap.objs.size D i j ρ σ s t0 t h1 hj hJ H')
    (fin s1.heap.objs.size D) H3 (h0 D) hxy rfl (by simp [compEnvC, relabel, hkind]) (lookup_relabel_local hx) (lookup_relabel_local hy) (hs _)
  refine codeAny_compStart_list loop (wpAny_noE (self_keys (it := it) (d := d) (n := kvs.length) (ep := ep) (i := 0) (ρ := ρ) (σ := (s1.heap.objs.size, .nsp []) :: (D, .refs []) :: σ) (H2.sub fun x => by simp only [List.count_cons]; omega) loop))
end

/-- a key set once or more -/
def ins (ks : List Int) (k : Int) : List Int := if k ∈ ks then ks else ks ++ [k]
end Mine
namespace Mine

abbrev CS := List (Int × Addr × List Int)
def tt (ks : List Int) : List (Int × Value) := ks.map fun n => (n, Value.bool true)
def cd (cs : CS) : List (Int × Value) := cs.map fun q => (q.1, Value.ref q.2.1)
def keys (cs : CS) : List Int := cs.map (·.1)
def cellsL (cs : CS) : Ledger := cs.map fun q => (q.2.1, Sp.ints q.2.2)
def rowsL (R : List (Addr × List Int)) : Ledger := R.map fun q => (q.1, Sp.ints q.2)

theorem mem_cellsL {cs : CS} {q : Int × Addr × List Int} (h : q ∈ cs) : (q.2.1, Sp.ints q.2.2) ∈ cellsL cs := List.mem_map_of_mem (f := fun q : Int × Addr × List Int => (q.2.1, Sp.ints q.2.2)) h
theorem mem_rowsL {R : List (Addr × List Int)} {q : Addr × List Int} (h : q ∈ R) : (q.1, Sp.ints q.2) ∈ rowsL R := List.mem_map_of_mem (f := fun q : Addr × List Int => (q.1, Sp.ints q.2)) h

theorem valueAt_tt (ks : List Int) (k : Int) : (valueAt (tt ks) k).isSome = decide (k ∈ ks) := by
  induction ks with
  | nil => rfl
  | cons a r ih =>
    unfold valueAt tt at ih ⊢
    rw [List.map_cons, List.find?_cons]
    by_cases h : a = k
    · subst h; simp
    · have h' : ¬ k = a := fun e => h e.symm
      simp only [decide_eq_false h, List.mem_cons, h', false_or]
      exact ih
theorem stored_tt {ks : List Int} {k : Int} (h : k ∉ ks) : stored (tt ks) k (.bool true) = tt (ks ++ [k]) := by
  unfold stored
  rw [if_neg]
  · simp [tt]
  · simp only [tt, List.any_map, List.any_eq_true]
    rintro ⟨x, hx, e⟩
    have : x = k := by simpa using e
    exact h (this ▸ hx)
theorem stored_tt' {ks : List Int} {k : Int} (h : k ∈ ks) : stored (tt ks) k (.bool true) = tt ks := by
  unfold stored
  rw [if_pos]
  · unfold tt
    rw [List.map_map]
    apply List.map_congr_left
    intro x _
    simp only [Function.comp]
    split <;> rfl
  · simp only [tt, List.any_map, List.any_eq_true]
    exact ⟨k, h, by simp⟩

theorem keys_cd (cs : CS) : (cd cs).map (·.1) = keys cs := by unfold cd keys; rw [List.map_map]; rfl
theorem keys_tt (ks : List Int) : (tt ks).map (·.1) = ks := by
  unfold tt; rw [List.map_map]
  exact List.map_id' ks
theorem length_tt (ks : List Int) : (tt ks).length = ks.length := by simp [tt]
theorem length_cd (cs : CS) : (cd cs).length = cs.length := by simp [cd]
theorem length_keys (cs : CS) : (keys cs).length = cs.length := by simp [keys]

theorem valueAt_cd : ∀ {cs : CS} {q : Int × Addr × List Int}, (keys cs).Nodup → q ∈ cs → valueAt (cd cs) q.1 = some (.ref q.2.1)
  | x :: r, q, nd, h => by
    unfold keys at nd
    rw [List.map_cons, List.nodup_cons] at nd
    unfold valueAt cd
    rw [List.map_cons, List.find?_cons]
    cases h with
    | head => simp
    | tail _ h =>
      have hne : ¬ x.1 = q.1 := fun e => nd.1 (e ▸ List.mem_map_of_mem (f := (·.1)) h)
      simp only [decide_eq_false hne]
      exact valueAt_cd (cs := r) nd.2 h
theorem valueAt_cd_isSome (cs : CS) (k : Int) : (valueAt (cd cs) k).isSome = decide (k ∈ keys cs) := by
  induction cs with
  | nil => rfl
  | cons a r ih =>
    unfold valueAt cd keys at *
    rw [List.map_cons, List.find?_cons, List.map_cons]
    by_cases h : a.1 = k
    · subst h; simp
    · have h' : ¬ k = a.1 := fun e => h e.symm
      simp only [decide_eq_false h, List.mem_cons, h', false_or]
      exact ih
theorem key_cell {cs : CS} {k : Int} (h : k ∈ keys cs) : ∃ q ∈ cs, q.1 = k := by
  obtain ⟨q, hq, e⟩ := List.mem_map.mp h; exact ⟨q, hq, e⟩
theorem mem_keys {cs : CS} {q : Int × Addr × List Int} (h : q ∈ cs) : q.1 ∈ keys cs := List.mem_map_of_mem (f := (·.1)) h

/-- what is still to be laid on the pile -/
def wsum (cs : CS) (ks : List Int) : Nat := (cs.map fun q => if q.1 ∈ ks then 0 else q.2.2.length).sum
theorem wsum_none {cs : CS} {ks : List Int} {k : Int} (h : k ∉ keys cs) : wsum cs (ks ++ [k]) = wsum cs ks := by
  induction cs with
  | nil => rfl
  | cons x r ih =>
    unfold keys at h
    rw [List.map_cons, List.mem_cons, not_or] at h
    have ih' := ih h.2
    unfold wsum at ih' ⊢
    rw [List.map_cons, List.map_cons, List.sum_cons, List.sum_cons, ih']
    have h1 : ¬ x.1 = k := fun e => h.1 e.symm
    simp [h1]
theorem wsum_add : ∀ {cs : CS} {ks : List Int} {q : Int × Addr × List Int}, (keys cs).Nodup → q ∈ cs → q.1 ∉ ks → wsum cs (ks ++ [q.1]) + q.2.2.length = wsum cs ks
  | x :: r, ks, q, nd, h, hk => by
    unfold keys at nd
    rw [List.map_cons, List.nodup_cons] at nd
    cases h with
    | head =>
      have e := wsum_none (cs := r) (ks := ks) (k := x.1) nd.1
      unfold wsum at e ⊢
      rw [List.map_cons, List.map_cons, List.sum_cons, List.sum_cons, e]
      simp [hk]; omega
    | tail _ h =>
      have hne : ¬ x.1 = q.1 := fun e => nd.1 (e ▸ List.mem_map_of_mem (f := (·.1)) h)
      have ih := wsum_add (cs := r) (ks := ks) nd.2 h hk
      unfold wsum at ih ⊢
      rw [List.map_cons, List.map_cons, List.sum_cons, List.sum_cons, ← ih]
      simp [hne]; omega
def total (cs : CS) : Nat := (cs.map fun q => q.2.2.length).sum
theorem wsum_nil (cs : CS) : wsum cs [] = total cs := by
  unfold wsum total
  simp

structure ReachC (cs : CS) (starts ks : List Int) : Prop where
  nd : ks.Nodup
  sub : ∀ x ∈ ks, x ∈ keys cs
  start : ∀ x ∈ starts, x ∈ ks
  closed : ∀ q ∈ cs, q.1 ∈ ks → ∀ p ∈ q.2.2, p ∈ ks
  least : ∀ S : Int → Prop, (∀ x ∈ starts, S x) → (∀ q ∈ cs, S q.1 → ∀ p ∈ q.2.2, S p) → ∀ x ∈ ks, S x

theorem cell_uniq : ∀ {cs : CS} {q r : Int × Addr × List Int}, (keys cs).Nodup → q ∈ cs → r ∈ cs → q.1 = r.1 → q = r
  | z :: l, q, r, nd, hq, hr, e => by
    unfold keys at nd
    rw [List.map_cons, List.nodup_cons] at nd
    cases hq with
    | head => cases hr with
      | head => rfl
      | tail _ h2 => exact absurd (List.mem_map_of_mem (f := (·.1)) h2) (by rw [← e]; exact nd.1)
    | tail _ h1 => cases hr with
      | head => exact absurd (List.mem_map_of_mem (f := (·.1)) h1) (by rw [e]; exact nd.1)
      | tail _ h2 => exact cell_uniq (cs := l) nd.2 h1 h2 e

structure PileC (cs : CS) (starts ks pend : List Int) (n : Nat) : Prop where
  nd : ks.Nodup
  sub : ∀ x ∈ ks, x ∈ keys cs
  psub : ∀ x ∈ pend, x ∈ keys cs
  start : ∀ x ∈ starts, x ∈ ks ∨ x ∈ pend
  closed : ∀ q ∈ cs, q.1 ∈ ks → ∀ p ∈ q.2.2, p ∈ ks ∨ p ∈ pend
  least : ∀ S : Int → Prop, (∀ x ∈ starts, S x) → (∀ q ∈ cs, S q.1 → ∀ p ∈ q.2.2, S p) → (∀ x ∈ ks, S x) ∧ ∀ x ∈ pend, S x
  size : n = pend.length + wsum cs ks

theorem PileC.init {cs : CS} {starts : List Int} (h : ∀ x ∈ starts, x ∈ keys cs) : PileC cs starts [] starts (starts.length + total cs) :=
  ⟨.nil, (fun _ h => nomatch h), h, (fun _ h => .inr h), (fun _ _ h => nomatch h), (fun S h1 _ => ⟨(fun _ h => nomatch h), h1⟩), by rw [wsum_nil]⟩
theorem PileC.done {cs : CS} {starts ks : List Int} {n : Nat} (P : PileC cs starts ks [] n) : ReachC cs starts ks :=
  ⟨P.nd, P.sub, (fun x h => (P.start x h).resolve_right (fun h => nomatch h)), (fun q h1 h2 p h3 => (P.closed q h1 h2 p h3).resolve_right (fun h => nomatch h)), fun S h1 h2 => (P.least S h1 h2).1⟩
theorem PileC.skip {cs : CS} {starts ks pend : List Int} {k : Int} {n : Nat} (P : PileC cs starts ks (pend ++ [k]) n) (h : k ∈ ks) : PileC cs starts ks pend (n - 1) ∧ n - 1 < n := by
  have hs := P.size
  rw [List.length_append, List.length_singleton] at hs
  refine ⟨⟨P.nd, P.sub, fun x hx => P.psub x (List.mem_append_left _ hx), fun x hx => ?_, fun q h1 h2 p h3 => ?_, fun S h1 h2 => ⟨(P.least S h1 h2).1, fun x hx => (P.least S h1 h2).2 x (List.mem_append_left _ hx)⟩, by omega⟩, by omega⟩
  · rcases P.start x hx with h1 | h1
    · exact .inl h1
    · rcases List.mem_append.mp h1 with h1 | h1
      · exact .inr h1
      · rw [List.mem_singleton.mp h1]; exact .inl h
  · rcases P.closed q h1 h2 p h3 with h1 | h1
    · exact .inl h1
    · rcases List.mem_append.mp h1 with h1 | h1
      · exact .inr h1
      · rw [List.mem_singleton.mp h1]; exact .inl h
theorem PileC.take {cs : CS} {starts ks pend : List Int} {q : Int × Addr × List Int} {n : Nat} (ndk : (keys cs).Nodup) (hcl : ∀ q ∈ cs, ∀ p ∈ q.2.2, p ∈ keys cs) (P : PileC cs starts ks (pend ++ [q.1]) n) (hq : q ∈ cs) (h : q.1 ∉ ks) :
    PileC cs starts (ks ++ [q.1]) (pend ++ q.2.2) (n - 1) ∧ n - 1 < n := by
  have hs := P.size
  rw [List.length_append, List.length_singleton] at hs
  have hw := wsum_add ndk hq h
  have uniq := fun q' h1 e => cell_uniq ndk (q := q') (r := q) h1 hq e
  refine ⟨⟨?_, ?_, ?_, ?_, ?_, ?_, ?_⟩, by omega⟩
  · rw [List.nodup_append]
    exact ⟨P.nd, by simp, fun a ha b hb e => h (by rw [List.mem_singleton.mp hb] at e; exact e ▸ ha)⟩
  · intro x hx
    rcases List.mem_append.mp hx with hx | hx
    · exact P.sub x hx
    · rw [List.mem_singleton.mp hx]; exact mem_keys hq
  · intro x hx
    rcases List.mem_append.mp hx with hx | hx
    · exact P.psub x (List.mem_append_left _ hx)
    · exact hcl q hq x hx
  · intro x hx
    rcases P.start x hx with h1 | h1
    · exact .inl (List.mem_append_left _ h1)
    · rcases List.mem_append.mp h1 with h1 | h1
      · exact .inr (List.mem_append_left _ h1)
      · exact .inl (List.mem_append_right _ h1)
  · intro q' h1 h2 p hp
    rcases List.mem_append.mp h2 with h2 | h2
    · rcases P.closed q' h1 h2 p hp with h3 | h3
      · exact .inl (List.mem_append_left _ h3)
      · rcases List.mem_append.mp h3 with h3 | h3
        · exact .inr (List.mem_append_left _ h3)
        · exact .inl (List.mem_append_right _ h3)
    · rw [uniq q' h1 (List.mem_singleton.mp h2)] at hp
      exact .inr (List.mem_append_right _ hp)
  · intro S h1 h2
    obtain ⟨a1, a2⟩ := P.least S h1 h2
    have a3 : S q.1 := a2 _ (List.mem_append_right _ (List.mem_singleton.mpr rfl))
    refine ⟨fun x hx => ?_, fun x hx => ?_⟩
    · rcases List.mem_append.mp hx with hx | hx
      · exact a1 x hx
      · rw [List.mem_singleton.mp hx]; exact a3
    · rcases List.mem_append.mp hx with hx | hx
      · exact a2 x (List.mem_append_left _ hx)
      · exact h2 q hq a3 x hx
  · rw [List.length_append]; omega
end Mine
namespace Mine
theorem nodup_len {α : Type} [DecidableEq α] : ∀ {l m : List α}, l.Nodup → (∀ x ∈ l, x ∈ m) → l.length ≤ m.length
  | [], _, _, _ => Nat.zero_le _
  | x :: l, m, nd, h => by
    rw [List.nodup_cons] at nd
    have h1 : x ∈ m := h x (.head _)
    have h2 := nodup_len (l := l) (m := m.erase x) nd.2 fun y hy => by
      have hne : y ≠ x := fun e => nd.1 (e ▸ hy)
      exact (List.mem_erase_of_ne hne).mpr (h y (.tail _ hy))
    rw [List.length_erase_of_mem h1] at h2
    have : 0 < m.length := List.length_pos_of_mem h1
    rw [List.length_cons]; omega
end Mine
namespace Mine
structure ReachY (cs : CS) (ys starts ks : List Int) : Prop where
  nd : ks.Nodup
  sub : ∀ x ∈ ks, x ∈ ys
  start : ∀ x ∈ starts, x ∈ ys → x ∈ ks
  closed : ∀ q ∈ cs, q.1 ∈ ks → ∀ p ∈ q.2.2, p ∈ ys → p ∈ ks

structure PileY (cs : CS) (ys starts ks pend : List Int) (n : Nat) : Prop where
  nd : ks.Nodup
  sub : ∀ x ∈ ks, x ∈ ys
  start : ∀ x ∈ starts, x ∈ ys → x ∈ ks ∨ x ∈ pend
  closed : ∀ q ∈ cs, q.1 ∈ ks → ∀ p ∈ q.2.2, p ∈ ys → p ∈ ks ∨ p ∈ pend
  size : n = pend.length + wsum cs ks

theorem PileY.init {cs : CS} {ys starts : List Int} : PileY cs ys starts [] starts (starts.length + total cs) :=
  ⟨.nil, (fun _ h => nomatch h), (fun _ h _ => .inr h), (fun _ _ h => nomatch h), by rw [wsum_nil]⟩
theorem PileY.done {cs : CS} {ys starts ks : List Int} {n : Nat} (P : PileY cs ys starts ks [] n) : ReachY cs ys starts ks :=
  ⟨P.nd, P.sub, (fun x h hy => (P.start x h hy).resolve_right (fun h => nomatch h)), (fun q h1 h2 p h3 hy => (P.closed q h1 h2 p h3 hy).resolve_right (fun h => nomatch h))⟩
theorem PileY.skip {cs : CS} {ys starts ks pend : List Int} {k : Int} {n : Nat} (P : PileY cs ys starts ks (pend ++ [k]) n) (h : k ∈ ys → k ∈ ks) : PileY cs ys starts ks pend (n - 1) ∧ n - 1 < n := by
  have hs := P.size
  rw [List.length_append, List.length_singleton] at hs
  refine ⟨⟨P.nd, P.sub, fun x hx hy => ?_, fun q h1 h2 p h3 hy => ?_, by omega⟩, by omega⟩
  · rcases P.start x hx hy with h1 | h1
    · exact .inl h1
    · rcases List.mem_append.mp h1 with h1 | h1
      · exact .inr h1
      · rw [List.mem_singleton.mp h1] at hy ⊢; exact .inl (h hy)
  · rcases P.closed q h1 h2 p h3 hy with h1 | h1
    · exact .inl h1
    · rcases List.mem_append.mp h1 with h1 | h1
      · exact .inr h1
      · rw [List.mem_singleton.mp h1] at hy ⊢; exact .inl (h hy)
theorem PileY.take {cs : CS} {ys starts ks pend : List Int} {q : Int × Addr × List Int} {n : Nat} (ndk : (keys cs).Nodup) (P : PileY cs ys starts ks (pend ++ [q.1]) n) (hq : q ∈ cs) (h : q.1 ∉ ks) (hy : q.1 ∈ ys) :
    PileY cs ys starts (ks ++ [q.1]) (pend ++ q.2.2) (n - 1) ∧ n - 1 < n := by
  have hs := P.size
  rw [List.length_append, List.length_singleton] at hs
  have hw := wsum_add ndk hq h
  have uniq := fun q' h1 e => cell_uniq ndk (q := q') (r := q) h1 hq e
  refine ⟨⟨?_, ?_, ?_, ?_, ?_⟩, by omega⟩
  · rw [List.nodup_append]
    exact ⟨P.nd, by simp, fun a ha b hb e => h (by rw [List.mem_singleton.mp hb] at e; exact e ▸ ha)⟩
  · intro x hx
    rcases List.mem_append.mp hx with hx | hx
    · exact P.sub x hx
    · rw [List.mem_singleton.mp hx]; exact hy
  · intro x hx hxy
    rcases P.start x hx hxy with h1 | h1
    · exact .inl (List.mem_append_left _ h1)
    · rcases List.mem_append.mp h1 with h1 | h1
      · exact .inr (List.mem_append_left _ h1)
      · exact .inl (List.mem_append_right _ h1)
  · intro q' h1 h2 p hp hpy
    rcases List.mem_append.mp h2 with h2 | h2
    · rcases P.closed q' h1 h2 p hp hpy with h3 | h3
      · exact .inl (List.mem_append_left _ h3)
      · rcases List.mem_append.mp h3 with h3 | h3
        · exact .inr (List.mem_append_left _ h3)
        · exact .inl (List.mem_append_right _ h3)
    · rw [uniq q' h1 (List.mem_singleton.mp h2)] at hp
      exact .inr (List.mem_append_right _ hp)
  · rw [List.length_append]; omega
end Mine
namespace Mine

structure AR where
  d : Addr
  c : Addr
  y : Addr
  r : Addr
  ro : Addr
  young : Int
  old : Int
  next : Int
  mino : Int
  full : Int
  t1 : Tok
  t2 : Tok
  t3 : Tok
  t4 : Tok
  t5 : Tok
  cs : CS
  ys : List Int
  rs : List Int
  rows : List (Addr × List Int)

abbrev AR.attrs (X : AR) : List (Str × Value) := [("young", .int X.young X.t1), ("old", .int X.old X.t2), ("cells", .ref X.c), ("is_young", .ref X.y), ("remembered", .ref X.r), ("roots", .ref X.ro), ("next_number", .int X.next X.t3), ("minor_count", .int X.mino X.t4), ("full_count", .int X.full X.t5)]
abbrev arT (a : Addr) (X : AR) (τ : Ledger) : Ledger := (a, .inst 126 X.d) :: (X.d, .attrs X.attrs) :: (X.c, .idict (cd X.cs)) :: (X.y, .idict (tt X.ys)) :: (X.r, .idict (tt X.rs)) :: (X.ro, .refs (X.rows.map (·.1))) :: τ
abbrev arL (a : Addr) (X : AR) (τ : Ledger) : Ledger := arT a X (rowsL X.rows ++ (cellsL X.cs ++ τ))

structure Inv (X : AR) : Prop where
  ysub : ∀ x ∈ X.ys, x ∈ keys X.cs
  rsub : ∀ x ∈ X.rs, x ∈ keys X.cs ∧ x ∉ X.ys
  clo : ∀ q ∈ X.cs, ∀ p ∈ q.2.2, p ∈ keys X.cs
  bar : ∀ q ∈ X.cs, q.1 ∉ X.ys → q.1 ∉ X.rs → ∀ p ∈ q.2.2, p ∉ X.ys
  nxt : ∀ x ∈ keys X.cs, x < X.next
  root : ∀ r ∈ X.rows, ∀ x ∈ r.2, x ∈ keys X.cs
  z1 : X.cs.length < 60
  z2 : ∀ q ∈ X.cs, q.2.2.length ≤ 1000
  z3 : X.rows.length < 1000
  z4 : ∀ r ∈ X.rows, r.2.length ≤ 1000

theorem sum_le {l : List Nat} {b : Nat} (h : ∀ x ∈ l, x ≤ b) : l.sum ≤ l.length * b := by
  induction l with
  | nil => simp
  | cons x r ih =>
    have h1 := h x (.head _)
    have h2 := ih fun y hy => h y (.tail _ hy)
    rw [List.sum_cons, List.length_cons, Nat.succ_mul]; omega
theorem total_le {cs : CS} (h : ∀ q ∈ cs, q.2.2.length ≤ 1000) (hz : cs.length < 60) : total cs ≤ 60000 := by
  have := sum_le (l := cs.map fun q => q.2.2.length) (b := 1000) (by intro x hx; obtain ⟨q, hq, rfl⟩ := List.mem_map.mp hx; exact h q hq)
  rw [List.length_map] at this
  unfold total; omega
theorem flat_le {R : List (Addr × List Int)} (h : ∀ r ∈ R, r.2.length ≤ 1000) (hz : R.length < 1000) : (R.flatMap (·.2)).length ≤ 1000000 := by
  have := sum_le (l := R.map fun q => q.2.length) (b := 1000) (by intro x hx; obtain ⟨q, hq, rfl⟩ := List.mem_map.mp hx; exact h q hq)
  rw [List.length_map] at this
  rw [List.length_flatMap]
  omega
theorem mem_flat {R : List (Addr × List Int)} {x : Int} : x ∈ R.flatMap (·.2) ↔ ∃ r ∈ R, x ∈ r.2 := List.mem_flatMap

theorem without_cd (cs : CS) (k : Int) : without (cd cs) k = cd (cs.filter fun q => decide (q.1 ≠ k)) := by
  unfold without cd
  rw [List.filter_map]
  rfl
theorem cellsL_filter (f : (Int × Addr × List Int) → Bool) (cs : CS) : Sub (cellsL (cs.filter f)) (cellsL cs) := fun x => by
  letI : DecidableEq (Addr × Sp) := Classical.typeDecidableEq _
  exact List.Sublist.count_le x ((List.filter_sublist).map _)
theorem keys_filter {f : (Int × Addr × List Int) → Bool} {cs : CS} {k : Int} (h : k ∈ keys (cs.filter f)) : k ∈ keys cs := by
  obtain ⟨q, hq, rfl⟩ := key_cell h
  exact mem_keys (List.mem_filter.mp hq).1

structure FullTo (X X' : AR) (ks : List Int) : Prop where
  rows : X'.rows = X.rows
  young : X'.young = X.young
  old : X'.old = X.old
  next : X'.next = X.next
  ys : X'.ys = []
  rs : X'.rs = []
  cs : X'.cs = X.cs.filter fun q => decide (q.1 ∈ ks)
  reach : ReachC X.cs (X.rows.flatMap (·.2)) ks

structure MinorTo (X X' : AR) (ks : List Int) : Prop where
  rows : X'.rows = X.rows
  young : X'.young = X.young
  old : X'.old = X.old
  next : X'.next = X.next
  ys : X'.ys = []
  rs : X'.rs = []
  cs : X'.cs = X.cs.filter fun q => decide (q.1 ∈ ks) || decide (q.1 ∉ X.ys)
  root : ∀ r ∈ X.rows, ∀ x ∈ r.2, x ∈ X.ys → x ∈ ks
  rem : ∀ q ∈ X.cs, q.1 ∈ X.rs → ∀ p ∈ q.2.2, p ∈ X.ys → p ∈ ks
  closed : ∀ q ∈ X.cs, q.1 ∈ ks → ∀ p ∈ q.2.2, p ∈ X.ys → p ∈ ks
  sub : ∀ x ∈ ks, x ∈ X.ys
end Mine
namespace Mine
def cut (cs : CS) (ks dn : List Int) : CS := cs.filter fun q => decide (q.1 ∈ ks) || decide (q.1 ∉ dn)
theorem cut_nil (cs : CS) (ks : List Int) : cut cs ks [] = cs := by
  unfold cut; apply List.filter_eq_self.mpr; intro q _; simp
theorem cut_in {cs : CS} {ks dn : List Int} {k : Int} (h : k ∈ ks) : cut cs ks (dn ++ [k]) = cut cs ks dn := by
  unfold cut; apply List.filter_congr; intro q _
  by_cases e : q.1 = k
  · rw [e]; simp [h]
  · simp [e]
theorem cut_out {cs : CS} {ks dn : List Int} {k : Int} (h : k ∉ ks) : (cut cs ks dn).filter (fun q => decide (q.1 ≠ k)) = cut cs ks (dn ++ [k]) := by
  unfold cut; rw [List.filter_filter]; apply List.filter_congr; intro q _
  by_cases e : q.1 = k
  · rw [e]; simp [h]
  · simp [e]
theorem cut_mem {cs : CS} {ks dn : List Int} {k : Int} (h : k ∈ keys cs) (h2 : k ∉ dn) : (valueAt (cd (cut cs ks dn)) k).isSome = true := by
  rw [valueAt_cd_isSome]
  obtain ⟨q, hq, rfl⟩ := key_cell h
  exact decide_eq_true (mem_keys (List.mem_filter.mpr ⟨hq, by simp [h2]⟩))
theorem cut_all {cs : CS} {ks dn : List Int} (h : ∀ x ∈ keys cs, x ∈ dn) : cut cs ks dn = cs.filter fun q => decide (q.1 ∈ ks) := by
  unfold cut; apply List.filter_congr; intro q hq
  simp [h _ (mem_keys hq)]
theorem cut_perm {cs : CS} {ks dn ys : List Int} (h : ∀ x, x ∈ dn ↔ x ∈ ys) : cut cs ks dn = cs.filter fun q => decide (q.1 ∈ ks) || decide (q.1 ∉ ys) := by
  unfold cut; apply List.filter_congr; intro q hq
  simp [h]
theorem cut_len (cs : CS) (ks dn : List Int) : (cut cs ks dn).length ≤ cs.length := List.length_filter_le _ _
theorem not_mem_take {l : List Int} (nd : l.Nodup) {i : Nat} (h : i < l.length) : l[i] ∉ l.take i := by
  intro hm
  have e : l = l.take i ++ l.drop i := (List.take_append_drop i l).symm
  have e2 : l.drop i = l[i] :: l.drop (i + 1) := List.drop_eq_getElem_cons h
  rw [e, e2, List.nodup_append] at nd
  exact nd.2.2 _ hm _ (List.mem_cons_self ..) rfl
end Mine
namespace Mine
section
variable {prog : Program} {w : World} {K : Frag} {p : Program} {lo : List Str} {O : OsState} {g h h' : Heap} {L a b d : Addr} {ρ ρ' : Locs} {σ σ' τ : Ledger} {s : Shared}
  {A : Around} {E : Value → Shared → Prop} {ka kb : List (Int × Value)}
theorem r_eq_refs0' {as : List Addr} {Q : Value → Shared → Prop} (H : At prog w K p lo O g L ρ σ s) (hm : (a, Sp.refs as) ∈ σ) (hm' : (b, Sp.ints []) ∈ σ) (hu : A.units + 64 < cLine) (h : Q (.bool (decide (as = []))) s) :
    wpAny (model prog w) A (compareOp .Eq (.ref a) (.ref b)) Q E s := r_eq_refs0 H hm hm' (Nat.lt_of_le_of_lt (Nat.le_add_right _ _) hu) h
theorem r_ne_dict0e {Q : Value → Shared → Prop} (H : At prog w K p lo O g L ρ σ s) (hm : (a, Sp.idict ka) ∈ σ) (hm' : (b, Sp.idict []) ∈ σ) (h0 : ka = []) (hu : A.units + 64 < cLine) (h : Q (.bool false) s) :
    wpAny (model prog w) A (compareOp .NotEq (.ref a) (.ref b)) Q E s := by
  subst h0; exact r_ne_dict0 H hm hm' hu h
theorem r_item_last {prog : Program} {K : Frag} {p : Program} {lo : List Str} {E : Value → Shared → Prop} {value slice : PySem.Expr} {l : Addr} {ns : List Int} {z i : Int} {u : Tok} {Q : Value → Shared → Prop} (e1 : i = -1) (H : At prog w K p lo O g L ρ σ s) (hm : (l, Sp.ints (ns ++ [z])) ∈ σ) (h : ∀ t, Q (.int z t) s)
    (hs : subscripted slice false (.ref l) (.int i u) = operate [.ref l, .int i u] (getItem (.ref l) (.int i u)) := by with_unfolding_all rfl) (hg : ∀ r, letTemporaryGo value (.ref l) r = pure () := by intro _; with_unfolding_all rfl) :
    wpAny (model prog w) A (subscriptTail value slice (.ref l) (.int i u)) Q E s := by
  subst e1
  obtain ⟨vs, n, e, hi⟩ := H.ints hm
  have hl : (ns ++ [z]).length = ns.length + 1 := by simp
  refine item_list_ints_neg (isListOf e) hi (by decide) (by rw [hl]; omega) (by decide) (fun t => ?_) hs hg
  have e2 : ((-1 : Int) + ((ns ++ [z]).length : Int)).toNat = ns.length := by rw [hl]; omega
  rw [e2]
  have : (ns ++ [z]).getD ns.length 0 = z := by simp
  rw [this]; exact h t
end
/-- fewer cells in a ledger -/
theorem count_map_le {α : Type} [BEq α] [LawfulBEq α] (f : (Int × Addr × List Int) → α) (x : α) : ∀ {B' B : CS}, B'.Nodup → (∀ q ∈ B', q ∈ B) → List.count x (B'.map f) ≤ List.count x (B.map f)
  | [], B, _, _ => Nat.zero_le _
  | q :: B', B, nd, h => by
    letI : DecidableEq (Int × Addr × List Int) := Classical.typeDecidableEq _
    rw [List.nodup_cons] at nd
    have h1 : q ∈ B := h q (.head _)
    have hp := (List.perm_cons_erase h1).map f
    rw [hp.count_eq, List.map_cons, List.map_cons, List.count_cons, List.count_cons]
    have := count_map_le f x (B' := B') (B := B.erase q) nd.2 fun y hy => (List.mem_erase_of_ne (fun (e : y = q) => nd.1 (e ▸ hy))).mpr (h y (.tail _ hy))
    omega
theorem sub_cells {B' B : CS} (nd : (keys B').Nodup) (h : ∀ q ∈ B', q ∈ B) {τ : Ledger} : Sub (cellsL B' ++ τ) (cellsL B ++ τ) := fun x => by
  letI : DecidableEq (Addr × Sp) := Classical.typeDecidableEq _
  have nm : ∀ {l : CS}, (keys l).Nodup → l.Nodup := by
    intro l
    induction l with
    | nil => intro _; exact List.nodup_nil
    | cons z l ih =>
      intro nd
      unfold keys at nd
      rw [List.map_cons, List.nodup_cons] at nd
      exact List.nodup_cons.mpr ⟨fun h => nd.1 (List.mem_map_of_mem (f := (·.1)) h), ih nd.2⟩
  have := count_map_le (fun q : Int × Addr × List Int => (q.2.1, Sp.ints q.2.2)) x (nm nd) h
  rw [List.count_append, List.count_append]
  unfold cellsL; omega
end Mine
namespace Mine

theorem mem_filter_keys {cs : CS} {f : (Int × Addr × List Int) → Bool} {q : Int × Addr × List Int} (h : q ∈ cs) (hf : f q = true) : q.1 ∈ keys (cs.filter f) := mem_keys (List.mem_filter.mpr ⟨h, hf⟩)

theorem FullTo.inv {X X' : AR} {ks : List Int} (I : Inv X) (T : FullTo X X' ks) : Inv X' := by
  have hk : ∀ x ∈ keys X'.cs, x ∈ keys X.cs := fun x hx => keys_filter (by rw [T.cs] at hx; exact hx)
  have hk2 : ∀ x ∈ ks, x ∈ keys X'.cs := fun x hx => by
    obtain ⟨q, hq, rfl⟩ := key_cell (T.reach.sub x hx)
    rw [T.cs]; exact mem_filter_keys hq (decide_eq_true hx)
  refine ⟨fun x hx => ?_, fun x hx => ?_, fun q hq p hp => ?_, fun q hq _ _ p hp => ?_, fun x hx => ?_, fun r hr x hx => ?_, ?_, fun q hq => ?_, ?_, fun r hr => ?_⟩
  · rw [T.ys] at hx; cases hx
  · rw [T.rs] at hx; cases hx
  · rw [T.cs] at hq
    obtain ⟨h1, h2⟩ := List.mem_filter.mp hq
    exact hk2 p (T.reach.closed q h1 (of_decide_eq_true h2) p hp)
  · rw [T.ys]; exact List.not_mem_nil
  · rw [T.next]; exact I.nxt x (hk x hx)
  · rw [T.rows] at hr
    exact hk2 x (T.reach.start x (mem_flat.mpr ⟨r, hr, hx⟩))
  · rw [T.cs]; exact Nat.lt_of_le_of_lt (List.length_filter_le _ _) I.z1
  · rw [T.cs] at hq; exact I.z2 q (List.mem_filter.mp hq).1
  · rw [T.rows]; exact I.z3
  · rw [T.rows] at hr; exact I.z4 r hr

theorem MinorTo.kept {X X' : AR} {ks : List Int} (T : MinorTo X X' ks) {q : Int × Addr × List Int} (hq : q ∈ X.cs) (h : q.1 ∈ X.ys → q.1 ∈ ks) : q ∈ X'.cs := by
  rw [T.cs]
  refine List.mem_filter.mpr ⟨hq, ?_⟩
  by_cases e : q.1 ∈ X.ys
  · simp [h e]
  · simp [e]
theorem MinorTo.inv {X X' : AR} {ks : List Int} (I : Inv X) (T : MinorTo X X' ks) : Inv X' := by
  have hk : ∀ x ∈ keys X'.cs, x ∈ keys X.cs := fun x hx => keys_filter (by rw [T.cs] at hx; exact hx)
  have hk2 : ∀ x ∈ keys X.cs, (x ∈ X.ys → x ∈ ks) → x ∈ keys X'.cs := fun x hx h => by
    obtain ⟨q, hq, rfl⟩ := key_cell hx
    exact mem_keys (T.kept hq h)
  refine ⟨fun x hx => ?_, fun x hx => ?_, fun q hq p hp => ?_, fun q hq _ _ p hp => ?_, fun x hx => ?_, fun r hr x hx => ?_, ?_, fun q hq => ?_, ?_, fun r hr => ?_⟩
  · rw [T.ys] at hx; cases hx
  · rw [T.rs] at hx; cases hx
  · rw [T.cs] at hq
    obtain ⟨h1, h2⟩ := List.mem_filter.mp hq
    refine hk2 p (I.clo q h1 p hp) fun hy => ?_
    by_cases e : q.1 ∈ ks
    · exact T.closed q h1 e p hp hy
    · have e2 : q.1 ∉ X.ys := by simpa [e] using h2
      by_cases e3 : q.1 ∈ X.rs
      · exact T.rem q h1 e3 p hp hy
      · exact absurd hy (I.bar q h1 e2 e3 p hp)
  · rw [T.ys]; exact List.not_mem_nil
  · rw [T.next]; exact I.nxt x (hk x hx)
  · rw [T.rows] at hr
    exact hk2 x (I.root r hr x hx) fun hy => T.root r hr x hx hy
  · rw [T.cs]; exact Nat.lt_of_le_of_lt (List.length_filter_le _ _) I.z1
  · rw [T.cs] at hq; exact I.z2 q (List.mem_filter.mp hq).1
  · rw [T.rows]; exact I.z3
  · rw [T.rows] at hr; exact I.z4 r hr

/-- what the parts lead to -/
inductive Lead (cs : CS) (from_ : List Int) : Int → Prop
  | root {x : Int} : x ∈ from_ → Lead cs from_ x
  | step {q : Int × Addr × List Int} {p : Int} : Lead cs from_ q.1 → q ∈ cs → p ∈ q.2.2 → Lead cs from_ p

theorem FullTo.lead {X X' : AR} {ks : List Int} (T : FullTo X X' ks) (x : Int) : x ∈ ks ↔ Lead X.cs (X.rows.flatMap (·.2)) x := by
  constructor
  · exact T.reach.least (Lead X.cs (X.rows.flatMap (·.2))) (fun x hx => .root hx) (fun q hq h p hp => .step h hq hp) x
  · intro h
    induction h with
    | root h => exact T.reach.start _ h
    | step _ hq hp ih => exact T.reach.closed _ hq ih _ hp
/-! cells written -/
def setCell (cs : CS) (n : Int) (f : List Int → List Int) : CS := cs.map fun r => if r.1 = n then (r.1, r.2.1, f r.2.2) else r
theorem keys_setCell (cs : CS) (n : Int) (f : List Int → List Int) : keys (setCell cs n f) = keys cs := by
  unfold keys setCell; rw [List.map_map]; apply List.map_congr_left; intro r _; simp only [Function.comp]; split <;> rfl
theorem cd_setCell (cs : CS) (n : Int) (f : List Int → List Int) : cd (setCell cs n f) = cd cs := by
  unfold cd setCell; rw [List.map_map]; apply List.map_congr_left; intro r _; simp only [Function.comp]; split <;> rfl
theorem setCell_id {cs : CS} {n : Int} {f : List Int → List Int} (h : n ∉ keys cs) : setCell cs n f = cs := by
  induction cs with
  | nil => rfl
  | cons r l ih =>
    unfold keys at h
    rw [List.map_cons, List.mem_cons, not_or] at h
    have h1 : ¬ r.1 = n := fun e => h.1 e.symm
    have := ih h.2
    unfold setCell at this ⊢
    rw [List.map_cons, this, if_neg h1]
theorem up_cell {f : List Int → List Int} : ∀ {cs : CS} {q : Int × Addr × List Int}, (keys cs).Nodup → q ∈ cs → Up q.2.1 (.ints q.2.2) (.ints (f q.2.2)) (cellsL cs) (cellsL (setCell cs q.1 f))
  | x :: r, q, nd, h => by
    unfold keys at nd
    rw [List.map_cons, List.nodup_cons] at nd
    cases h with
    | head =>
      have e := setCell_id (f := f) (cs := r) (n := x.1) nd.1
      have : cellsL (setCell (x :: r) x.1 f) = (x.2.1, Sp.ints (f x.2.2)) :: cellsL r := by
        conv => rhs; rw [← e]
        unfold setCell cellsL
        simp
      rw [this]
      exact .head
    | tail _ h =>
      have hne : ¬ x.1 = q.1 := fun e => nd.1 (e ▸ List.mem_map_of_mem (f := (·.1)) h)
      have : cellsL (setCell (x :: r) q.1 f) = (x.2.1, Sp.ints x.2.2) :: cellsL (setCell r q.1 f) := by
        unfold setCell cellsL
        simp [hne]
      rw [this]
      exact .tail (up_cell (cs := r) nd.2 h)
theorem mem_setCell {cs : CS} {n : Int} {f : List Int → List Int} {q : Int × Addr × List Int} (h : q ∈ setCell cs n f) : ∃ r ∈ cs, q.1 = r.1 ∧ q.2.1 = r.2.1 ∧ q.2.2 = if r.1 = n then f r.2.2 else r.2.2 := by
  obtain ⟨r, hr, rfl⟩ := List.mem_map.mp h
  refine ⟨r, hr, ?_⟩
  split <;> simp
theorem setCell_length (cs : CS) (n : Int) (f : List Int → List Int) : (setCell cs n f).length = cs.length := by simp [setCell]

structure WroteTo (X X' : AR) (n : Int) (k : Nat) (part : Int) : Prop where
  rows : X'.rows = X.rows
  young : X'.young = X.young
  old : X'.old = X.old
  next : X'.next = X.next
  ys : X'.ys = X.ys
  cs : X'.cs = setCell X.cs n fun l => l.set k part
  rs : (X'.rs = X.rs ∧ (n ∈ X.ys ∨ part ∉ X.ys ∨ n ∈ X.rs)) ∨ (X'.rs = X.rs ++ [n] ∧ n ∉ X.ys)

theorem WroteTo.inv {X X' : AR} {n part : Int} {k : Nat} (I : Inv X) (T : WroteTo X X' n k part) (hp : part ∈ keys X.cs) (hn : n ∈ keys X.cs) : Inv X' := by
  have hk : keys X'.cs = keys X.cs := by rw [T.cs, keys_setCell]
  have hset : ∀ {l : List Int} {p : Int}, p ∈ l.set k part → p ∈ l ∨ p = part := fun h => List.mem_or_eq_of_mem_set h
  have hrs : ∀ x ∈ X'.rs, x ∈ X.rs ∨ (x = n ∧ n ∉ X.ys) := fun x hx => by
    rcases T.rs with ⟨h1, _⟩ | ⟨h1, h2⟩
    · rw [h1] at hx; exact .inl hx
    · rw [h1] at hx
      rcases List.mem_append.mp hx with hx | hx
      · exact .inl hx
      · exact .inr ⟨List.mem_singleton.mp hx, h2⟩
  refine ⟨fun x hx => ?_, fun x hx => ?_, fun q hq p hp' => ?_, fun q hq h1 h2 p hp' => ?_, fun x hx => ?_, fun r hr x hx => ?_, ?_, fun q hq => ?_, ?_, fun r hr => ?_⟩
  · rw [hk]; rw [T.ys] at hx; exact I.ysub x hx
  · rw [hk, T.ys]
    rcases hrs x hx with h | ⟨rfl, h⟩
    · exact I.rsub x h
    · exact ⟨hn, h⟩
  · rw [hk]
    rw [T.cs] at hq
    obtain ⟨r, hr, e1, _, e3⟩ := mem_setCell hq
    rw [e3] at hp'
    split at hp'
    · rcases hset hp' with h | h
      · exact I.clo r hr p h
      · rw [h]; exact hp
    · exact I.clo r hr p hp'
  · rw [T.ys] at h1 ⊢
    rw [T.cs] at hq
    obtain ⟨r, hr, e1, _, e3⟩ := mem_setCell hq
    have hr2 : r.1 ∉ X.rs := fun h => h2 (by
      rw [e1]
      rcases T.rs with ⟨a, _⟩ | ⟨a, _⟩
      · rw [a]; exact h
      · rw [a]; exact List.mem_append_left _ h)
    rw [e1] at h1
    rw [e3] at hp'
    split at hp'
    · rename_i en
      rcases hset hp' with h | h
      · exact I.bar r hr h1 hr2 p h
      · rw [h]
        rcases T.rs with ⟨_, a | a | a⟩ | ⟨a, _⟩
        · exact absurd a (en ▸ h1)
        · exact a
        · exact absurd a (en ▸ hr2)
        · exact absurd (by rw [a, e1, en]; exact List.mem_append_right _ (List.mem_singleton.mpr rfl)) h2
    · exact I.bar r hr h1 hr2 p hp'
  · rw [T.next]; rw [hk] at hx; exact I.nxt x hx
  · rw [hk]; rw [T.rows] at hr; exact I.root r hr x hx
  · rw [T.cs, setCell_length]; exact I.z1
  · rw [T.cs] at hq
    obtain ⟨r, hr, e1, _, e3⟩ := mem_setCell hq
    rw [e3]
    split
    · rw [List.length_set]; exact I.z2 r hr
    · exact I.z2 r hr
  · rw [T.rows]; exact I.z3
  · rw [T.rows] at hr; exact I.z4 r hr

/-- room made, if any -/
structure RoomTo (X X1 : AR) (ps : List Int) : Prop where
  rows : X1.rows = X.rows
  young : X1.young = X.young
  old : X1.old = X.old
  next : X1.next = X.next
  inv : Inv X1
  psub : ∀ x ∈ ps, x ∈ keys X1.cs
  sub : ∀ q ∈ X1.cs, q ∈ X.cs
  lead : ∀ q ∈ X.cs, Lead X.cs (X.rows.flatMap (·.2) ++ ps) q.1 → q ∈ X1.cs

theorem RoomTo.none {X : AR} {ps : List Int} (I : Inv X) (h : ∀ x ∈ ps, x ∈ keys X.cs) : RoomTo X X ps := ⟨rfl, rfl, rfl, rfl, I, h, fun _ h => h, fun _ h _ => h⟩
theorem Inv.addRow {X : AR} {pa : Addr} {ps : List Int} (I : Inv X) (h : ∀ x ∈ ps, x ∈ keys X.cs) (hz : ps.length ≤ 1000) (hz2 : X.rows.length < 999) : Inv { X with rows := X.rows ++ [(pa, ps)] } :=
  ⟨I.ysub, I.rsub, I.clo, I.bar, I.nxt, fun r hr x hx => by
    rcases List.mem_append.mp hr with hr | hr
    · exact I.root r hr x hx
    · rw [List.mem_singleton.mp hr] at hx; exact h x hx, I.z1, I.z2, by rw [List.length_append]; exact Nat.succ_lt_succ hz2, fun r hr => by
    rcases List.mem_append.mp hr with hr | hr
    · exact I.z4 r hr
    · rw [List.mem_singleton.mp hr]; exact hz⟩
theorem Inv.lessRows {X : AR} {R : List (Addr × List Int)} (I : Inv X) (h : ∀ r ∈ R, r ∈ X.rows) (hz : R.length < 1000) : Inv { X with rows := R } :=
  ⟨I.ysub, I.rsub, I.clo, I.bar, I.nxt, fun r hr x hx => I.root r (h r hr) x hx, I.z1, I.z2, hz, fun r hr => I.z4 r (h r hr)⟩
structure AllocTo (X X' : AR) (ps : List Int) : Prop where
  inv : Inv X'
  rows : X'.rows = X.rows
  young : X'.young = X.young
  old : X'.old = X.old
  next : X'.next = X.next + 1
  cs : ∃ X1 D, RoomTo X X1 ps ∧ X'.cs = X1.cs ++ [(X.next, D, ps)]

theorem Inv.alloc {X1 : AR} {D : Addr} {ps : List Int} (I : Inv X1) (h : ∀ x ∈ ps, x ∈ keys X1.cs) (hz : ps.length ≤ 1000) (hz2 : X1.cs.length < 59) {t3 : Tok} : Inv { X1 with next := X1.next + 1, t3 := t3, cs := X1.cs ++ [(X1.next, D, ps)], ys := X1.ys ++ [X1.next] } := by
  have hk : keys (X1.cs ++ [(X1.next, D, ps)]) = keys X1.cs ++ [X1.next] := by simp [keys]
  have hnew : X1.next ∉ keys X1.cs := fun h => absurd (I.nxt _ h) (Int.lt_irrefl _)
  refine ⟨fun x hx => ?_, fun x hx => ?_, fun q hq p hp => ?_, fun q hq h1 h2 p hp => ?_, fun x hx => ?_, fun r hr x hx => ?_, ?_, fun q hq => ?_, I.z3, I.z4⟩
  · show x ∈ keys (X1.cs ++ [(X1.next, D, ps)])
    rw [hk]
    rcases List.mem_append.mp hx with hx | hx
    · exact List.mem_append_left _ (I.ysub x hx)
    · exact List.mem_append_right _ hx
  · show x ∈ keys (X1.cs ++ [(X1.next, D, ps)]) ∧ x ∉ X1.ys ++ [X1.next]
    rw [hk]
    obtain ⟨a, b⟩ := I.rsub x hx
    refine ⟨List.mem_append_left _ a, fun h => ?_⟩
    rcases List.mem_append.mp h with h | h
    · exact b h
    · exact hnew (List.mem_singleton.mp h ▸ a)
  · show p ∈ keys (X1.cs ++ [(X1.next, D, ps)])
    rw [hk]
    rcases List.mem_append.mp hq with hq | hq
    · exact List.mem_append_left _ (I.clo q hq p hp)
    · rw [List.mem_singleton.mp hq] at hp; exact List.mem_append_left _ (h p hp)
  · show p ∉ X1.ys ++ [X1.next]
    rcases List.mem_append.mp hq with hq | hq
    · intro h3
      rcases List.mem_append.mp h3 with h3 | h3
      · exact I.bar q hq (fun h => h1 (List.mem_append_left _ h)) h2 p hp h3
      · exact hnew (List.mem_singleton.mp h3 ▸ I.clo q hq p hp)
    · rw [List.mem_singleton.mp hq] at h1
      exact absurd (List.mem_append_right _ (List.mem_singleton.mpr rfl)) h1
  · have hx' : x ∈ keys (X1.cs ++ [(X1.next, D, ps)]) := hx
    rw [hk] at hx'
    show x < X1.next + 1
    rcases List.mem_append.mp hx' with hx | hx
    · have := I.nxt x hx; omega
    · rw [List.mem_singleton.mp hx]; omega
  · show x ∈ keys (X1.cs ++ [(X1.next, D, ps)])
    rw [hk]; exact List.mem_append_left _ (I.root r hr x hx)
  · show (X1.cs ++ [(X1.next, D, ps)]).length < 60
    rw [List.length_append]; exact Nat.succ_lt_succ hz2
  · rcases List.mem_append.mp hq with hq | hq
    · exact I.z2 q hq
    · rw [List.mem_singleton.mp hq]; exact hz
end Mine
namespace Mine

theorem Lead.inKeys {T : CS} {rs : List Int} (hr : ∀ x ∈ rs, x ∈ keys T) (clo : ∀ q ∈ T, ∀ p ∈ q.2.2, p ∈ keys T) {x : Int} (h : Lead T rs x) : x ∈ keys T := by
  cases h with
  | root h => exact hr x h
  | step _ hq hp => exact clo _ hq x hp
/-! the table and an arena say the same of what can be reached -/
end Mine
namespace Mine

theorem keys_snoc (T : CS) (q : Int × Addr × List Int) : keys (T ++ [q]) = keys T ++ [q.1] := by simp [keys]
theorem sorted_eq : ∀ {l m : List Int}, l.Pairwise (· ≤ ·) → m.Pairwise (· ≤ ·) → l.Nodup → m.Nodup → (∀ x, x ∈ l ↔ x ∈ m) → l = m
  | [], [], _, _, _, _, _ => rfl
  | [], b :: m, _, _, _, _, h => absurd ((h b).mpr (.head _)) List.not_mem_nil
  | a :: l, [], _, _, _, _, h => absurd ((h a).mp (.head _)) List.not_mem_nil
  | a :: l, b :: m, h1, h2, n1, n2, h => by
    rw [List.pairwise_cons] at h1 h2
    rw [List.nodup_cons] at n1 n2
    have e : a = b := by
      have hab : a ≤ b := by
        rcases List.mem_cons.mp ((h b).mpr (.head _)) with e | e
        · exact Int.le_of_eq e.symm
        · exact h1.1 b e
      have hba : b ≤ a := by
        rcases List.mem_cons.mp ((h a).mp (.head _)) with e | e
        · exact Int.le_of_eq e.symm
        · exact h2.1 a e
      exact Int.le_antisymm hab hba
    subst e
    have ht : ∀ x, x ∈ l ↔ x ∈ m := fun x => by
      constructor
      · intro hx
        rcases List.mem_cons.mp ((h x).mp (.tail _ hx)) with e | e
        · exact absurd (e ▸ hx) n1.1
        · exact e
      · intro hx
        rcases List.mem_cons.mp ((h x).mpr (.tail _ hx)) with e | e
        · exact absurd (e ▸ hx) n2.1
        · exact e
    rw [sorted_eq h1.2 h2.2 n1.2 n2.2 ht]
end Mine
namespace Mine

def pl (B : CS) : List (Int × Int) := B.flatMap fun q => q.2.2.map fun p => (q.1, p)
theorem mem_pl {B : CS} {a b : Int} : (a, b) ∈ pl B ↔ ∃ q ∈ B, q.1 = a ∧ b ∈ q.2.2 := by
  unfold pl
  rw [List.mem_flatMap]
  constructor
  · rintro ⟨q, hq, h⟩
    obtain ⟨p, hp, e⟩ := List.mem_map.mp h
    cases e
    exact ⟨q, hq, rfl, hp⟩
  · rintro ⟨q, hq, rfl, hb⟩
    exact ⟨q, hq, List.mem_map.mpr ⟨b, hb, rfl⟩⟩
def Closed (B : CS) (ks : List Int) : Prop := ∀ q ∈ B, q.1 ∈ ks → ∀ p ∈ q.2.2, p ∈ ks

structure Lap (B : CS) (st ks0 ks : List Int) (ps : List (Int × Int)) (j : Nat) : Prop where
  nd : ks.Nodup
  sub0 : ∀ x ∈ ks0, x ∈ ks
  lead : ∀ x ∈ ks, Lead B st x
  grow : ks0.length < ks.length ∨ (ks = ks0 ∧ ∀ i, i < j → ∀ q, ps[i]? = some q → q.1 ∈ ks0 → q.2 ∈ ks0)
  still : Closed B ks0 → ks = ks0
structure Laps (B : CS) (st ks : List Int) (i : Nat) : Prop where
  nd : ks.Nodup
  start : ∀ x ∈ st, x ∈ ks
  lead : ∀ x ∈ ks, Lead B st x
  prog : Closed B ks ∨ i ≤ ks.length

theorem Lap.init {B : CS} {st ks : List Int} {ps : List (Int × Int)} {i : Nat} (J : Laps B st ks i) : Lap B st ks ks ps 0 :=
  ⟨J.nd, fun _ h => h, J.lead, .inr ⟨rfl, fun i h => absurd h (Nat.not_lt_zero _)⟩, fun _ => rfl⟩
theorem Lap.le {B : CS} {st ks0 ks : List Int} {ps : List (Int × Int)} {j : Nat} (J : Lap B st ks0 ks ps j) : ks0.length ≤ ks.length := by
  rcases J.grow with h | ⟨h, _⟩
  · omega
  · rw [h]; exact Nat.le_refl _
theorem Lap.skip {B : CS} {st ks0 ks : List Int} {ps : List (Int × Int)} {j : Nat} (J : Lap B st ks0 ks ps j) (hj : j < ps.length) (h : ps[j].1 ∈ ks → ps[j].2 ∈ ks) : Lap B st ks0 ks ps (j + 1) := by
  refine ⟨J.nd, J.sub0, J.lead, ?_, J.still⟩
  rcases J.grow with hg | ⟨e, hg⟩
  · exact .inl hg
  · refine .inr ⟨e, fun i hi q hq => ?_⟩
    rcases Nat.lt_or_ge i j with h1 | h1
    · exact hg i h1 q hq
    · have : i = j := by omega
      subst this
      rw [List.getElem?_eq_getElem hj] at hq
      cases hq
      rw [← e]; exact h
theorem Lap.add {B : CS} {st ks0 ks : List Int} {j : Nat} (J : Lap B st ks0 ks (pl B) j) (hj : j < (pl B).length) (h : (pl B)[j].1 ∈ ks) (h2 : (pl B)[j].2 ∉ ks) : Lap B st ks0 (ks ++ [(pl B)[j].2]) (pl B) (j + 1) := by
  obtain ⟨q, hq, e1, e2⟩ := mem_pl.mp (List.getElem_mem hj)
  refine ⟨?_, fun x hx => List.mem_append_left _ (J.sub0 x hx), fun x hx => ?_, .inl ?_, fun hc => ?_⟩
  · rw [List.nodup_append]
    exact ⟨J.nd, by simp, fun a ha b hb e => h2 (by rw [List.mem_singleton.mp hb] at e; exact e ▸ ha)⟩
  · rcases List.mem_append.mp hx with hx | hx
    · exact J.lead x hx
    · rw [List.mem_singleton.mp hx]
      exact .step (q := q) (by rw [e1]; exact J.lead _ h) hq e2
  · have := J.le
    rw [List.length_append, List.length_singleton]; omega
  · exfalso
    have e := J.still hc
    rw [e] at h h2
    exact h2 (hc q hq (e1 ▸ h) _ e2)
theorem Lap.fin {B : CS} {st ks0 ks : List Int} {i j : Nat} (J0 : Laps B st ks0 i) (J : Lap B st ks0 ks (pl B) j) (hj : (pl B).length ≤ j) : Laps B st ks (i + 1) := by
  refine ⟨J.nd, fun x hx => J.sub0 x (J0.start x hx), J.lead, ?_⟩
  rcases J0.prog with hc | hl
  · rw [J.still hc]; exact .inl hc
  · rcases J.grow with hg | ⟨e, hg⟩
    · exact .inr (by omega)
    · refine .inl fun q hq h p hp => ?_
      obtain ⟨k, hk, ek⟩ := List.mem_iff_getElem.mp (mem_pl.mpr ⟨q, hq, rfl, hp⟩)
      rw [e] at h ⊢
      have := hg k (by omega) (q.1, p) (by rw [List.getElem?_eq_getElem hk, ek])
      exact this h
theorem Laps.fin {B : CS} {st ks : List Int} (ndk : (keys B).Nodup) (hs : ∀ x ∈ st, x ∈ keys B) (clo : ∀ q ∈ B, ∀ p ∈ q.2.2, p ∈ keys B) (J : Laps B st ks B.length) (x : Int) : x ∈ ks ↔ Lead B st x := by
  have hsub : ∀ x ∈ ks, x ∈ keys B := fun x hx => (J.lead x hx).inKeys hs clo
  have hc : Closed B ks := by
    rcases J.prog with h | h
    · exact h
    · have all : ∀ y ∈ keys B, y ∈ ks := fun y hy => by
        apply Classical.byContradiction
        intro hn
        have := nodup_len (l := y :: ks) (m := keys B) (List.nodup_cons.mpr ⟨hn, J.nd⟩) fun z hz => by
          rcases List.mem_cons.mp hz with rfl | hz
          · exact hy
          · exact hsub z hz
        rw [length_keys, List.length_cons] at this; omega
      exact fun q hq _ p hp => all p (clo q hq p hp)
  refine ⟨J.lead x, fun h => ?_⟩
  induction h with
  | root h => exact J.start _ h
  | step _ hq hp ih => exact hc _ hq ih _ hp

/-- two tables with the same cells -/
structure Twin (B cs : CS) : Prop where
  to : ∀ q ∈ B, ∃ q' ∈ cs, q'.1 = q.1 ∧ q'.2.2 = q.2.2
  from_ : ∀ q ∈ cs, ∃ q' ∈ B, q'.1 = q.1 ∧ q'.2.2 = q.2.2
theorem Twin.lead1 {B cs : CS} {st : List Int} (h : ∀ q ∈ B, ∃ q' ∈ cs, q'.1 = q.1 ∧ q'.2.2 = q.2.2) {x : Int} (hl : Lead B st x) : Lead cs st x := by
  induction hl with
  | root h1 => exact .root h1
  | @step q p _ hq hp ih =>
    obtain ⟨q', h1, h2, h3⟩ := h q hq
    exact .step (q := q') (by rw [h2]; exact ih) h1 (by rw [h3]; exact hp)
theorem Twin.lead {B cs : CS} {st : List Int} (T : Twin B cs) (x : Int) : Lead B st x ↔ Lead cs st x := ⟨Twin.lead1 T.to, Twin.lead1 T.from_⟩
theorem Twin.keys {B cs : CS} (T : Twin B cs) (x : Int) : x ∈ keys B ↔ x ∈ keys cs := by
  constructor
  · intro h
    obtain ⟨q, hq, rfl⟩ := key_cell h
    obtain ⟨q', h1, h2, _⟩ := T.to q hq
    rw [← h2]; exact mem_keys h1
  · intro h
    obtain ⟨q, hq, rfl⟩ := key_cell h
    obtain ⟨q', h1, h2, _⟩ := T.from_ q hq
    rw [← h2]; exact mem_keys h1
end Mine
namespace Mine

/-- what law 2 has built so far: n cells made, m rows laid -/
structure Built (X : AR) (mk : List Int) (Rl : List (Addr × List Int)) (n m : Nat) : Prop where
  inv : Inv X
  old : X.old = 1000
  young : X.young = 1000
  len : X.cs.length ≤ n
  rows : X.rows.map (·.2) = Rl.map (·.2)
  rlen : Rl.length ≤ m
  mlen : mk.length ≤ n
  mlt : ∀ x ∈ mk, x < X.next
theorem Built.rlen' {X : AR} {mk : List Int} {Rl : List (Addr × List Int)} {n m : Nat} (B : Built X mk Rl n m) : X.rows.length = Rl.length := by
  have := congrArg List.length B.rows
  rwa [List.length_map, List.length_map] at this
theorem Built.more {X : AR} {mk : List Int} {Rl : List (Addr × List Int)} {n m n' m' : Nat} (B : Built X mk Rl n m) (h : n ≤ n') (h2 : m ≤ m') : Built X mk Rl n' m' :=
  ⟨B.inv, B.old, B.young, Nat.le_trans B.len h, B.rows, Nat.le_trans B.rlen h2, Nat.le_trans B.mlen h, B.mlt⟩
theorem Built.alloc {X X' : AR} {mk ps : List Int} {Rl : List (Addr × List Int)} {n m : Nat} (B : Built X mk Rl n m) (AT : AllocTo X X' ps) (nd : (keys X'.cs).Nodup) : Built X' (mk ++ [X.next]) Rl (n + 1) m := by
  obtain ⟨X1, D, RT, hcs⟩ := AT.cs
  refine ⟨AT.inv, by rw [AT.old, B.old], by rw [AT.young, B.young], ?_, by rw [AT.rows, B.rows], B.rlen, by rw [List.length_append]; exact Nat.succ_le_succ B.mlen, fun x hx => ?_⟩
  · have hk : keys X'.cs = keys X1.cs ++ [X.next] := by rw [hcs]; simp [keys]
    rw [hk] at nd
    have n1 := (List.nodup_append.mp nd).1
    have := nodup_len n1 (m := keys X.cs) fun x hx => by
      obtain ⟨q, hq, rfl⟩ := key_cell hx
      exact mem_keys (RT.sub q hq)
    rw [length_keys, length_keys] at this
    have := B.len
    rw [hcs, List.length_append, List.length_singleton]; omega
  · rw [AT.next]
    rcases List.mem_append.mp hx with hx | hx
    · have := B.mlt x hx; omega
    · rw [List.mem_singleton.mp hx]; omega
theorem AllocTo.keys {X X' : AR} {ps : List Int} (AT : AllocTo X X' ps) : X.next ∈ keys X'.cs ∧ ∀ x ∈ ps, x ∈ keys X'.cs := by
  obtain ⟨X1, D, RT, hcs⟩ := AT.cs
  have hk : Mine.keys X'.cs = Mine.keys X1.cs ++ [X.next] := by rw [hcs]; simp [Mine.keys]
  rw [hk]
  exact ⟨List.mem_append_right _ (List.mem_singleton.mpr rfl), fun x hx => List.mem_append_left _ (RT.psub x hx)⟩
theorem Built.push {X : AR} {mk ps : List Int} {Rl : List (Addr × List Int)} {n m : Nat} {pa LN : Addr} (B : Built X mk Rl n m) (h : ∀ x ∈ ps, x ∈ keys X.cs) (hz : ps.length ≤ 1000) (hm : m < 900) :
    Built { X with rows := X.rows ++ [(pa, ps)] } mk (Rl ++ [(LN, ps)]) n (m + 1) := by
  have h1 := B.rlen'
  have h2 := B.rlen
  exact ⟨B.inv.addRow h hz (by omega), B.old, B.young, B.len, by rw [List.map_append, List.map_append, B.rows]; rfl, by rw [List.length_append]; exact Nat.succ_le_succ B.rlen, B.mlen, B.mlt⟩
theorem Built.write {X X' : AR} {mk : List Int} {Rl : List (Addr × List Int)} {n m : Nat} {q part : Int} {k : Nat} (B : Built X mk Rl n m) (WT : WroteTo X X' q k part) (hp : part ∈ keys X.cs) (hq : q ∈ keys X.cs) : Built X' mk Rl n m :=
  ⟨WT.inv B.inv hp hq, by rw [WT.old, B.old], by rw [WT.young, B.young], by rw [WT.cs, setCell_length]; exact B.len, by rw [WT.rows, B.rows], B.rlen, B.mlen, fun x hx => by rw [WT.next]; exact B.mlt x hx⟩
theorem Built.minor {X X' : AR} {mk ks : List Int} {Rl : List (Addr × List Int)} {n m : Nat} (B : Built X mk Rl n m) (MT : MinorTo X X' ks) : Built X' mk Rl n m :=
  ⟨MT.inv B.inv, by rw [MT.old, B.old], by rw [MT.young, B.young], by rw [MT.cs]; exact Nat.le_trans (List.length_filter_le _ _) B.len, by rw [MT.rows, B.rows], B.rlen, B.mlen, fun x hx => by rw [MT.next]; exact B.mlt x hx⟩
end Mine
namespace Mine
theorem flat_of_map {R Rl : List (Addr × List Int)} (h : R.map (·.2) = Rl.map (·.2)) : R.flatMap (·.2) = Rl.flatMap (·.2) := by
  have e : ∀ l : List (Addr × List Int), l.flatMap (·.2) = (l.map (·.2)).flatten := fun l => by rw [List.flatMap]
  rw [e, e, h]
theorem twin_of_map {B cs : CS} (h : B.map (fun q => (q.1, q.2.2)) = cs.map (fun q => (q.1, q.2.2))) : Twin B cs := by
  have go : ∀ {B cs : CS}, B.map (fun q => (q.1, q.2.2)) = cs.map (fun q => (q.1, q.2.2)) → ∀ q ∈ B, ∃ q' ∈ cs, q'.1 = q.1 ∧ q'.2.2 = q.2.2 := fun {B cs} h q hq => by
    have : (q.1, q.2.2) ∈ cs.map (fun q => (q.1, q.2.2)) := h ▸ List.mem_map_of_mem (f := fun q : Int × Addr × List Int => (q.1, q.2.2)) hq
    obtain ⟨q', h1, h2⟩ := List.mem_map.mp this
    exact ⟨q', h1, (Prod.mk.inj h2).1, (Prod.mk.inj h2).2⟩
  exact ⟨go h, go h.symm⟩
/-- the closing loop's state -/
structure Fin2 (B : CS) (X : AR) (Rl : List (Addr × List Int)) (mk : List Int) : Prop where
  inv : Inv X
  young : X.young = 1000
  twin : Twin B X.cs
  rows : X.rows.map (·.2) = Rl.map (·.2)
  mlt : ∀ x ∈ mk, x < X.next
theorem Fin2.flat {B : CS} {X : AR} {Rl : List (Addr × List Int)} {mk : List Int} (F : Fin2 B X Rl mk) : X.rows.flatMap (·.2) = Rl.flatMap (·.2) := flat_of_map F.rows
theorem Fin2.root {B : CS} {X : AR} {Rl : List (Addr × List Int)} {mk : List Int} (F : Fin2 B X Rl mk) : ∀ x ∈ Rl.flatMap (·.2), x ∈ keys B := fun x hx => by
  rw [← F.flat] at hx
  obtain ⟨r, hr, h⟩ := mem_flat.mp hx
  exact (F.twin.keys x).mpr (F.inv.root r hr x h)
theorem Fin2.clo {B : CS} {X : AR} {Rl : List (Addr × List Int)} {mk : List Int} (F : Fin2 B X Rl mk) : ∀ q ∈ B, ∀ p ∈ q.2.2, p ∈ keys B := fun q hq p hp => by
  obtain ⟨q', h1, _, h3⟩ := F.twin.to q hq
  exact (F.twin.keys p).mpr (F.inv.clo q' h1 p (h3 ▸ hp))
theorem Fin2.small {B : CS} {X : AR} {Rl : List (Addr × List Int)} {mk : List Int} (F : Fin2 B X Rl mk) : ∀ q ∈ B, q.2.2.length ≤ 1000 := fun q hq => by
  obtain ⟨q', h1, _, h3⟩ := F.twin.to q hq
  rw [← h3]; exact F.inv.z2 q' h1
theorem Fin2.len {B : CS} {X : AR} {Rl : List (Addr × List Int)} {mk : List Int} (F : Fin2 B X Rl mk) (nd : (keys B).Nodup) : B.length < 60 := by
  have := nodup_len (m := keys X.cs) nd fun x hx => (F.twin.keys x).mp hx
  rw [length_keys, length_keys] at this
  have := F.inv.z1; omega
theorem Fin2.rlen {B : CS} {X : AR} {Rl : List (Addr × List Int)} {mk : List Int} (F : Fin2 B X Rl mk) : Rl.length < 1000 := by
  have := congrArg List.length F.rows
  rw [List.length_map, List.length_map] at this
  have := F.inv.z3; omega
theorem Fin2.rsmall {B : CS} {X : AR} {Rl : List (Addr × List Int)} {mk : List Int} (F : Fin2 B X Rl mk) : ∀ r ∈ Rl, r.2.length ≤ 1000 := fun r hr => by
  have : r.2 ∈ X.rows.map (·.2) := F.rows ▸ List.mem_map_of_mem (f := (·.2)) hr
  obtain ⟨r', h1, h2⟩ := List.mem_map.mp this
  rw [← h2]; exact F.inv.z4 r' h1
/-- after a full collection the arena's cells are the closure -/
theorem Fin2.keysFull {B : CS} {X X' : AR} {Rl : List (Addr × List Int)} {mk ks ks1 : List Int} (F : Fin2 B X Rl mk) (T : FullTo X X' ks1) (hk : ∀ x, x ∈ ks ↔ Lead B (Rl.flatMap (·.2)) x) (x : Int) : x ∈ keys X'.cs ↔ x ∈ ks := by
  rw [hk x, F.twin.lead x, ← F.flat, ← T.lead x]
  constructor
  · intro h
    rw [T.cs] at h
    obtain ⟨q, hq, rfl⟩ := key_cell h
    exact of_decide_eq_true (List.mem_filter.mp hq).2
  · intro h
    obtain ⟨q, hq, rfl⟩ := key_cell (T.reach.sub x h)
    rw [T.cs]; exact mem_filter_keys hq (decide_eq_true h)
theorem Fin2.full {B : CS} {X X' : AR} {Rl : List (Addr × List Int)} {mk ks1 : List Int} (F : Fin2 B X Rl mk) (T : FullTo X X' ks1) : Inv X' ∧ X'.young = 1000 ∧ X'.rows.map (·.2) = Rl.map (·.2) ∧ (∀ x ∈ mk, x < X'.next) ∧ (∀ q ∈ X'.cs, q ∈ X.cs) :=
  ⟨T.inv F.inv, by rw [T.young, F.young], by rw [T.rows, F.rows], fun x hx => by rw [T.next]; exact F.mlt x hx, fun q hq => by rw [T.cs] at hq; exact (List.mem_filter.mp hq).1⟩
/-- a second full collection changes nothing -/
theorem FullTo.again {X X' X2 : AR} {ks ks2 : List Int} (I : Inv X) (T : FullTo X X' ks) (T2 : FullTo X' X2 ks2) : X2.cs = X'.cs := by
  rw [T2.cs]
  apply List.filter_eq_self.mpr
  intro q hq
  refine decide_eq_true ((T2.lead q.1).mpr ?_)
  have hq2 := hq
  rw [T.cs] at hq2
  obtain ⟨h1, h2⟩ := List.mem_filter.mp hq2
  have hl := (T.lead q.1).mp (of_decide_eq_true h2)
  rw [T.rows]
  clear h2 hq2 hq
  have : ∀ x, Lead X.cs (X.rows.flatMap (·.2)) x → Lead X'.cs (X.rows.flatMap (·.2)) x := by
    intro x h
    induction h with
    | root h => exact .root h
    | @step q p hl hq hp ih =>
      refine .step ih ?_ hp
      rw [T.cs]
      exact List.mem_filter.mpr ⟨hq, decide_eq_true ((T.lead q.1).mpr hl)⟩
  exact this _ hl
end Mine
namespace Mine
theorem keys_of_map {B cs : CS} (h : B.map (fun q => (q.1, q.2.2)) = cs.map (fun q => (q.1, q.2.2))) : keys B = keys cs := by
  have := congrArg (List.map (·.1)) h
  rw [List.map_map, List.map_map] at this
  exact this
/-- a cell that the full collection leaves, seen in the law's own table -/
theorem Fin2.pair {B : CS} {X X' : AR} {Rl : List (Addr × List Int)} {mk ks ks1 : List Int} {x : Int} (F : Fin2 B X Rl mk) (ndX : (keys X.cs).Nodup) (T : FullTo X X' ks1) (hk : ∀ x, x ∈ ks ↔ Lead B (Rl.flatMap (·.2)) x) (hx : x ∈ ks) :
    ∃ q' ∈ X'.cs, ∃ q ∈ B, q'.1 = x ∧ q.1 = x ∧ q'.2.2 = q.2.2 := by
  obtain ⟨q', h1, h2⟩ := key_cell ((F.keysFull T hk x).mpr hx)
  obtain ⟨q, h3, h4, h5⟩ := F.twin.from_ q' ((F.full T).2.2.2.2 q' h1)
  exact ⟨q', h1, q, h3, h2, h4.trans h2, h5.symm⟩
theorem Fin2.empty {B : CS} {X X' X2 : AR} {mk ks ks1 ks2 : List Int} (F : Fin2 B X [] mk) (T : FullTo X X' ks1) (T2 : FullTo X' X2 ks2) (hk : ∀ x, x ∈ ks ↔ Lead B (([] : List (Addr × List Int)).flatMap (·.2)) x) : X2.cs = [] := by
  rw [T.again F.inv T2]
  cases e : X'.cs with
  | nil => rfl
  | cons q l =>
    exfalso
    have h := (hk q.1).mp ((F.keysFull T hk q.1).mp (by rw [e]; exact mem_keys (.head _)))
    have : ∀ x, Lead B (([] : List (Addr × List Int)).flatMap (·.2)) x → False := by
      intro x h
      induction h with
      | root h => exact nomatch h
      | step _ _ _ ih => exact ih
    exact this _ h
theorem Fin2.rows2 {B : CS} {X X' X2 : AR} {Rl : List (Addr × List Int)} {mk ks1 ks2 : List Int} {r : Addr × List Int} (F : Fin2 B X (Rl ++ [r]) mk) (T : FullTo X X' ks1) (T2 : FullTo X' X2 ks2) : ∃ R r', X2.rows = R ++ [r'] ∧ R.map (·.2) = Rl.map (·.2) := by
  have h : X2.rows.map (·.2) = (Rl ++ [r]).map (·.2) := by rw [T2.rows, T.rows, F.rows]
  rw [List.map_append] at h
  rcases List.eq_nil_or_concat X2.rows with e | ⟨R, r', e⟩
  · rw [e] at h; simp at h
  · rw [List.concat_eq_append] at e
    rw [e, List.map_append] at h
    exact ⟨R, r', e, (List.append_inj' h rfl).1⟩
theorem Fin2.turn {B B' : CS} {X X' X2 : AR} {Rl R : List (Addr × List Int)} {r r' : Addr × List Int} {mk ks ks1 ks2 : List Int} (F : Fin2 B X (Rl ++ [r]) mk) (ndB : (keys B).Nodup) (ndX : (keys X.cs).Nodup) (T : FullTo X X' ks1) (T2 : FullTo X' X2 ks2)
    (hk : ∀ x, x ∈ ks ↔ Lead B ((Rl ++ [r]).flatMap (·.2)) x) (hR : X2.rows = R ++ [r']) (hR2 : R.map (·.2) = Rl.map (·.2)) (hB : ∀ q ∈ B', q ∈ B) (hK : keys B' = ks) : Fin2 B' { X2 with rows := R } Rl mk := by
  have I1 := T.inv F.inv
  have I2 := T2.inv I1
  have e2 := T.again F.inv T2
  have sub : ∀ q ∈ X'.cs, q ∈ X.cs := (F.full T).2.2.2.2
  refine ⟨I2.lessRows (fun x hx => by rw [hR]; exact List.mem_append_left _ hx) ?_, by show X2.young = 1000; rw [T2.young, T.young, F.young], ⟨fun q hq => ?_, fun q hq => ?_⟩, hR2, fun x hx => by show x < X2.next; rw [T2.next, T.next]; exact F.mlt x hx⟩
  · have := I2.z3
    rw [hR, List.length_append] at this; omega
  · show ∃ q' ∈ X2.cs, _
    rw [e2]
    obtain ⟨q1, h1, b, h2, h3, h4, h5⟩ := F.pair ndX T hk (hK ▸ mem_keys hq)
    have : b = q := cell_uniq ndB h2 (hB q hq) h4
    exact ⟨q1, h1, h3, by rw [h5, this]⟩
  · replace hq : q ∈ X2.cs := hq
    rw [e2] at hq
    obtain ⟨b, h1, h2, h3⟩ := F.twin.from_ q (sub q hq)
    have hx : q.1 ∈ keys B' := hK ▸ (F.keysFull T hk q.1).mp (mem_keys hq)
    obtain ⟨b', h4, h5⟩ := key_cell hx
    have : b' = b := cell_uniq ndB (hB b' h4) h1 (h5.trans h2.symm)
    exact ⟨b', h4, h5, by rw [this, h3]⟩
end Mine
namespace Mine
abbrev PP : Program := Challenge.rw_ov0046_02.row.prog
abbrev AtL (w : World) (O : OsState) := At PP w (Mine.hd.heap_39 w.params) Mine.hd.view_39 (looseW Mine.hd.view_39 []) O
structure Ok (A : Around) (n : Nat) : Prop where
  hh : A.handled = none
  dep : A.depth + n < 900
  uni : A.units + 3 * n < 9000
theorem Ok.mono {A : Around} {n m : Nat} (h : Ok A n) (hm : m ≤ n) : Ok A m := ⟨h.hh, by have := h.dep; omega, by have := h.uni; omega⟩
theorem Ok.deeper {A : Around} {n : Nat} (h : Ok A (n + 1)) (env : Env) : Ok (A.deeper env) n := ⟨h.hh, by have := h.dep; rw [depth_deeper]; omega, by have := h.uni; rw [Around.deeper_units]; omega⟩

section
variable {A : Around}
theorem ok_make {n : Nat} {C : Addr} {pos : List Value} (h : Ok A (n + 1)) : Ok (A.under (.builtin "type.__call__" ⟨.ref C :: pos, []⟩)) n := by
  have h1 := h.dep
  have h2 := h.uni
  refine ⟨h.hh, ?_, ?_⟩
  · have : (A.under (.builtin "type.__call__" ⟨.ref C :: pos, []⟩)).depth = A.depth + 1 := by first | rfl | simp [Around.under, Code.weight, Code.frames, Code.isFrame, Code.isCreation, Code.isGuard, guardIds, Code.isCaller]
    omega
  · have : (A.under (.builtin "type.__call__" ⟨.ref C :: pos, []⟩)).units = A.units + 1 := by first | rfl | simp [Around.under, Code.cUnits, Code.frames, Code.isFrame]
    omega

theorem ok_room {n : Nat} (h : Ok A n) : A.depth < recursionLimit := by have := h.dep; show A.depth < 1000; omega
theorem flatMap_take_succ {α β : Type} (l : List α) (f : α → List β) (i : Nat) (hi : i < l.length) : (l.take (i + 1)).flatMap f = (l.take i).flatMap f ++ f l[i] := by
  rw [List.take_succ_eq_append_getElem hi, List.flatMap_append]; simp
theorem flatMap_take_le {α β : Type} (l : List α) (f : α → List β) (i : Nat) : ((l.take i).flatMap f).length ≤ (l.flatMap f).length := by
  have : l.flatMap f = (l.take i).flatMap f ++ (l.drop i).flatMap f := by rw [← List.flatMap_append, List.take_append_drop]
  rw [this, List.length_append]; omega

end
end Mine
namespace Mine
set_option compiler.extract_closed false
set_option hygiene false
local macro_rules | `(tactic| walk_at "subscriptTail") => `(tactic| (refine' r_item_dictE ?qH ?qm ?qx ?_; walk_at "Hm"; (case qx => assumption); intro _ _))
local macro_rules | `(tactic| walk_at "newTuple") => `(tactic| (refine' r_newTuple ?qH ?qi ?qz ?_; walk_at "cH"; (case qi => exact .cons _ _ (.cons _ _ .nil)); (case qz => simp); intro _ _ _))
local macro_rules | `(tactic| walk_at "compareOp In int ref") => `(tactic| (refine' r_in_tuple ?qH ?qm ?_; walk_at "Hm"))
local macro_rules | `(tactic| walk_at "compareOp NotEq ref ref") => `(tactic| (refine' r_ne_dict0e ?qH ?qm ?qb ?qe ?qu ?_; walk_at "Hm"; (case qb => walk_at "mem"); (case qe => assumption); (case qu => walk_at "units")))
local macro_rules | `(tactic| walk_at "compareOp Eq ref ref") => `(tactic| (refine' r_eq_refs0' ?qH ?qm ?qb ?qu ?_; walk_at "Hm"; (case qb => walk_at "mem"); (case qu => walk_at "units")))
local macro_rules | `(tactic| walk_at "goS") => `(tactic| repeat ((fail_if_success (with_reducible refine wpAny_execs_cons ?_)); walk_at "one"))
local macro_rules | `(tactic| walk_at "H") => `(tactic| first | assumption | exact At.toks (by assumption))
local macro_rules | `(tactic| walk_at "mem") => `(tactic| first | exact List.Mem.head _ | assumption | (refine List.Mem.tail _ ?_; walk_at "mem") | (refine List.mem_append_left _ ?_; walk_at "mem") | (refine List.mem_append_right _ ?_; walk_at "mem"))
local macro_rules | `(tactic| walk_at "up") => `(tactic| first | exact Up.head | (refine' Up.tail ?qa; (case qa => walk_at "up")) | (refine' Up.left ?qa; (case qa => walk_at "up")) | (refine' Up.right ?qa; (case qa => walk_at "up")))
local macro_rules | `(tactic| walk_at "room") => `(tactic| first | omega | (simp only [Around.deeper_units, depth_deeper]; omega) | assumption | (simp only [length_tt, length_cd, List.length_nil, List.length_append, List.length_map]; omega) | (simp only [length_cd]; refine Nat.lt_of_le_of_lt (cut_len _ _ _) ?_; omega))
local macro_rules | `(tactic| walk_at "eval Name") => `(tactic| first
  | (refine' r_loc (hL := ?qhL) ?qH ?qv ?_; walk_at "cH"; (case qhL => rfl); (case qv => rfl))
  | (refine' r_cell ?qH ?qc ?qm ?_; walk_at "cH"; (case qc => rfl); (case qm => walk_at "mem"))
  | (refine' r_cloc (hL := ?qhL) ?qH ?qm ?qv ?_; walk_at "Hm"; (case qhL => rfl); (case qv => rfl))
  | (refine' r_glob ?qH ?qe ?_; walk_at "cH"; (case qe => k_is))
  | (refine' r_bltn ?qH ?qe ?qv ?qn ?_; walk_at "cH"; (case qe => k_is); (case qv => boot_fast); (case qn => decide)))
local macro_rules | `(tactic| walk_at "storeName") => `(tactic| first
  | (refine' r_st (hL := ?qhL) ?qH ?_; walk_at "cH"; (case qhL => rfl); intro _ _)
  | (refine' r_stCell ?qH ?qc ?qU ?_; walk_at "cH"; (case qc => rfl); (case qU => walk_at "up"); intro _ _))
local macro_rules | `(tactic| walk_at "newList") => `(tactic| (refine' r_newList_ints ?qH ?qi ?qz ?_; walk_at "cH"; (case qi => first | exact .nil | exact .cons _ _ .nil | exact .cons _ _ (.cons _ _ (.cons _ _ .nil))); (case qz => first | decide | omega | simp); intro _ _ _))
local macro_rules | `(tactic| walk_at "eval Dict nil nil") => `(tactic| (refine' r_newDict ?qH ?_; walk_at "cH"; intro _ _ _))
local macro_rules | `(tactic| walk_at "getAttr ref") => `(tactic| (refine' r_get ?qH ?qm ?qb ?qc ?qd ?qe ?qf ?qg ?qh ?_; walk_at "Hm"; (case qb => walk_at "mem"); (case qc => k_is); (case qd => k_is); (case qe => k_is); (case qf => k_is); (case qg => first | rfl | assumption); (case qh => rfl); intro _ _))
local macro_rules | `(tactic| walk_at "getMethod ref") => `(tactic| first
  | (refine' r_meth ?qH ?qm ?qb ?qc ?qd ?qe ?qf ?_; walk_at "Hm"; (case qb => walk_at "mem"); (case qc => k_is); (case qd => k_is); (case qe => k_is); (case qf => rfl))
  | (refine' r_meth_ints ?qH ?qm PySem.F.slot_list_append PySem.F.type_list_append ?_; walk_at "Hm")
  | (refine' r_meth_refs ?qH ?qm PySem.F.slot_list_append PySem.F.type_list_append ?_; walk_at "Hm")
  | (refine' r_meth_ints ?qH ?qm PySem.F.slot_list_pop PySem.F.type_list_pop ?_; walk_at "Hm")
  | (refine' r_meth_refs ?qH ?qm PySem.F.slot_list_pop PySem.F.type_list_pop ?_; walk_at "Hm"))
local macro_rules | `(tactic| walk_at "call builtin:list.append") => `(tactic| first
  | (refine' r_append_ints ?qH ?qU ?qz ?_; walk_at "HUz"; intro _ _)
  | (refine' r_append_refs ?qH ?qU ?qz ?_; walk_at "HUz"; intro _ _))
local macro_rules | `(tactic| walk_at "lsub") => `(tactic| first | exact LSub.nil | (refine' LSub.cons ?qh ?_; (case qh => rfl); walk_at "lsub"))
local macro_rules | `(tactic| walk_at "pick") => `(tactic| first | exact Pick.here | (refine' Pick.there ?qa; (case qa => walk_at "pick")) | (refine' Pick.skip ?qa; (case qa => walk_at "pick")))
local macro_rules | `(tactic| walk_at "pickB") => `(tactic| first | exact PickB.here | (refine' PickB.there ?qa; (case qa => walk_at "pickB")) | (refine' PickB.skip ?qa; (case qa => walk_at "pickB")))
local macro_rules | `(tactic| walk_at "subp") => `(tactic| first | exact Sub.refl | exact Sub.nil | (refine' Sub.pick ?qa ?_; (case qa => walk_at "pick"); walk_at "subp") | (refine' Sub.pickB ?qa ?_; (case qa => walk_at "pickB"); walk_at "subp"))
local macro_rules | `(tactic| walk_at "sub") => `(tactic| first | (with_reducible walk_at "subp") | (intro x; simp only [List.count_append, List.count_cons, List.count_nil]; omega))
local macro_rules | `(tactic| walk_at "exec Expr") => `(tactic| refine wpAny_Expr_any ?_)
local macro_rules | `(tactic| walk_at "go") => `(tactic| repeat (first | walk1 | (dsimp only; walk1)))
local macro_rules | `(tactic| walk_at "one") => `(tactic| (first | walk1 | (dsimp only; walk1)))
local macro_rules | `(tactic| walk_at "compareOp NotIn int ref") => `(tactic| first
  | (refine' r_notin_dict ?qH ?qm ?_; walk_at "Hm"; intro _ _)
  | (refine' r_notin_ints ?qH ?qm ?_; walk_at "Hm"))
local macro_rules | `(tactic| walk_at "compareOp In int ref") => `(tactic|  (refine' r_in_dict ?qH ?qm ?_; walk_at "Hm"; intro _ _))
local macro_rules | `(tactic| walk_at "call builtin:len") => `(tactic| first
  | (refine' r_len_ints ?qH ?qm ?qz ?_; walk_at "Hmz"; intro _ _ _)
  | (refine' r_len_dict ?qH ?qm ?qz ?_; walk_at "Hmz"; intro _ _ _))
local macro_rules | `(tactic| walk_at "call builtin:list.pop") => `(tactic| first
  | (refine' r_pop_ints ?qH ?qU ?qz ?_; walk_at "HUz"; intro _ _ _)
  | (refine' r_pop_refs ?qH ?qU ?qz ?_; walk_at "HUz"; intro _ _)
  | (refine' r_pop0_ints ?qH ?qU ?qz ?_; walk_at "HUz"; intro _ _ _))
local macro_rules | `(tactic| walk_at "call type:list") => `(tactic| (refine' r_copy_ints ?qH ?qm ?qz ?_; walk_at "Hmz"; intro _ _ _))
local macro_rules | `(tactic| walk_at "subscriptTail") => `(tactic| first
  | (refine' r_item_dict ?qH ?qm ?qx ?_; walk_at "Hm"; (case qx => assumption); intro _ _)
  | (refine' r_item_ints ?qH ?qm ?qa ?qb ?qc ?_; walk_at "Hm"; (case qa => walk_at "room"); (case qb => walk_at "room"); (case qc => walk_at "room"); intro _))
local macro_rules | `(tactic| walk_at "setItem ref int") => `(tactic| first
  | (refine' r_set_dict ?qH ?qU ?qz ?_; walk_at "HUz"; intro _ _)
  | (refine' r_set_ints ?qH ?qU ?qa ?qb ?qz ?_; walk_at "HU"; (case qa => walk_at "room"); (case qb => walk_at "room"); walk_at "cz"; intro _ _))
local macro_rules | `(tactic| walk_at "delItem ref int") => `(tactic| (refine' r_del_dict ?qH ?qU ?ql ?qz ?_; walk_at "HU"; (case ql => assumption); walk_at "cz"; intro _ _))
local macro_rules | `(tactic| walk_at "exec For") => `(tactic| refine wpAny_For ?_)
local macro_rules | `(tactic| walk_at "callWith ref") => `(tactic| first
  | (refine' callWith_any ?qH ?qk ?_; walk_at "cH"; (case qk => k_is))
  | (refine' callWith_none ?qH ?qk ?_; walk_at "cH"; (case qk => k_is)))
local macro_rules | `(tactic| walk_at "And") => `(tactic| ((with_reducible show Frag.In _ _ ∧ _); refine ⟨At.X (by walk_at "H"), ?_⟩; (try dsimp only [List.nil_append, List.cons_append])))
local macro_rules | `(tactic| walk_at "exec Assign Attribute") => `(tactic| fail)
local macro_rules | `(tactic| walk_at "exec Assign") => `(tactic| (with_reducible refine plainObj_wpAny_Assign_Attribute ?_ ?_; rotate_left; with_unfolding_all rfl))
local macro_rules | `(tactic| walk_at "setAttr ref") => `(tactic| (refine' r_setA ?qH ?qm ?qU ?qc ?qd ?qe ?qf ?qg ?_; walk_at "Hm"; (case qU => walk_at "up"); (case qc => k_is); (case qd => k_is); (case qe => k_is); (case qf => k_is); (case qg => exact Nat.le_of_ble_eq_true rfl); intro _ _))
local macro_rules | `(tactic| walk_at "call builtin:sorted") => `(tactic|  (refine' r_sorted_dict ?qH ?qm ?qh ?qz ?_; walk_at "Hm"; (case qh => assumption); walk_at "cz"; intro _ _ _ _ _ _))
local macro_rules | `(tactic| walk_at "units") => `(tactic| ((have uni9 := Ok.uni (by assumption)); (simp only [Around.deeper_units]); exact Nat.lt_of_lt_of_le (m := 9900) (by omega) (Nat.le_refl _)))
local macro_rules | `(tactic| walk_at "compareOp Eq ref ref") => `(tactic| (refine' r_eq_ints ?qH ?qm ?qb ?qu ?_; walk_at "Hm"; (case qb => walk_at "mem"); (case qu => walk_at "units")))
local macro_rules | `(tactic| walk_at "compareOp NotEq ref ref") => `(tactic| (refine' r_ne_ints ?qH ?qm ?qb ?qu ?_; walk_at "Hm"; (case qb => walk_at "mem"); (case qu => walk_at "units")))
local macro_rules | `(tactic| walk_at "binaryOp Mod int int") => `(tactic| (refine' mod_int' ?qb ?_; (case qb => first | assumption | decide)))
local macro_rules | `(tactic| walk_at "binaryOp FloorDiv int int") => `(tactic| (refine' floordiv_int ?qb ?_ (Or.inl (PyProof.noPylong_of_log2 (by decide +kernel))); (case qb => first | assumption | decide)))
local macro_rules | `(tactic| walk_at "call type:range") => `(tactic| (refine' r_range ?qH ?_; walk_at "cH"; intro _ _ _ _ _))
local macro_rules | `(tactic| walk_at "subscriptTail") => `(tactic| (refine' r_item_last ?qe ?qH ?qm ?_; (case qe => exact rfl); (case qH => walk_at "H"); (case qm => walk_at "mem"); intro _))
local macro_rules | `(tactic| walk_at "cH") => `(tactic| (case qH => walk_at "H"))
local macro_rules | `(tactic| walk_at "cm") => `(tactic| (case qm => walk_at "mem"))
local macro_rules | `(tactic| walk_at "cz") => `(tactic| (case qz => walk_at "room"))
local macro_rules | `(tactic| walk_at "Hm") => `(tactic| (walk_at "cH"; walk_at "cm"))
local macro_rules | `(tactic| walk_at "Hmz") => `(tactic| (walk_at "Hm"; walk_at "cz"))
local macro_rules | `(tactic| walk_at "HU") => `(tactic| (walk_at "cH"; (case qU => walk_at "up")))
local macro_rules | `(tactic| walk_at "HUz") => `(tactic| (walk_at "HU"; walk_at "cz"))
set_option hygiene true

section
variable {w : World} {O : OsState} {g : Heap} {L : Addr} {ρ : Locs} {σ : Ledger} {s : Shared} {A : Around}
set_option maxHeartbeats 2000000
theorem fill : (Mine.hd.heap_39 w.params = Mine.hd.heap_39 w.params ∧ Challenge.rw_ov0046_02 = Challenge.rw_ov0046_02) ∨ True := by k_fill; exact .inr trivial

theorem c_root_numbers {ro : Addr} {R : List (Addr × List Int)} (ok : Ok A 1) (H : AtL w O g L ρ σ s) (hm : (ro, Sp.refs (R.map (·.1))) ∈ σ) (hr : ∀ q ∈ R, (q.1, Sp.ints q.2) ∈ σ) (hz : (R.flatMap (·.2)).length < 9000000) :
    codeAny (model PP w) A (.call (.ref 137) ⟨[.ref ro], []⟩) (Ret fun v s' => ∃ D, v = .ref D ∧ AtL w O g L ρ ((D, .ints (R.flatMap (·.2))) :: σ) s') s := by
  refine' call_fn (binds := [("roots", .ref ro)]) H ?ho ?hcd (ok_room ok) ?hbind ?hloc ?_ ?c1 ?c2 ?c3 ?c4
  case ho => k_is
  case hcd => k_is
  case hbind => exact BindsTo.of_eq rfl
  case hloc => exact locs rfl
  case c1 => rfl
  case c2 => rfl
  case c3 => rfl
  case c4 => decide
  intro g' L' s' H'
  replace H' : AtL w O g' L' [("roots", .ref ro)] σ s' := H'
  walk_at "go"
  rename_i D s1 H1 s2 H2
  replace H2 := H2.loc (ρ' := [("numbers", .ref D)]) (by walk_at "lsub")
  refine for_refs H2 (.tail _ hm) ok.hh (fun i (ρ' : Locs) (σ' : Ledger) => ρ' = ([("numbers", .ref D)] : Locs) ∧ σ' = (D, .ints ((R.take i).flatMap (·.2))) :: σ) ⟨rfl, rfl⟩ ?_ ?_ ?_
  · rintro i ρ' σ' ⟨rfl, rfl⟩; exact .tail _ hm
  · rintro it i ρ' σ' s3 hi ⟨rfl, rfl⟩ H3
    have hi' : i < R.length := by simpa using hi
    have eR : (R.map (·.1))[i] = R[i].1 := by simp
    rw [eR] at H3
    walk_at "go"
    have hq := hr R[i] (List.getElem_mem hi')
    replace H3 := H3.loc (ρ' := [("numbers", .ref D)]) (by walk_at "lsub")
    refine for_ints H3 (.tail _ (.tail _ hq)) ok.hh (fun j (ρ' : Locs) (σ' : Ledger) => ρ' = ([("numbers", .ref D)] : Locs) ∧ σ' = (it, listIt ro (i + 1)) :: (D, .ints ((R.take i).flatMap (·.2) ++ R[i].2.take j)) :: σ) ⟨rfl, by simp⟩ ?_ ?_ ?_
    · rintro j ρ' σ' ⟨rfl, rfl⟩; exact .tail _ (.tail _ hq)
    · rintro it2 j ρ' σ' s4 tk hj ⟨rfl, rfl⟩ H4
      have hz1 : ((R.take i).flatMap (·.2) ++ R[i].2.take j).length < 9000000 := by
        have h1 := flatMap_take_le R (·.2) (i + 1)
        rw [flatMap_take_succ _ _ _ hi', List.length_append] at h1
        have h2 : (R[i].2.take j).length ≤ R[i].2.length := by rw [List.length_take]; omega
        rw [List.length_append]; omega
      walk_at "go"
      rename_i s5 H5
      refine hold ⟨_, _, H5.loc (ρ' := [("numbers", .ref D)]) (by walk_at "lsub"), rfl, ?_⟩
      rw [List.take_succ_eq_append_getElem hj, List.append_assoc]
    · rintro ρ' σ' s4 ⟨rfl, rfl⟩ H4
      walk1
      refine hold ⟨_, _, H4.loc (ρ' := [("numbers", .ref D)]) (by walk_at "lsub"), rfl, ?_⟩
      rw [flatMap_take_succ _ _ _ hi', List.take_length]
  · rintro ρ' σ' s3 ⟨rfl, rfl⟩ H3
    walk1
    walk1
    walk1
    rw [List.length_map, List.take_length] at H3
    exact back H3 fun H4 => ⟨D, rfl, H4⟩

theorem c_reached_cells {c st : Addr} {cs : CS} {starts : List Int} (ok : Ok A 1) (H : AtL w O g L ρ σ s) (hc : (c, Sp.idict (cd cs)) ∈ σ) (hcs : ∀ q ∈ cs, (q.2.1, Sp.ints q.2.2) ∈ σ) (hst : (st, Sp.ints starts) ∈ σ)
    (hs : ∀ x ∈ starts, x ∈ keys cs) (hcl : ∀ q ∈ cs, ∀ p ∈ q.2.2, p ∈ keys cs) (hz : starts.length + total cs < 8000000) (hz2 : cs.length < 1000) :
    codeAny (model PP w) A (.call (.ref 151) ⟨[.ref c, .ref st], []⟩) (Ret fun v s' => ∃ D ks, v = .ref D ∧ AtL w O g L ρ ((D, .idict (tt ks)) :: σ) s' ∧ ReachC cs starts ks) s := by
  have ndk : (keys cs).Nodup := by
    obtain ⟨o, es, ep, _, _, _, _, _, nd⟩ := H.dict hc
    rwa [keys_cd] at nd
  refine' call_fn (binds := [("cells", .ref c), ("starts", .ref st)]) H ?ho ?hcd (ok_room ok) ?hbind ?hloc ?_ ?c1 ?c2 ?c3 ?c4
  case ho => k_is
  case hcd => k_is
  case hbind => exact BindsTo.of_eq rfl
  case hloc => exact locs rfl
  case c1 => rfl
  case c2 => rfl
  case c3 => rfl
  case c4 => decide
  intro g' L' s' H'
  replace H' : AtL w O g' L' [("starts", .ref st), ("cells", .ref c)] σ s' := H'
  have hz3 : starts.length < 9000000 := by omega
  walk_at "go"
  rename_i D s1 H1 s2 H2 P s3 H3 s4 H4
  replace H4 := H4.loc (ρ' := [("cells", .ref c), ("reached", .ref D), ("pending", .ref P)]) (by walk_at "lsub")
  refine while_rule (fun n (ρ' : Locs) (σ' : Ledger) => n < 8000000 ∧ ρ' = ([("cells", .ref c), ("reached", .ref D), ("pending", .ref P)] : Locs) ∧ ∃ ks pend, σ' = (P, .ints pend) :: (D, .idict (tt ks)) :: σ ∧ PileC cs starts ks pend n) _ H4 ⟨hz, rfl, [], starts, rfl, PileC.init hs⟩ ?_
  rintro n ρ' σ' s5 ⟨hn, rfl, ks, pend, rfl, J⟩ H5
  have hp : pend.length ≤ n := by have := J.size; omega
  have hks : ks.length < 9000000 := by
    have h1 := nodup_len J.nd J.sub
    rw [length_keys] at h1; omega
  rcases List.eq_nil_or_concat pend with rfl | ⟨pend', k, rfl⟩
  · walk_at "go"
    rename At _ _ _ _ _ _ _ _ _ _ _ => H6
    exact back H6.toks.drop fun H7 => ⟨D, ks, rfl, H7, J.done⟩
  · rw [List.concat_eq_append] at *
    have hp' : pend'.length < n := by rw [List.length_append] at hp; simp at hp; omega
    walk_at "go"
    · rename_i H7 hk
      have hk' : k ∈ ks := by simpa [valueAt_tt] using hk
      obtain ⟨J2, h2⟩ := J.skip hk'
      exact hold ⟨n - 1, _, _, h2, H7.loc (ρ' := [("cells", .ref c), ("reached", .ref D), ("pending", .ref P)]) (by walk_at "lsub"), by omega, rfl, ks, pend', rfl, J2⟩
    · rename_i H7 hk
      have hk' : k ∉ ks := by simpa [valueAt_tt] using hk
      obtain ⟨q, hq, rfl⟩ := key_cell (J.psub k (List.mem_append_right _ (.head _)))
      have hv := valueAt_cd ndk hq
      have hqm := hcs q hq
      walk_at "go"
      rename At _ _ _ _ _ _ _ _ _ _ _ => H8
      rw [stored_tt hk'] at H8
      replace H8 := H8.loc (ρ' := [("cells", .ref c), ("reached", .ref D), ("pending", .ref P)]) (by walk_at "lsub")
      obtain ⟨J2, h2⟩ := J.take ndk hcl hq hk'
      have hz4 : (pend' ++ q.2.2).length < 8000000 := by have := J2.size; omega
      refine for_ints H8 (.tail _ (.tail _ hqm)) ok.hh (fun j (ρ' : Locs) (σ' : Ledger) => ρ' = ([("cells", .ref c), ("reached", .ref D), ("pending", .ref P)] : Locs) ∧ σ' = (P, .ints (pend' ++ q.2.2.take j)) :: (D, .idict (tt (ks ++ [q.1]))) :: σ) ⟨rfl, by simp⟩ ?_ ?_ ?_
      · rintro j ρ' σ' ⟨rfl, rfl⟩; exact .tail _ (.tail _ hqm)
      · rintro it j ρ' σ' s9 tk hj ⟨rfl, rfl⟩ H9
        have hz5 : (pend' ++ q.2.2.take j).length < 9000000 := by rw [List.length_append, List.length_take] at *; omega
        walk_at "go"
        rename At _ _ _ _ _ _ _ _ _ _ _ => HA
        refine hold ⟨_, _, HA.loc (ρ' := [("cells", .ref c), ("reached", .ref D), ("pending", .ref P)]) (by walk_at "lsub"), rfl, ?_⟩
        rw [List.take_succ_eq_append_getElem hj, List.append_assoc]
      · rintro ρ' σ' s9 ⟨rfl, rfl⟩ H9
        walk_at "go"
        rw [List.take_length] at H9
        exact hold ⟨n - 1, _, _, h2, H9, by omega, rfl, ks ++ [q.1], pend' ++ q.2.2, rfl, J2⟩
    · rename_i h0
      exact absurd (by rw [List.length_append]; simp) h0

theorem c_reached_young {a d c y st : Addr} {kvs : List (Str × Value)} {cs : CS} {ys starts : List Int} (ok : Ok A 1) (H : AtL w O g L ρ σ s) (h1 : (a, Sp.inst 126 d) ∈ σ) (h2 : (d, Sp.attrs kvs) ∈ σ) (hay : kvs.lookup (Str.ofString "is_young") = some (Value.ref y)) (hac : kvs.lookup (Str.ofString "cells") = some (Value.ref c))
    (hc : (c, Sp.idict (cd cs)) ∈ σ) (hy : (y, Sp.idict (tt ys)) ∈ σ) (hcs : ∀ q ∈ cs, (q.2.1, Sp.ints q.2.2) ∈ σ) (hst : (st, Sp.ints starts) ∈ σ)
    (hs : ∀ x ∈ ys, x ∈ keys cs) (hz : starts.length + total cs < 8000000) (hz2 : cs.length < 1000) :
    codeAny (model PP w) A (.call (.ref 144) ⟨[.ref a, .ref st], []⟩) (Ret fun v s' => ∃ D ks, v = .ref D ∧ AtL w O g L ρ ((D, .idict (tt ks)) :: σ) s' ∧ ReachY cs ys starts ks) s := by
  have ndk : (keys cs).Nodup := by
    obtain ⟨o, es, ep, _, _, _, _, _, nd⟩ := H.dict hc
    rwa [keys_cd] at nd
  refine' call_fn (binds := [("arena", .ref a), ("starts", .ref st)]) H ?ho ?hcd (ok_room ok) ?hbind ?hloc ?_ ?c1 ?c2 ?c3 ?c4
  case ho => k_is
  case hcd => k_is
  case hbind => exact BindsTo.of_eq rfl
  case hloc => exact locs rfl
  case c1 => rfl
  case c2 => rfl
  case c3 => rfl
  case c4 => decide
  intro g' L' s' H'
  replace H' : AtL w O g' L' [("starts", .ref st), ("arena", .ref a)] σ s' := H'
  have hz3 : starts.length < 9000000 := by omega
  walk_at "go"
  rename_i D s1 H1 s2 H2 P s3 H3 s4 H4
  replace H4 := H4.loc (ρ' := [("arena", .ref a), ("reached", .ref D), ("pending", .ref P)]) (by walk_at "lsub")
  refine while_rule (fun n (ρ' : Locs) (σ' : Ledger) => n < 8000000 ∧ ρ' = ([("arena", .ref a), ("reached", .ref D), ("pending", .ref P)] : Locs) ∧ ∃ ks pend, σ' = (P, .ints pend) :: (D, .idict (tt ks)) :: σ ∧ PileY cs ys starts ks pend n) _ H4 ⟨hz, rfl, [], starts, rfl, PileY.init⟩ ?_
  rintro n ρ' σ' s5 ⟨hn, rfl, ks, pend, rfl, J⟩ H5
  have hp : pend.length ≤ n := by have := J.size; omega
  have hks : ks.length < 9000000 := by
    have h1 := nodup_len (m := keys cs) J.nd fun x hx => hs x (J.sub x hx)
    rw [length_keys] at h1; omega
  rcases List.eq_nil_or_concat pend with rfl | ⟨pend', k, rfl⟩
  · walk_at "go"
    rename At _ _ _ _ _ _ _ _ _ _ _ => H6
    exact back H6.toks.drop fun H7 => ⟨D, ks, rfl, H7, J.done⟩
  · rw [List.concat_eq_append] at *
    have hp' : pend'.length < n := by rw [List.length_append] at hp; simp at hp; omega
    walk_at "go"
    · rename_i hy2 _ H7 hk
      have hk' : k ∈ ks := by simpa [valueAt_tt] using hk
      obtain ⟨J2, h2'⟩ := J.skip fun _ => hk'
      exact hold ⟨n - 1, _, _, h2', H7.loc (ρ' := [("arena", .ref a), ("reached", .ref D), ("pending", .ref P)]) (by walk_at "lsub"), by omega, rfl, ks, pend', rfl, J2⟩
    · rename_i hy2 _ H7 hk
      have hk' : k ∉ ks := by simpa [valueAt_tt] using hk
      have hy3 : k ∈ ys := by simpa [valueAt_tt] using hy2
      obtain ⟨q, hq, rfl⟩ := key_cell (hs k hy3)
      have hv := valueAt_cd ndk hq
      have hqm := hcs q hq
      walk_at "go"
      rename At _ _ _ _ _ _ _ _ _ _ _ => H8
      rw [stored_tt hk'] at H8
      replace H8 := H8.loc (ρ' := [("arena", .ref a), ("reached", .ref D), ("pending", .ref P)]) (by walk_at "lsub")
      obtain ⟨J2, h2'⟩ := J.take ndk hq hk' hy3
      have hz4 : (pend' ++ q.2.2).length < 8000000 := by have := J2.size; omega
      refine for_ints H8 (.tail _ (.tail _ hqm)) ok.hh (fun j (ρ' : Locs) (σ' : Ledger) => ρ' = ([("arena", .ref a), ("reached", .ref D), ("pending", .ref P)] : Locs) ∧ σ' = (P, .ints (pend' ++ q.2.2.take j)) :: (D, .idict (tt (ks ++ [q.1]))) :: σ) ⟨rfl, by simp⟩ ?_ ?_ ?_
      · rintro j ρ' σ' ⟨rfl, rfl⟩; exact .tail _ (.tail _ hqm)
      · rintro it j ρ' σ' s9 tk hj ⟨rfl, rfl⟩ H9
        have hz5 : (pend' ++ q.2.2.take j).length < 9000000 := by rw [List.length_append, List.length_take] at *; omega
        walk_at "go"
        rename At _ _ _ _ _ _ _ _ _ _ _ => HA
        refine hold ⟨_, _, HA.loc (ρ' := [("arena", .ref a), ("reached", .ref D), ("pending", .ref P)]) (by walk_at "lsub"), rfl, ?_⟩
        rw [List.take_succ_eq_append_getElem hj, List.append_assoc]
      · rintro ρ' σ' s9 ⟨rfl, rfl⟩ H9
        walk_at "go"
        rw [List.take_length] at H9
        exact hold ⟨n - 1, _, _, h2', H9, by omega, rfl, ks ++ [q.1], pend' ++ q.2.2, rfl, J2⟩
    · rename_i H7 hk
      have hk' : k ∉ ys := by simpa [valueAt_tt] using hk
      obtain ⟨J2, h2'⟩ := J.skip fun h => absurd h hk'
      walk_at "go"
      exact hold ⟨n - 1, _, _, h2', H7.loc (ρ' := [("arena", .ref a), ("reached", .ref D), ("pending", .ref P)]) (by walk_at "lsub"), by omega, rfl, ks, pend', rfl, J2⟩
    · rename_i h0
      exact absurd (by rw [List.length_append]; simp) h0

theorem c_full {a : Addr} {X : AR} {rest : Ledger} (ok : Ok A 2) (H : AtL w O g L ρ (arL a X rest) s) (I : Inv X) :
    codeAny (model PP w) A (.call (.ref 123) ⟨[.ref a], []⟩) (Ret fun v s' => ∃ X' ks, v = .none ∧ AtL w O g L ρ (arL a X' rest) s' ∧ FullTo X X' ks) s := by
  have ndk : (keys X.cs).Nodup := by
    obtain ⟨o, es, ep, _, _, _, _, _, nd⟩ := H.dict (.tail _ (.tail _ (.head _)))
    rwa [keys_cd] at nd
  have hh := ok.hh
  have l1 := I.z1
  have l2 := total_le I.z2 I.z1
  have l3 := flat_le I.z4 I.z3
  refine' call_fn (binds := [("self", .ref a)]) H ?ho ?hcd (ok_room ok) ?hbind ?hloc ?_ ?c1 ?c2 ?c3 ?c4
  case ho => k_is
  case hcd => k_is
  case hbind => exact BindsTo.of_eq rfl
  case hloc => exact locs rfl
  case c1 => rfl
  case c2 => rfl
  case c3 => rfl
  case c4 => decide
  intro g' L' s' H'
  replace H' : AtL w O g' L' [("self", .ref a)] (arL a X rest) s' := H'
  walk_at "go"
  rename At _ _ _ _ _ _ _ _ _ _ _ => H1
  obtain ⟨t5, H2⟩ : ∃ t, AtL w O g' L' [("self", .ref a)] (arL a { X with full := X.full + 1, t5 := t } rest) _ := ⟨_, H1⟩
  clear H1
  refine use_call (c_root_numbers (R := X.rows) (ok.deeper _) H2 (by walk_at "mem") (fun q hq => ?_) (by omega)) ?_
  · exact .tail _ (.tail _ (.tail _ (.tail _ (.tail _ (.tail _ (List.mem_append_left _ (mem_rowsL hq)))))))
  rintro _ s3 ⟨S, rfl, H3⟩
  walk_at "go"
  refine use_call (c_reached_cells (cs := X.cs) (starts := X.rows.flatMap (·.2)) (ok.deeper _) H3 (by walk_at "mem") (fun q hq => ?_) (by walk_at "mem") (fun x hx => ?_) I.clo (by omega) (by omega)) ?_
  · exact .tail _ (.tail _ (.tail _ (.tail _ (.tail _ (.tail _ (.tail _ (List.mem_append_right _ (List.mem_append_left _ (mem_cellsL hq)))))))))
  · obtain ⟨r, hr, hxr⟩ := mem_flat.mp hx
    exact I.root r hr x hxr
  rintro _ s4 ⟨D, ks, rfl, H4, RC⟩
  walk_at "go"
  rename At _ _ _ _ _ _ _ _ _ _ _ => H5
  rename List.Perm _ _ => hp
  rename_i M ms _ _
  have hp' : ms.Perm (keys X.cs) := by rw [← keys_cd]; exact hp
  have ndm : ms.Nodup := hp'.nodup_iff.mpr ndk
  refine for_ints H5 (.head _) ok.hh (fun i (ρ' : Locs) (σ' : Ledger) => ρ' = ([("reached", .ref D), ("self", .ref a)] : Locs) ∧ σ' = (M, .ints ms) :: (D, .idict (tt ks)) :: (S, .ints (X.rows.flatMap (·.2))) :: arT a { X with full := X.full + 1, t5 := t5, cs := cut X.cs ks (ms.take i) } (rowsL X.rows ++ (cellsL X.cs ++ rest))) ⟨rfl, by rw [List.take_zero, cut_nil]⟩ ?_ ?_ ?_
  · rintro i ρ' σ' ⟨rfl, rfl⟩; exact .head _
  · rintro it i ρ' σ' s6 tk hi ⟨rfl, rfl⟩ H6
    have hl := cut_mem (ks := ks) (hp'.mem_iff.mp (List.getElem_mem hi)) (not_mem_take ndm hi)
    walk_at "go"
    · rename At _ _ _ _ _ _ _ _ _ _ _ => H7
      rename_i hk
      have hk' : ms[i] ∈ ks := by simpa [valueAt_tt] using hk
      refine hold ⟨_, _, H7.loc (ρ' := [("reached", .ref D), ("self", .ref a)]) (by walk_at "lsub"), rfl, ?_⟩
      rw [List.take_succ_eq_append_getElem hi, cut_in hk']
    · rename_i hk
      have hk' : ms[i] ∉ ks := by simpa [valueAt_tt] using hk
      walk_at "go"
      rename At _ _ _ _ _ _ _ _ _ _ _ => H7
      rw [without_cd, cut_out hk'] at H7
      refine hold ⟨_, _, H7.loc (ρ' := [("reached", .ref D), ("self", .ref a)]) (by walk_at "lsub"), rfl, ?_⟩
      rw [List.take_succ_eq_append_getElem hi]
  · rintro ρ' σ' s6 ⟨rfl, rfl⟩ H6
    rw [List.take_length] at H6
    walk_at "go"
    rename_i Y2 _ _ _ _ R2 _ _ s9 H9
    replace H9 : AtL w O g' L' [("reached", .ref D), ("self", .ref a)] ((R2, .idict (tt [])) :: (Y2, .idict (tt [])) :: (M, .ints ms) :: (D, .idict (tt ks)) :: (S, .ints (X.rows.flatMap (·.2))) ::
      (a, .inst 126 X.d) :: (X.d, .attrs (AR.attrs { X with full := X.full + 1, t5 := t5, y := Y2, r := R2, ys := [], rs := [], cs := cut X.cs ks ms })) :: (X.c, .idict (cd (cut X.cs ks ms))) :: (X.y, .idict (tt X.ys)) :: (X.r, .idict (tt X.rs)) :: (X.ro, .refs (X.rows.map (·.1))) :: (rowsL X.rows ++ (cellsL X.cs ++ rest))) s9 := H9
    refine back (H9.sub (σ' := arL a { X with full := X.full + 1, t5 := t5, y := Y2, r := R2, ys := [], rs := [], cs := cut X.cs ks ms } rest) ?_) fun HB => ⟨_, ks, rfl, HB, ⟨rfl, rfl, rfl, rfl, rfl, rfl, ?_, RC⟩⟩
    · intro x
      have hx := cellsL_filter (fun q => decide (q.1 ∈ ks) || decide (q.1 ∉ ms)) X.cs x
      unfold cut
      simp only [List.count_append, List.count_cons]
      omega
    · exact cut_all fun x hx => hp'.mem_iff.mpr hx

theorem c_minor {a : Addr} {X : AR} {rest : Ledger} (ok : Ok A 2) (H : AtL w O g L ρ (arL a X rest) s) (I : Inv X) :
    codeAny (model PP w) A (.call (.ref 116) ⟨[.ref a], []⟩) (Ret fun v s' => ∃ X' ks, v = .none ∧ AtL w O g L ρ (arL a X' rest) s' ∧ MinorTo X X' ks) s := by
  have ndk : (keys X.cs).Nodup := by
    obtain ⟨o, es, ep, _, _, _, _, _, nd⟩ := H.dict (.tail _ (.tail _ (.head _)))
    rwa [keys_cd] at nd
  have ndy : X.ys.Nodup := by
    obtain ⟨o, es, ep, _, _, _, _, _, nd⟩ := H.dict (.tail _ (.tail _ (.tail _ (.head _))))
    rwa [keys_tt] at nd
  have ndr : X.rs.Nodup := by
    obtain ⟨o, es, ep, _, _, _, _, _, nd⟩ := H.dict (.tail _ (.tail _ (.tail _ (.tail _ (.head _)))))
    rwa [keys_tt] at nd
  have hh := ok.hh
  have l1 := I.z1
  have l2 := total_le I.z2 I.z1
  have l3 := flat_le I.z4 I.z3
  have l4 := nodup_len ndy I.ysub
  have l5 := nodup_len ndr fun x hx => (I.rsub x hx).1
  rw [length_keys] at l4 l5
  refine' call_fn (binds := [("self", .ref a)]) H ?ho ?hcd (ok_room ok) ?hbind ?hloc ?_ ?c1 ?c2 ?c3 ?c4
  case ho => k_is
  case hcd => k_is
  case hbind => exact BindsTo.of_eq rfl
  case hloc => exact locs rfl
  case c1 => rfl
  case c2 => rfl
  case c3 => rfl
  case c4 => decide
  intro g' L' s' H'
  replace H' : AtL w O g' L' [("self", .ref a)] (arL a X rest) s' := H'
  walk_at "go"
  rename At _ _ _ _ _ _ _ _ _ _ _ => H1
  obtain ⟨t4, H2⟩ : ∃ t, AtL w O g' L' [("self", .ref a)] (arL a { X with mino := X.mino + 1, t4 := t } rest) _ := ⟨_, H1⟩
  clear H1
  refine use_call (c_root_numbers (R := X.rows) (ok.deeper _) H2 (by walk_at "mem") (fun q hq => ?_) (by omega)) ?_
  · exact .tail _ (.tail _ (.tail _ (.tail _ (.tail _ (.tail _ (List.mem_append_left _ (mem_rowsL hq)))))))
  rintro _ s3 ⟨S, rfl, H3⟩
  walk_at "go"
  rename At _ _ _ _ _ _ _ _ _ _ _ => H5
  rename List.Perm _ _ => hp
  rename_i M ms _ _
  have hp' : ms.Perm X.rs := by rw [← keys_tt X.rs]; exact hp
  have lm : ms.length < 60 := by rw [hp'.length_eq]; omega
  have cell : ∀ q ∈ X.cs, (q.2.1, Sp.ints q.2.2) ∈ rowsL X.rows ++ (cellsL X.cs ++ rest) := fun q hq => List.mem_append_right _ (List.mem_append_left _ (mem_cellsL hq))
  replace H5 := H5.loc (ρ' := [("starts", .ref S), ("self", .ref a)]) (by walk_at "lsub")
  refine for_ints H5 (.head _) ok.hh (fun i (ρ' : Locs) (σ' : Ledger) => ρ' = ([("starts", .ref S), ("self", .ref a)] : Locs) ∧ ∃ pl : List Int, σ' = (M, .ints ms) :: (S, .ints pl) :: arL a { X with mino := X.mino + 1, t4 := t4 } rest ∧
    (∀ x ∈ X.rows.flatMap (·.2), x ∈ pl) ∧ (∀ j, j < i → ∀ q ∈ X.cs, some q.1 = ms[j]? → ∀ p ∈ q.2.2, p ∈ pl) ∧ pl.length ≤ 1000000 + 1000 * i) ⟨rfl, X.rows.flatMap (·.2), rfl, fun x h => h, fun j h => absurd h (Nat.not_lt_zero _), by omega⟩ ?_ ?_ ?_
  · rintro i ρ' σ' ⟨rfl, pl, rfl, _⟩; exact .head _
  · rintro it i ρ' σ' s6 tk hi ⟨rfl, pl, rfl, p1, p2, p3⟩ H6
    obtain ⟨q, hq, hqe⟩ := key_cell (I.rsub _ (hp'.mem_iff.mp (List.getElem_mem hi))).1
    have hv := valueAt_cd ndk hq
    rw [hqe] at hv
    walk_at "go"
    rename At _ _ _ _ _ _ _ _ _ _ _ => H7
    have zq := I.z2 q hq
    replace H7 := H7.loc (ρ' := [("starts", .ref S), ("self", .ref a)]) (by walk_at "lsub")
    refine for_ints H7 (.tail _ (.tail _ (.tail _ (.tail _ (.tail _ (.tail _ (.tail _ (.tail _ (.tail _ (cell q hq)))))))))) ok.hh (fun j (ρ' : Locs) (σ' : Ledger) => ρ' = ([("starts", .ref S), ("self", .ref a)] : Locs) ∧ σ' = (it, listIt M (i + 1)) :: (M, .ints ms) :: (S, .ints (pl ++ q.2.2.take j)) :: arL a { X with mino := X.mino + 1, t4 := t4 } rest) ⟨rfl, by simp⟩ ?_ ?_ ?_
    · rintro j ρ' σ' ⟨rfl, rfl⟩; exact .tail _ (.tail _ (.tail _ (.tail _ (.tail _ (.tail _ (.tail _ (.tail _ (.tail _ (cell q hq)))))))))
    · rintro it2 j ρ' σ' s8 tk2 hj ⟨rfl, rfl⟩ H8
      have hz5 : (pl ++ q.2.2.take j).length < 9000000 := by rw [List.length_append, List.length_take]; omega
      walk_at "go"
      rename At _ _ _ _ _ _ _ _ _ _ _ => H9
      refine hold ⟨_, _, H9.loc (ρ' := [("starts", .ref S), ("self", .ref a)]) (by walk_at "lsub"), rfl, ?_⟩
      rw [List.take_succ_eq_append_getElem hj, List.append_assoc]
    · rintro ρ' σ' s8 ⟨rfl, rfl⟩ H8
      walk_at "go"
      rw [List.take_length] at H8
      refine hold ⟨_, _, H8, rfl, pl ++ q.2.2, rfl, fun x hx => List.mem_append_left _ (p1 x hx), fun j hj q' hq' e p hp => ?_, by rw [List.length_append]; omega⟩
      rcases Nat.lt_or_ge j i with h | h
      · exact List.mem_append_left _ (p2 j h q' hq' e p hp)
      · have e2 : j = i := by omega
        subst e2
        rw [List.getElem?_eq_getElem hi] at e
        have : q' = q := cell_uniq ndk hq' hq (by rw [hqe]; exact Option.some.inj e)
        subst this
        exact List.mem_append_right _ hp
  · rintro ρ' σ' s6 ⟨rfl, pl, rfl, p1, p2, p3⟩ H6
    walk_at "go"
    refine use_call (c_reached_young (cs := X.cs) (ys := X.ys) (starts := pl) (ok.deeper _) H6 (by walk_at "mem") (by walk_at "mem") rfl rfl (by walk_at "mem") (by walk_at "mem") (fun q hq => .tail _ (.tail _ (.tail _ (.tail _ (.tail _ (.tail _ (.tail _ (.tail _ (cell q hq))))))))) (by walk_at "mem") I.ysub (by omega) (by omega)) ?_
    rintro _ s7 ⟨D, ks, rfl, H7, RY⟩
    walk_at "go"
    rename At _ _ _ _ _ _ _ _ _ _ _ => H8
    rename List.Perm _ _ => hp2
    rename_i M2 ms2 _ _
    have hp2' : ms2.Perm X.ys := by rw [← keys_tt X.ys]; exact hp2
    have ndm : ms2.Nodup := hp2'.nodup_iff.mpr ndy
    have hroot : ∀ r ∈ X.rows, ∀ x ∈ r.2, x ∈ X.ys → x ∈ ks := fun r hr x hx hy => RY.start x (p1 x (mem_flat.mpr ⟨r, hr, hx⟩)) hy
    have hrem : ∀ q ∈ X.cs, q.1 ∈ X.rs → ∀ p ∈ q.2.2, p ∈ X.ys → p ∈ ks := fun q hq hr p hp hy => by
      obtain ⟨j, hj, e⟩ := List.mem_iff_getElem.mp (hp'.mem_iff.mpr hr)
      exact RY.start p (p2 j hj q hq (by rw [List.getElem?_eq_getElem hj, e]) p hp) hy
    replace H8 := (H8.loc (ρ' := [("reached", .ref D), ("self", .ref a)]) (by walk_at "lsub")).sub (σ' := (M2, .ints ms2) :: (D, .idict (tt ks)) :: arT a { X with mino := X.mino + 1, t4 := t4, cs := cut X.cs ks [] } (rowsL X.rows ++ (cellsL X.cs ++ rest))) (by rw [cut_nil]; walk_at "sub")
    refine for_ints H8 (.head _) ok.hh (fun i (ρ' : Locs) (σ' : Ledger) => ρ' = ([("reached", .ref D), ("self", .ref a)] : Locs) ∧ σ' = (M2, .ints ms2) :: (D, .idict (tt ks)) :: arT a { X with mino := X.mino + 1, t4 := t4, cs := cut X.cs ks (ms2.take i) } (rowsL X.rows ++ (cellsL X.cs ++ rest))) ⟨rfl, rfl⟩ ?_ ?_ ?_
    · rintro i ρ' σ' ⟨rfl, rfl⟩; exact .head _
    · rintro it i ρ' σ' s9 tk hi ⟨rfl, rfl⟩ H9
      have hl := cut_mem (ks := ks) (I.ysub _ (hp2'.mem_iff.mp (List.getElem_mem hi))) (not_mem_take ndm hi)
      walk_at "go"
      · rename At _ _ _ _ _ _ _ _ _ _ _ => HA
        rename_i hk
        have hk' : ms2[i] ∈ ks := by simpa [valueAt_tt] using hk
        refine hold ⟨_, _, HA.loc (ρ' := [("reached", .ref D), ("self", .ref a)]) (by walk_at "lsub"), rfl, ?_⟩
        rw [List.take_succ_eq_append_getElem hi, cut_in hk']
      · rename_i hk
        have hk' : ms2[i] ∉ ks := by simpa [valueAt_tt] using hk
        walk_at "go"
        rename At _ _ _ _ _ _ _ _ _ _ _ => HA
        rw [without_cd, cut_out hk'] at HA
        refine hold ⟨_, _, HA.loc (ρ' := [("reached", .ref D), ("self", .ref a)]) (by walk_at "lsub"), rfl, ?_⟩
        rw [List.take_succ_eq_append_getElem hi]
    · rintro ρ' σ' s9 ⟨rfl, rfl⟩ H9
      rw [List.take_length] at H9
      walk_at "go"
      rename_i Y2 _ _ _ _ R2 _ _ sA HA
      replace HA : AtL w O g' L' [("reached", .ref D), ("self", .ref a)] ((R2, .idict (tt [])) :: (Y2, .idict (tt [])) :: (M2, .ints ms2) :: (D, .idict (tt ks)) ::
        (a, .inst 126 X.d) :: (X.d, .attrs (AR.attrs { X with mino := X.mino + 1, t4 := t4, y := Y2, r := R2, ys := [], rs := [], cs := cut X.cs ks ms2 })) :: (X.c, .idict (cd (cut X.cs ks ms2))) :: (X.y, .idict (tt X.ys)) :: (X.r, .idict (tt X.rs)) :: (X.ro, .refs (X.rows.map (·.1))) :: (rowsL X.rows ++ (cellsL X.cs ++ rest))) sA := HA
      refine back (HA.sub (σ' := arL a { X with mino := X.mino + 1, t4 := t4, y := Y2, r := R2, ys := [], rs := [], cs := cut X.cs ks ms2 } rest) ?_) fun HB => ⟨_, ks, rfl, HB, ⟨rfl, rfl, rfl, rfl, rfl, rfl, cut_perm fun x => hp2'.mem_iff, hroot, hrem, RY.closed, RY.sub⟩⟩
      intro x
      have hx := cellsL_filter (fun q => decide (q.1 ∈ ks) || decide (q.1 ∉ ms2)) X.cs x
      unfold cut
      simp only [List.count_append, List.count_cons]
      omega

theorem nd_cs {a : Addr} {X : AR} {rest : Ledger} (H : AtL w O g L ρ (arL a X rest) s) : (keys X.cs).Nodup := by
  obtain ⟨o, es, ep, _, _, _, _, _, nd⟩ := H.dict (.tail _ (.tail _ (.head _)))
  rwa [keys_cd] at nd
theorem nd_ys {a : Addr} {X : AR} {rest : Ledger} (H : AtL w O g L ρ (arL a X rest) s) : X.ys.Nodup := by
  obtain ⟨o, es, ep, _, _, _, _, _, nd⟩ := H.dict (.tail _ (.tail _ (.tail _ (.head _))))
  rwa [keys_tt] at nd
theorem nd_rs {a : Addr} {X : AR} {rest : Ledger} (H : AtL w O g L ρ (arL a X rest) s) : X.rs.Nodup := by
  obtain ⟨o, es, ep, _, _, _, _, _, nd⟩ := H.dict (.tail _ (.tail _ (.tail _ (.tail _ (.head _)))))
  rwa [keys_tt] at nd
theorem rowsL_snoc (R : List (Addr × List Int)) (q : Addr × List Int) : rowsL (R ++ [q]) = rowsL R ++ [(q.1, Sp.ints q.2)] := by simp [rowsL]
theorem cellsL_snoc (cs : CS) (q : Int × Addr × List Int) : cellsL (cs ++ [q]) = cellsL cs ++ [(q.2.1, Sp.ints q.2.2)] := by simp [cellsL]

theorem c_old_count {a : Addr} {X : AR} {rest : Ledger} (ok : Ok A 1) (H : AtL w O g L ρ (arL a X rest) s) (I : Inv X) :
    codeAny (model PP w) A (.call (.ref 81) ⟨[.ref a], []⟩) (Ret fun v s' => (∃ t, v = .int ((X.cs.length : Int) - (X.ys.length : Int)) t) ∧ AtL w O g L ρ (arL a X rest) s') s := by
  have l1 := I.z1
  have l4 := nodup_len (nd_ys H) I.ysub
  rw [length_keys] at l4
  refine' call_fn (binds := [("self", .ref a)]) H ?ho ?hcd (ok_room ok) ?hbind ?hloc ?_ ?c1 ?c2 ?c3 ?c4
  case ho => k_is
  case hcd => k_is
  case hbind => exact BindsTo.of_eq rfl
  case hloc => exact locs rfl
  case c1 => rfl
  case c2 => rfl
  case c3 => rfl
  case c4 => decide
  intro g' L' s' H'
  replace H' : AtL w O g' L' [("self", .ref a)] _ s' := H'
  walk_at "go"
  rename At _ _ _ _ _ _ _ _ _ _ _ => H1
  rw [length_cd, length_tt]
  exact back H1.toks fun HB => ⟨⟨_, rfl⟩, HB⟩

theorem c_push {a : Addr} {X : AR} {rest : Ledger} {pt : Addr} {ps : List Int} (ok : Ok A 1) (H : AtL w O g L ρ (arL a X rest) s) (I : Inv X) (hp : (pt, Sp.ints ps) ∈ rest) (hz : ps.length ≤ 1000) :
    codeAny (model PP w) A (.call (.ref 102) ⟨[.ref a, .ref pt], []⟩) (Ret fun v s' => ∃ pa, v = .none ∧ AtL w O g L ρ (arL a { X with rows := X.rows ++ [(pa, ps)] } rest) s') s := by
  have l1 := I.z3
  have hp' : (pt, Sp.ints ps) ∈ rowsL X.rows ++ (cellsL X.cs ++ rest) := List.mem_append_right _ (List.mem_append_right _ hp)
  have hz' : ps.length < 9000000 := by omega
  refine' call_fn (binds := [("self", .ref a), ("numbers", .ref pt)]) H ?ho ?hcd (ok_room ok) ?hbind ?hloc ?_ ?c1 ?c2 ?c3 ?c4
  case ho => k_is
  case hcd => k_is
  case hbind => exact BindsTo.of_eq rfl
  case hloc => exact locs rfl
  case c1 => rfl
  case c2 => rfl
  case c3 => rfl
  case c4 => decide
  intro g' L' s' H'
  replace H' : AtL w O g' L' [("numbers", .ref pt), ("self", .ref a)] _ s' := H'
  walk_at "go"
  rename_i D _ _ s1 H1
  refine back (H1.sub (σ' := (a, .inst 126 X.d) :: (X.d, .attrs X.attrs) :: (X.c, .idict (cd X.cs)) :: (X.y, .idict (tt X.ys)) :: (X.r, .idict (tt X.rs)) :: (X.ro, .refs ((X.rows ++ [(D, ps)]).map (·.1))) :: (rowsL (X.rows ++ [(D, ps)]) ++ (cellsL X.cs ++ rest))) ?_) fun HB => ⟨D, rfl, HB⟩
  rw [rowsL_snoc, List.map_append, List.map_cons, List.map_nil]
  walk_at "sub"

theorem c_pop {a : Addr} {X : AR} {rest : Ledger} {R : List (Addr × List Int)} {r : Addr × List Int} (ok : Ok A 1) (H : AtL w O g L ρ (arL a X rest) s) (I : Inv X) (hr : X.rows = R ++ [r]) :
    codeAny (model PP w) A (.call (.ref 109) ⟨[.ref a], []⟩) (Ret fun v s' => v = .none ∧ AtL w O g L ρ (arL a { X with rows := R } ((r.1, .ints r.2) :: rest)) s') s := by
  have l1 := I.z3
  have lR : R.length < 1000 := by rw [hr, List.length_append] at l1; omega
  replace H : AtL w O g L ρ ((a, .inst 126 X.d) :: (X.d, .attrs X.attrs) :: (X.c, .idict (cd X.cs)) :: (X.y, .idict (tt X.ys)) :: (X.r, .idict (tt X.rs)) :: (X.ro, .refs (R.map (·.1) ++ [r.1])) :: (rowsL (R ++ [r]) ++ (cellsL X.cs ++ rest))) s := by
    have : X.rows.map (·.1) = R.map (·.1) ++ [r.1] := by rw [hr]; simp
    unfold arL arT at H
    rw [this, hr] at H
    exact H
  refine' call_fn (binds := [("self", .ref a)]) H ?ho ?hcd (ok_room ok) ?hbind ?hloc ?_ ?c1 ?c2 ?c3 ?c4
  case ho => k_is
  case hcd => k_is
  case hbind => exact BindsTo.of_eq rfl
  case hloc => exact locs rfl
  case c1 => rfl
  case c2 => rfl
  case c3 => rfl
  case c4 => decide
  intro g' L' s' H'
  replace H' : AtL w O g' L' [("self", .ref a)] _ s' := H'
  walk_at "go"
  rename_i s1 H1
  refine back (H1.sub (σ' := (a, .inst 126 X.d) :: (X.d, .attrs X.attrs) :: (X.c, .idict (cd X.cs)) :: (X.y, .idict (tt X.ys)) :: (X.r, .idict (tt X.rs)) :: (X.ro, .refs (R.map (·.1))) :: (rowsL R ++ (cellsL X.cs ++ ((r.1, .ints r.2) :: rest)))) ?_) fun HB => ⟨rfl, HB⟩
  rw [rowsL_snoc]
  walk_at "sub"

theorem c_write {a : Addr} {X : AR} {rest : Ledger} {q : Int × Addr × List Int} {k : Nat} {part : Int} {t1 t2 t3 : Tok} (ok : Ok A 1) (H : AtL w O g L ρ (arL a X rest) s) (I : Inv X) (hq : q ∈ X.cs) (hk : k < q.2.2.length) :
    codeAny (model PP w) A (.call (.ref 95) ⟨[.ref a, .int q.1 t1, .int (k : Int) t2, .int part t3], []⟩) (Ret fun v s' => ∃ X', v = .none ∧ AtL w O g L ρ (arL a X' rest) s' ∧ WroteTo X X' q.1 k part) s := by
  have ndk := nd_cs H
  have l1 := I.z1
  have l2 := I.z2 q hq
  have l4 := nodup_len (nd_ys H) I.ysub
  have l5 := nodup_len (nd_rs H) fun x hx => (I.rsub x hx).1
  rw [length_keys] at l4 l5
  have hv := valueAt_cd ndk hq
  have hm : (q.2.1, Sp.ints q.2.2) ∈ rowsL X.rows ++ (cellsL X.cs ++ rest) := List.mem_append_right _ (List.mem_append_left _ (mem_cellsL hq))
  refine' call_fn (binds := [("self", .ref a), ("number", .int q.1 t1), ("place", .int (k : Int) t2), ("part", .int part t3)]) H ?ho ?hcd (ok_room ok) ?hbind ?hloc ?_ ?c1 ?c2 ?c3 ?c4
  case ho => k_is
  case hcd => k_is
  case hbind => exact BindsTo.of_eq rfl
  case hloc => exact locs rfl
  case c1 => rfl
  case c2 => rfl
  case c3 => rfl
  case c4 => decide
  intro g' L' s' H'
  replace H' : AtL w O g' L' [("part", .int part t3), ("place", .int (k : Int) t2), ("number", .int q.1 t1), ("self", .ref a)] _ s' := H'
  walk_at "go"
  rename At _ _ _ _ _ _ _ _ _ _ _ => H1
  refine r_set_ints (ns := q.2.2) H1 (.tail (.tail (.tail (.tail (.tail (.tail (.right (.left (up_cell (f := fun l => l.set (k : Int).toNat part) ndk hq)))))))) ) (by omega) (by omega) (by omega) ?_
  intro s2 H2
  walk_at "go"
  · rename_i H3 hy
    have hy' : q.1 ∈ X.ys := by simpa [valueAt_tt] using hy
    refine back (H3.sub (σ' := (a, .inst 126 X.d) :: (X.d, .attrs X.attrs) :: (X.c, .idict (cd (setCell X.cs q.1 fun l => l.set k part))) :: (X.y, .idict (tt X.ys)) :: (X.r, .idict (tt X.rs)) :: (X.ro, .refs (X.rows.map (·.1))) :: (rowsL X.rows ++ (cellsL (setCell X.cs q.1 fun l => l.set k part) ++ rest))) ?_) fun HB => ⟨{ X with cs := setCell X.cs q.1 fun l => l.set k part }, rfl, HB, ⟨rfl, rfl, rfl, rfl, rfl, rfl, .inl ⟨rfl, .inl hy'⟩⟩⟩
    rw [cd_setCell, Int.toNat_natCast]
    walk_at "sub"
  · rename_i hy
    have hy' : q.1 ∉ X.ys := by simpa [valueAt_tt] using hy
    walk_at "go"
    · rename_i H3 hp
      have hp' : part ∉ X.ys := by simpa [valueAt_tt] using hp
      refine back (H3.sub (σ' := (a, .inst 126 X.d) :: (X.d, .attrs X.attrs) :: (X.c, .idict (cd (setCell X.cs q.1 fun l => l.set k part))) :: (X.y, .idict (tt X.ys)) :: (X.r, .idict (tt X.rs)) :: (X.ro, .refs (X.rows.map (·.1))) :: (rowsL X.rows ++ (cellsL (setCell X.cs q.1 fun l => l.set k part) ++ rest))) ?_) fun HB => ⟨{ X with cs := setCell X.cs q.1 fun l => l.set k part }, rfl, HB, ⟨rfl, rfl, rfl, rfl, rfl, rfl, .inl ⟨rfl, .inr (.inl hp')⟩⟩⟩
      rw [cd_setCell, Int.toNat_natCast]
      walk_at "sub"
    · walk_at "go"
      by_cases hr : q.1 ∈ X.rs
      · rename At _ _ _ _ _ _ _ _ _ _ _ => H4
        rw [stored_tt' hr] at H4
        refine back (H4.sub (σ' := (a, .inst 126 X.d) :: (X.d, .attrs X.attrs) :: (X.c, .idict (cd (setCell X.cs q.1 fun l => l.set k part))) :: (X.y, .idict (tt X.ys)) :: (X.r, .idict (tt X.rs)) :: (X.ro, .refs (X.rows.map (·.1))) :: (rowsL X.rows ++ (cellsL (setCell X.cs q.1 fun l => l.set k part) ++ rest))) ?_) fun HB => ⟨{ X with cs := setCell X.cs q.1 fun l => l.set k part }, rfl, HB, ⟨rfl, rfl, rfl, rfl, rfl, rfl, .inl ⟨rfl, .inr (.inr hr)⟩⟩⟩
        rw [cd_setCell, Int.toNat_natCast]
        walk_at "sub"
      · rename At _ _ _ _ _ _ _ _ _ _ _ => H4
        rw [stored_tt hr] at H4
        refine back (H4.sub (σ' := (a, .inst 126 X.d) :: (X.d, .attrs X.attrs) :: (X.c, .idict (cd (setCell X.cs q.1 fun l => l.set k part))) :: (X.y, .idict (tt X.ys)) :: (X.r, .idict (tt (X.rs ++ [q.1]))) :: (X.ro, .refs (X.rows.map (·.1))) :: (rowsL X.rows ++ (cellsL (setCell X.cs q.1 fun l => l.set k part) ++ rest))) ?_) fun HB => ⟨{ X with cs := setCell X.cs q.1 fun l => l.set k part, rs := X.rs ++ [q.1] }, rfl, HB, ⟨rfl, rfl, rfl, rfl, rfl, rfl, .inr ⟨rfl, hy'⟩⟩⟩
        rw [cd_setCell, Int.toNat_natCast]
        walk_at "sub"

theorem cd_snoc (cs : CS) (q : Int × Addr × List Int) : cd (cs ++ [q]) = cd cs ++ [(q.1, .ref q.2.1)] := by simp [cd]
theorem stored_new {cs : CS} {k : Int} {v : Value} (h : k ∉ keys cs) : stored (cd cs) k v = cd cs ++ [(k, v)] := by
  unfold stored
  rw [if_neg]
  rw [List.any_eq_true]
  rintro ⟨x, hx, e⟩
  have e' : x.1 = k := by simpa using e
  have hx' : x.1 ∈ (cd cs).map (·.1) := List.mem_map_of_mem hx
  rw [keys_cd, e'] at hx'
  exact h hx'

abbrev AR.new (X : AR) (y o : Int) : Prop := X.young = y ∧ X.old = o ∧ X.next = 0 ∧ X.cs = [] ∧ X.ys = [] ∧ X.rs = [] ∧ X.rows = []

theorem c_init {x d : Addr} {y o : Int} {t1 t2 : Tok} (ok : Ok A 1) (H : AtL w O g L ρ ((x, .inst 126 d) :: (d, .attrs []) :: σ) s) :
    codeAny (model PP w) A (.call (.ref 60) ⟨[.ref x, .int y t1, .int o t2], []⟩) (Ret fun v s' => v = .none ∧ ∃ X, AtL w O g L ρ (arL x X σ) s' ∧ X.new y o) s := by
  refine' call_fn (binds := [("self", .ref x), ("young", .int y t1), ("old", .int o t2)]) H ?ho ?hcd (ok_room ok) ?hbind ?hloc ?_ ?c1 ?c2 ?c3 ?c4
  case ho => k_is
  case hcd => k_is
  case hbind => exact BindsTo.of_eq rfl
  case hloc => exact locs rfl
  case c1 => rfl
  case c2 => rfl
  case c3 => rfl
  case c4 => decide
  intro g' L' s' H'
  replace H' : AtL w O g' L' [("old", .int o t2), ("young", .int y t1), ("self", .ref x)] _ s' := H'
  walk_at "go"
  rename At _ _ _ _ _ _ _ _ _ _ _ => HF
  obtain ⟨c, y', r, ro, u3, u4, u5, HG⟩ : ∃ c y' r ro u3 u4 u5, AtL w O g' L' [] ((ro, .ints []) :: (r, .idict []) :: (y', .idict []) :: (c, .idict []) :: (x, .inst 126 d) :: (d, .attrs (AR.attrs ⟨d, c, y', r, ro, y, o, 0, 0, 0, t1, t2, u3, u4, u5, [], [], [], []⟩)) :: σ) _ := ⟨_, _, _, _, _, _, _, HF.loc LSub.nil⟩
  refine back ((HG.recast .head nil_refs).sub (σ' := (x, .inst 126 d) :: (d, .attrs (AR.attrs ⟨d, c, y', r, ro, y, o, 0, 0, 0, t1, t2, u3, u4, u5, [], [], [], []⟩)) :: (c, .idict []) :: (y', .idict []) :: (r, .idict []) :: (ro, .refs []) :: σ) (by walk_at "sub")) fun HB => ⟨rfl, ⟨d, c, y', r, ro, y, o, 0, 0, 0, t1, t2, u3, u4, u5, [], [], [], []⟩, HB, rfl, rfl, rfl, rfl, rfl, rfl, rfl⟩

theorem c_chip {gt : Addr} {got : List Int} {most : Int} {t : Tok} (ok : Ok A 1) (H : AtL w O g L ρ ((gt, .ints got) :: σ) s) (hz : got.length < 1000) (hm : 0 < most) :
    codeAny (model PP w) A (.call (.ref 165) ⟨[.ref gt, .int most t], []⟩) (Ret fun v s' => ∃ r t got', v = .int r t ∧ 0 ≤ r ∧ r < most ∧ got'.length ≤ got.length ∧ AtL w O g L ρ ((gt, .ints got') :: σ) s') s := by
  have hm0 : most ≠ 0 := by omega
  refine' call_fn (binds := [("chips", .ref gt), ("most", .int most t)]) H ?ho ?hcd (ok_room ok) ?hbind ?hloc ?_ ?c1 ?c2 ?c3 ?c4
  case ho => k_is
  case hcd => k_is
  case hbind => exact BindsTo.of_eq rfl
  case hloc => exact locs rfl
  case c1 => rfl
  case c2 => rfl
  case c3 => rfl
  case c4 => decide
  intro g' L' s' H'
  replace H' : AtL w O g' L' [("most", .int most t), ("chips", .ref gt)] _ s' := H'
  cases got with
  | nil =>
    walk_at "go"
    rename At _ _ _ _ _ _ _ _ _ _ _ => H1
    exact back (H1.drop.toks) fun HB => ⟨0, _, [], rfl, Int.le_refl _, hm, Nat.le_refl _, HB⟩
  | cons x r =>
    have hz' : r.length < 9000000 := by rw [List.length_cons] at hz; omega
    walk_at "go"
    · rename_i h; exact absurd h (by simp)
    walk_at "go"
    rename At _ _ _ _ _ _ _ _ _ _ _ => H1
    exact back (H1.drop.toks) fun HB => ⟨_, _, r, rfl, Int.fmod_nonneg_of_pos _ hm, Int.fmod_lt_of_pos _ hm, by rw [List.length_cons]; omega, HB⟩

theorem c_pile {sc : Addr} {vs : List Value} {ns : List Int} (ok : Ok A 1) (H : AtL w O g L ρ σ s) (hsc : g.IsList sc vs.toArray) (hi : IntsAre vs ns) (hz0 : ns.length < 9000000) :
    codeAny (model PP w) A (.call (.ref 158) ⟨[.ref sc], []⟩) (Ret fun v s' => ∃ D got, v = .ref D ∧ got.length < 300 ∧ AtL w O g L ρ ((D, .ints got) :: σ) s') s := by
  refine' call_fnS (binds := [("script", .ref sc)]) H ?ho ?hcd (ok_room ok) ?hbind ?hloc ?_ ?c1 ?c2 ?c3 ?c4
  case ho => k_is
  case hcd => k_is
  case hbind => exact BindsTo.of_eq rfl
  case hloc => exact locs rfl
  case c1 => rfl
  case c2 => rfl
  case c3 => rfl
  case c4 => decide
  intro g' L' s' st H'
  replace H' : AtL w O g' L' [("script", .ref sc)] _ s' := H'
  walk_at "go"
  rename_i D _ _ s2 H2
  have l0 : ns.length < 9000000 := hz0
  have hl2 : s2.heap.IsList sc vs.toArray := by
    obtain ⟨m, F, _⟩ := H2.fr
    exact let ⟨o, ho, r⟩ := hsc; ⟨o, F.keep _ _ (st _ _ ho), r⟩
  refine r_slice_upto H2.toks hl2 hi (by decide) l0 ?_
  intro SL s3 H3
  walk_at "go"
  have l50 : (ns.take (50 : Int).toNat).length ≤ 50 := by rw [List.length_take]; exact Nat.min_le_left _ _
  replace H3 := H3.loc (ρ' := [("chips", .ref D)]) (by walk_at "lsub")
  refine for_ints H3 (.head _) ok.hh (fun i (ρ' : Locs) (σ' : Ledger) => ρ' = ([("chips", .ref D)] : Locs) ∧ ∃ got, σ' = (SL, .ints (ns.take (50 : Int).toNat)) :: (D, .ints got) :: σ ∧ got.length ≤ 101 + i) ⟨rfl, [], rfl, by simp⟩ ?_ ?_ ?_
  · rintro i ρ' σ' ⟨rfl, got, rfl, _⟩; exact .head _
  · rintro it i ρ' σ' s4 tk hi4 ⟨rfl, got, rfl, hg⟩ H4
    have lg : got.length < 9000000 := by omega
    walk_at "go"
    · rename At _ _ _ _ _ _ _ _ _ _ _ => H5
      replace H5 := H5.loc (ρ' := [("left", _), ("chips", .ref D)]) (by walk_at "lsub")
      have H6 := H5
      refine while_rule (fun n (ρ' : Locs) (σ' : Ledger) => ∃ z tz, ρ' = ([("left", .int z tz), ("chips", .ref D)] : Locs) ∧ ∃ gz, σ' = (it, listIt SL (i + 1)) :: (SL, .ints (ns.take (50 : Int).toNat)) :: (D, .ints gz) :: σ ∧ gz.length ≤ 101 + i ∧ n = 500 - gz.length) (500 - got.length) (by first | exact H6 | exact H6.toks) ⟨_, _, rfl, got, rfl, hg, rfl⟩ ?_
      rintro n ρ' σ' s6 ⟨z, tz, rfl, gz, rfl, hz6, rfl⟩ H6
      have lg6 : gz.length < 9000000 := by omega
      walk_at "go"
      · rename At _ _ _ _ _ _ _ _ _ _ _ => H8
        walk_at "go"
        exact hold ⟨_, _, (by first | exact H8 | exact H8.toks : AtL w O g' L' _ _ _).loc (ρ' := [("chips", .ref D)]) (by walk_at "lsub"), rfl, _, rfl, by rw [List.length_append, List.length_singleton]; omega⟩
      · have lg7 : (gz ++ [z.fmod 101]).length < 9000000 := by rw [List.length_append, List.length_singleton]; omega
        walk_at "go"
        · rename At _ _ _ _ _ _ _ _ _ _ _ => H8
          walk_at "go"
          exact hold ⟨_, _, (by first | exact H8 | exact H8.toks : AtL w O g' L' _ _ _).loc (ρ' := [("chips", .ref D)]) (by walk_at "lsub"), rfl, _, rfl, by rw [List.length_append, List.length_singleton]; omega⟩
        · rename At _ _ _ _ _ _ _ _ _ _ _ => H8
          rename_i hle
          rw [List.length_append, List.length_singleton] at hle
          walk_at "go"
          exact hold ⟨500 - (gz.length + 1), _, _, by omega, (by first | exact H8 | exact H8.toks : AtL w O g' L' _ _ _).loc (ρ' := [("left", .int (z.fdiv 101) _), ("chips", .ref D)]) (by walk_at "lsub"), _, _, rfl, _, rfl, by rw [List.length_append, List.length_singleton]; omega, by rw [List.length_append]; rfl⟩
    · walk_at "go"
      rename At _ _ _ _ _ _ _ _ _ _ _ => H5
      replace H5 := H5.loc (ρ' := [("left", _), ("chips", .ref D)]) (by walk_at "lsub")
      have H6 := H5
      refine while_rule (fun n (ρ' : Locs) (σ' : Ledger) => ∃ z tz, ρ' = ([("left", .int z tz), ("chips", .ref D)] : Locs) ∧ ∃ gz, σ' = (it, listIt SL (i + 1)) :: (SL, .ints (ns.take (50 : Int).toNat)) :: (D, .ints gz) :: σ ∧ gz.length ≤ 101 + i ∧ n = 500 - gz.length) (500 - got.length) (by first | exact H6 | exact H6.toks) ⟨_, _, rfl, got, rfl, hg, rfl⟩ ?_
      rintro n ρ' σ' s6 ⟨z, tz, rfl, gz, rfl, hz6, rfl⟩ H6
      have lg6 : gz.length < 9000000 := by omega
      walk_at "go"
      · rename At _ _ _ _ _ _ _ _ _ _ _ => H8
        walk_at "go"
        exact hold ⟨_, _, (by first | exact H8 | exact H8.toks : AtL w O g' L' _ _ _).loc (ρ' := [("chips", .ref D)]) (by walk_at "lsub"), rfl, _, rfl, by rw [List.length_append, List.length_singleton]; omega⟩
      · have lg7 : (gz ++ [z.fmod 101]).length < 9000000 := by rw [List.length_append, List.length_singleton]; omega
        walk_at "go"
        · rename At _ _ _ _ _ _ _ _ _ _ _ => H8
          walk_at "go"
          exact hold ⟨_, _, (by first | exact H8 | exact H8.toks : AtL w O g' L' _ _ _).loc (ρ' := [("chips", .ref D)]) (by walk_at "lsub"), rfl, _, rfl, by rw [List.length_append, List.length_singleton]; omega⟩
        · rename At _ _ _ _ _ _ _ _ _ _ _ => H8
          rename_i hle
          rw [List.length_append, List.length_singleton] at hle
          walk_at "go"
          exact hold ⟨500 - (gz.length + 1), _, _, by omega, (by first | exact H8 | exact H8.toks : AtL w O g' L' _ _ _).loc (ρ' := [("left", .int (z.fdiv 101) _), ("chips", .ref D)]) (by walk_at "lsub"), _, _, rfl, _, rfl, by rw [List.length_append, List.length_singleton]; omega, by rw [List.length_append]; rfl⟩
  · rintro ρ' σ' s4 ⟨rfl, got, rfl, hg⟩ H4
    walk_at "go"
    obtain ⟨vs2, n2, e2, hi2⟩ := H4.ints (a := D) (ns := got) (by walk_at "mem")
    refine r_slice_upto H4.toks (isListOf e2) hi2 (by decide) (by omega) ?_
    intro SL2 s5 H5
    walk_at "go"
    refine back (H5.sub (σ' := (SL2, .ints (got.take (100 : Int).toNat)) :: σ) (by walk_at "sub")) fun HB => ⟨SL2, _, rfl, ?_, HB⟩
    rw [List.length_take]; exact Nat.lt_of_le_of_lt (Nat.min_le_left _ _) (by decide)

theorem stored_ins (ks : List Int) (k : Int) : stored (tt ks) k (.bool true) = tt (ins ks k) := by
  unfold ins
  split
  · rename_i h; exact stored_tt' h
  · rename_i h; exact stored_tt h
theorem ins_nodup {ks : List Int} {k : Int} (h : ks.Nodup) : (ins ks k).Nodup := by
  unfold ins
  split
  · exact h
  · rename_i hk
    rw [List.nodup_append]
    exact ⟨h, by simp, fun a ha b hb e => hk (by rw [List.mem_singleton.mp hb] at e; exact e ▸ ha)⟩
theorem mem_ins {ks : List Int} {k x : Int} : x ∈ ins ks k ↔ x ∈ ks ∨ x = k := by
  unfold ins
  split
  · rename_i h
    constructor
    · exact .inl
    · rintro (h1 | rfl)
      · exact h1
      · exact h
  · rw [List.mem_append, List.mem_singleton]

def cellAt (B : CS) (i : Nat) : List Int := match B[i]? with | some q => q.2.2 | none => []
def keyAt (B : CS) (i : Nat) : Int := match B[i]? with | some q => q.1 | none => 0
def addrAt (B : CS) (i : Nat) : Addr := match B[i]? with | some q => q.2.1 | none => 0
theorem cellAt_eq {B : CS} {i : Nat} (h : i < B.length) : cellAt B i = B[i].2.2 := by unfold cellAt; rw [List.getElem?_eq_getElem h]
theorem keyAt_eq {B : CS} {i : Nat} (h : i < B.length) : keyAt B i = B[i].1 := by unfold keyAt; rw [List.getElem?_eq_getElem h]
theorem addrAt_eq {B : CS} {i : Nat} (h : i < B.length) : addrAt B i = B[i].2.1 := by unfold addrAt; rw [List.getElem?_eq_getElem h]
theorem pl_take {B : CS} {i : Nat} (h : i < B.length) : pl (B.take (i + 1)) = pl (B.take i) ++ B[i].2.2.map fun p => (B[i].1, p) := by
  unfold pl; rw [flatMap_take_succ _ _ _ h]
theorem pl_len {B : CS} (h : ∀ q ∈ B, q.2.2.length ≤ 1000) : (pl B).length ≤ B.length * 1000 := by
  unfold pl
  rw [List.length_flatMap]
  have := sum_le (l := B.map fun q => (q.2.2.map fun p => (q.1, p)).length) (b := 1000) (by intro x hx; obtain ⟨q, hq, rfl⟩ := List.mem_map.mp hx; rw [List.length_map]; exact h q hq)
  rwa [List.length_map] at this
def pairsL (Ps : List (Addr × Int × Int)) : Ledger := Ps.map fun q => (q.1, Sp.tints [q.2.1, q.2.2])
theorem pairsL_snoc (Ps : List (Addr × Int × Int)) (q : Addr × Int × Int) : pairsL (Ps ++ [q]) = pairsL Ps ++ [(q.1, Sp.tints [q.2.1, q.2.2])] := by simp [pairsL]
theorem mem_pairsL {Ps : List (Addr × Int × Int)} {q : Addr × Int × Int} (h : q ∈ Ps) : (q.1, Sp.tints [q.2.1, q.2.2]) ∈ pairsL Ps := List.mem_map_of_mem (f := fun q : Addr × Int × Int => (q.1, Sp.tints [q.2.1, q.2.2])) h

theorem c_closure {cdx rt : Addr} {B : CS} {Rl : List (Addr × List Int)} (ok : Ok A 1) (H : AtL w O g L ρ ((cdx, .idict (cd B)) :: σ) s) (hcs : ∀ q ∈ B, (q.2.1, Sp.ints q.2.2) ∈ σ) (hrt : (rt, Sp.refs (Rl.map (·.1))) ∈ σ) (hR : ∀ q ∈ Rl, (q.1, Sp.ints q.2) ∈ σ)
    (hs : ∀ x ∈ Rl.flatMap (·.2), x ∈ keys B) (clo : ∀ q ∈ B, ∀ p ∈ q.2.2, p ∈ keys B) (hz : B.length < 60) (hz2 : ∀ q ∈ B, q.2.2.length ≤ 1000) (hz3 : Rl.length < 1000) (hz4 : ∀ r ∈ Rl, r.2.length ≤ 1000) :
    codeAny (model PP w) A (.call (.ref 170) ⟨[.ref cdx, .ref rt], []⟩) (Ret fun v s' => ∃ D ks, v = .ref D ∧ AtL w O g L ρ ((D, .idict (tt ks)) :: (cdx, .idict (cd B)) :: σ) s' ∧ ks.Nodup ∧ ∀ x, x ∈ ks ↔ Lead B (Rl.flatMap (·.2)) x) s := by
  have hh := ok.hh
  have ndk : (keys B).Nodup := by
    obtain ⟨o, es, ep, _, _, _, _, _, nd⟩ := H.dict (.head _)
    rwa [keys_cd] at nd
  have short : ∀ {ks : List Int}, ks.Nodup → (∀ x ∈ ks, x ∈ keys B) → ks.length < 60 := fun nd h => by
    have := nodup_len nd h
    rw [length_keys] at this; omega
  refine' call_fnC (binds := [("cells", .ref cdx), ("roots", .ref rt)]) H ?ho ?hcd (ok_room ok) ?hbind ?hkind ?hnd ?_ ?c1 ?c2 ?c3
  case ho => k_is
  case hcd => k_is
  case hbind => exact BindsTo.of_eq rfl
  case hkind => intro n x hx; simp only [List.mem_cons, List.not_mem_nil, or_false] at hx; rcases hx with rfl | rfl <;> first | exact .inl rfl | exact .inr ⟨rfl, rfl⟩
  case hnd => decide
  case c1 => rfl
  case c2 => rfl
  case c3 => rfl
  intro g' L' s' st H'
  replace H' : AtL w O g' L' [("roots", .ref rt)] (((L' : Nat) + 1, .cell (some (.ref cdx))) :: (cdx, .idict (cd B)) :: σ) s' := H'
  walk_at "go"
  rename_i D _ _ s2 H2
  replace H2 := H2.loc (ρ' := [("kept", .ref D)]) (by walk_at "lsub")
  refine for_refs H2 (by walk_at "mem") hh (fun i (ρ' : Locs) (σ' : Ledger) => ρ' = ([("kept", .ref D)] : Locs) ∧ ∃ ks, σ' = (D, .idict (tt ks)) :: ((L' : Nat) + 1, .cell (some (.ref cdx))) :: (cdx, .idict (cd B)) :: σ ∧ ks.Nodup ∧ ∀ x, x ∈ ks ↔ x ∈ (Rl.take i).flatMap (·.2)) ⟨rfl, [], rfl, .nil, fun x => by simp⟩ ?_ ?_ ?_
  · rintro i ρ' σ' ⟨rfl, ks, rfl, _⟩; walk_at "mem"
  · rintro it i ρ' σ' s3 hi ⟨rfl, ks, rfl, nd, hk⟩ H3
    have hi' : i < Rl.length := by simpa using hi
    have eR : (Rl.map (·.1))[i] = Rl[i].1 := by simp
    rw [eR] at H3
    have hq := hR Rl[i] (List.getElem_mem hi')
    walk_at "go"
    replace H3 := H3.loc (ρ' := [("kept", .ref D)]) (by walk_at "lsub")
    refine for_ints H3 (by walk_at "mem") hh (fun j (ρ' : Locs) (σ' : Ledger) => ρ' = ([("kept", .ref D)] : Locs) ∧ ∃ ks, σ' = (it, listIt rt (i + 1)) :: (D, .idict (tt ks)) :: ((L' : Nat) + 1, .cell (some (.ref cdx))) :: (cdx, .idict (cd B)) :: σ ∧ ks.Nodup ∧ ∀ x, x ∈ ks ↔ x ∈ (Rl.take i).flatMap (·.2) ++ Rl[i].2.take j) ⟨rfl, ks, rfl, nd, fun x => by rw [hk x]; simp⟩ ?_ ?_ ?_
    · rintro j ρ' σ' ⟨rfl, ks, rfl, _⟩; walk_at "mem"
    · rintro it2 j ρ' σ' s4 tk hj ⟨rfl, ks, rfl, nd, hk⟩ H4
      have hsub : ∀ x ∈ ks, x ∈ keys B := fun x hx => by
        rcases List.mem_append.mp ((hk x).mp hx) with h | h
        · obtain ⟨r, hr, hx'⟩ := mem_flat.mp h
          exact hs x (mem_flat.mpr ⟨r, List.mem_of_mem_take hr, hx'⟩)
        · exact hs x (mem_flat.mpr ⟨_, List.getElem_mem hi', List.mem_of_mem_take h⟩)
      have lk := short nd hsub
      walk_at "go"
      rename At _ _ _ _ _ _ _ _ _ _ _ => H5
      rw [stored_ins] at H5
      refine hold ⟨_, _, H5.loc (ρ' := [("kept", .ref D)]) (by walk_at "lsub"), rfl, _, rfl, ins_nodup nd, fun x => ?_⟩
      rw [mem_ins, hk x, List.take_succ_eq_append_getElem hj, ← List.append_assoc, List.mem_append (t := [_]), List.mem_singleton]
    · rintro ρ' σ' s4 ⟨rfl, ks, rfl, nd, hk⟩ H4
      walk_at "go"
      refine hold ⟨_, _, H4, rfl, ks, rfl, nd, fun x => ?_⟩
      rw [hk x, flatMap_take_succ _ _ _ hi', List.take_length]
  · rintro ρ' σ' s3 ⟨rfl, ks, rfl, nd, hk⟩ H3
    rw [List.length_map, List.take_length] at hk
    walk_at "go"
    have start : ∀ x ∈ Rl.flatMap (·.2), x ∈ ks := fun x hx => (hk x).mpr hx
    have lead0 : ∀ x ∈ ks, Lead B (Rl.flatMap (·.2)) x := fun x hx => .root ((hk x).mp hx)
    replace H3 := H3.sub (σ' := (cdx, .idict (cd B)) :: (D, .idict (tt ks)) :: ((L' : Nat) + 1, .cell (some (.ref cdx))) ::  σ) (by walk_at "sub")
    obtain ⟨ep, H4⟩ := H3.openE
    refine comp_assign (by with_unfolding_all rfl) (cl := [("cells", (L' : Nat) + 1)]) (by with_unfolding_all rfl) ?_
    walk_at "go"
    have hlen : (cd B).length = B.length := length_cd B
    have cellB : ∀ i, i < (cd B).length → ∃ h : i < B.length, (cd B)[i].1 = B[i].1 := fun i h => ⟨by omega, by simp [cd]⟩
    refine comp2_keys (kvs := cd B) (ep := ep) H4 (.head _) hh (fun PD i j (ρ' : Locs) (σ' : Ledger) => ρ' = ([("kept", .ref D)] : Locs) ∧ ∃ Ps, σ' = (PD, .refs (Ps.map (·.1))) :: (pairsL Ps ++ ((cdx, dictE PP w (cd B) ep) :: (D, .idict (tt ks)) :: ((L' : Nat) + 1, .cell (some (.ref cdx))) ::  σ)) ∧ Ps.map (·.2) = pl (B.take i) ++ ((cellAt B i).map fun p => (keyAt B i, p)).take j)
      (fun i => (addrAt B i)) (fun i => cellAt B i) (fun PD => ⟨rfl, [], rfl, by simp [pl]⟩) ?_ ?_ ?_ ?_ ?_ ?_
    · rintro PD i j ρ' σ' ⟨rfl, Ps, rfl, _⟩; walk_at "mem"
    · rintro PD i j ρ' σ' hi ⟨rfl, Ps, rfl, _⟩
      obtain ⟨hi', _⟩ := cellB i hi
      have hq := hcs B[i] (List.getElem_mem hi')
      rw [addrAt_eq hi', cellAt_eq hi']
      walk_at "mem"
    · rintro PD i ρ' σ' hi ⟨rfl, Ps, rfl, e⟩
      obtain ⟨hi', _⟩ := cellB i hi
      refine ⟨rfl, Ps, rfl, ?_⟩
      rw [e, pl_take hi', cellAt_eq hi', keyAt_eq hi', List.take_of_length_le (l := List.map _ _) (by rw [List.length_map]; exact Nat.le_refl _), List.take_zero, List.append_nil]
    · rintro it C PD i ρ' σ' s5 t hi ⟨rfl, Ps, rfl, e⟩ H5
      obtain ⟨hi', ek⟩ := cellB i hi
      have hv := valueAt_cd ndk (List.getElem_mem hi')
      rw [← ek] at hv
      walk_at "go"
      refine hold ⟨by rw [addrAt_eq hi'], by walk_at "H"⟩
    · rintro it it2 C PD i j ρ' σ' s5 t0 t hi hj ⟨rfl, Ps, rfl, e⟩ H5
      obtain ⟨hi', ek⟩ := cellB i hi
      have lPs : Ps.length < 9000000 := by
        have h1 := congrArg List.length e
        rw [List.length_map, List.length_append, List.length_take, List.length_map] at h1
        have h2 := pl_len (B := B.take i) (fun q hq => hz2 q (List.mem_of_mem_take hq))
        rw [List.length_take] at h2
        have h3 := hz2 _ (List.getElem_mem hi')
        rw [cellAt_eq hi'] at h1
        omega
      walk_at "go"
      rename At _ _ _ _ _ _ _ _ _ _ _ => H6
      rename_i Tp _ _ _
      refine hold ⟨_, _, H6.sub (σ' := (C, .nsp [("part_x", .int (cellAt B i)[j] t), ("number_x", .int (cd B)[i].1 t0)]) :: (it2, listIt (addrAt B i) (j + 1)) :: (it, keyIt cdx (cd B).length ep (i + 1)) :: (PD, .refs ((Ps ++ [(Tp, (cd B)[i].1, (cellAt B i)[j])]).map (·.1))) :: (pairsL (Ps ++ [(Tp, (cd B)[i].1, (cellAt B i)[j])]) ++ ((cdx, dictE PP w (cd B) ep) :: (D, .idict (tt ks)) :: ((L' : Nat) + 1, .cell (some (.ref cdx))) ::  σ))) (by simp only [pairsL_snoc, List.map_append, List.map_cons, List.map_nil, List.append_assoc, List.cons_append, List.nil_append]; walk_at "sub"), rfl, _, rfl, ?_⟩
      rw [List.map_append, e, List.append_assoc, List.take_succ_eq_append_getElem (by rw [List.length_map]; exact hj)]
      simp [ek, keyAt_eq hi']
    · rintro C PD ρ' σ' ls s5 ⟨rfl, Ps, rfl, e⟩ H5
      refine compPost_st H5 ?_
      walk_at "one"
      rename At _ _ _ _ _ _ _ _ _ _ _ => H6
      refine ⟨_, _, _, H6, fun s7 H7 => ?_⟩
      rw [List.take_zero, List.append_nil, hlen, List.take_length] at e
      have elen : Ps.length = (pl B).length := by rw [← e, List.length_map]
      replace H7 := (H7.sub (σ' := (cdx, dictE PP w (cd B) ep) :: (D, .idict (tt ks)) :: (PD, .refs (Ps.map (·.1))) :: (pairsL Ps ++ (((L' : Nat) + 1, .cell (some (.ref cdx))) ::  σ))) (by walk_at "sub")).closeE
      have lB9 : (cd B).length < 9000000 := by omega
      walk_at "go"
      rename At _ _ _ _ _ _ _ _ _ _ _ => H8
      rename_i RR u1 u2 u3 _
      replace H8 := (H8.loc (ρ' := [("pairs", .ref PD), ("kept", .ref D)]) (by walk_at "lsub")).sub (σ' := (RR, .obj { cls := .type "range", data := .fields #[.int 0 u1, .int ((cd B).length : Int) u2, .int 1 u3] }) :: (D, .idict (tt ks)) :: (cdx, .idict (cd B)) :: (PD, .refs (Ps.map (·.1))) :: (pairsL Ps ++ (((L' : Nat) + 1, .cell (some (.ref cdx))) ::  σ))) (by walk_at "sub")
      refine for_range H8 lB9 hh (fun i (ρ' : Locs) (σ' : Ledger) => ρ' = ([("pairs", .ref PD), ("kept", .ref D)] : Locs) ∧ ∃ ks, σ' = (D, .idict (tt ks)) :: (cdx, .idict (cd B)) :: (PD, .refs (Ps.map (·.1))) :: (pairsL Ps ++ (((L' : Nat) + 1, .cell (some (.ref cdx))) ::  σ)) ∧ Laps B (Rl.flatMap (·.2)) ks i) ⟨rfl, ks, rfl, nd, start, lead0, .inr (Nat.zero_le _)⟩ ?_ ?_
      · rintro it i ρ' σ' s9 tk hi ⟨rfl, ks, rfl, J⟩ H9
        walk_at "go"
        replace H9 := H9.loc (ρ' := [("pairs", .ref PD), ("kept", .ref D)]) (by walk_at "lsub")
        refine for_pairs (Ps := Ps) H9 (by walk_at "mem") hh (fun j (ρ' : Locs) (σ' : Ledger) => ρ' = ([("pairs", .ref PD), ("kept", .ref D)] : Locs) ∧ ∃ ks2, σ' = (it, rangeIt (cd B).length (i + 1)) :: (D, .idict (tt ks2)) :: (cdx, .idict (cd B)) :: (PD, .refs (Ps.map (·.1))) :: (pairsL Ps ++ (((L' : Nat) + 1, .cell (some (.ref cdx))) ::  σ)) ∧ Lap B (Rl.flatMap (·.2)) ks ks2 (pl B) j) ⟨rfl, ks, rfl, Lap.init J⟩ ?_ ?_ ?_
        · rintro j ρ' σ' ⟨rfl, ks2, rfl, _⟩; exact ⟨by walk_at "mem", fun q hq => .tail _ (.tail _ (.tail _ (.tail _ (List.mem_append_left _ (mem_pairsL hq)))))⟩
        · rintro it2 j ρ' σ' sA tA tB hj ⟨rfl, ks2, rfl, J2⟩ HA
          have hj' : j < (pl B).length := by rw [← elen]; exact hj
          have ej : (pl B)[j] = Ps[j].2 := by simp only [← e]; simp
          have lk := short J2.nd fun x hx => (J2.lead x hx).inKeys hs clo
          walk_at "go"
          · rename_i hin
            have hin' : Ps[j].2.1 ∉ ks2 := by simpa [valueAt_tt] using hin
            rename At _ _ _ _ _ _ _ _ _ _ _ => HB
            walk_at "go"
            exact hold ⟨_, _, (by first | exact HB | exact HB.toks : AtL w O g' L' _ _ _).loc (ρ' := [("pairs", .ref PD), ("kept", .ref D)]) (by walk_at "lsub"), rfl, ks2, rfl, J2.skip hj' fun h => absurd (by rw [ej] at h; exact h) hin'⟩
          · rename_i hin
            have hin' : Ps[j].2.1 ∈ ks2 := by simpa [valueAt_tt] using hin
            walk_at "go"
            rename At _ _ _ _ _ _ _ _ _ _ _ => HB
            rw [stored_ins] at HB
            refine hold ⟨_, _, HB.loc (ρ' := [("pairs", .ref PD), ("kept", .ref D)]) (by walk_at "lsub"), rfl, _, rfl, ?_⟩
            unfold ins
            split
            · rename_i hm; exact J2.skip hj' fun _ => by rw [ej]; exact hm
            · rename_i hm
              have := J2.add hj' (by rw [ej]; exact hin') (by rw [ej]; exact hm)
              rw [ej] at this; exact this
        · rintro ρ' σ' sA ⟨rfl, ks2, rfl, J2⟩ HA
          walk_at "go"
          exact hold ⟨_, _, HA, rfl, ks2, rfl, Lap.fin J J2 (by rw [elen]; exact Nat.le_refl _)⟩
      · rintro ρ' σ' s9 ⟨rfl, ks2, rfl, J⟩ H9
        rw [hlen] at J
        walk_at "go"
        exact back (H9.sub (σ' := (D, .idict (tt ks2)) :: (cdx, .idict (cd B)) :: σ) (by walk_at "sub")) fun HB => ⟨D, ks2, rfl, HB, J.nd, J.fin ndk hs clo⟩

theorem cutS {M : Model} {E : Value → Shared → Prop} {st : Stmt} {rest : List Stmt} {env : Env} {Q : Flow → Shared → Prop} (J : Shared → Prop)
    (h1 : wpAny M A (exec st env) (fun f s' => match f with | .next => Hold (J s') | f => Q f s') (fun _ _ => False) s)
    (h2 : ∀ s', J s' → wpAny M A (execs rest env) Q E s') : wpAny M A (execs (st :: rest) env) Q E s :=
  wpAny_execs_cons (wpAny_mono h1 (fun f s' h => by cases f with
    | next => exact h2 s' h
    | cont => exact h
    | brk => exact h
    | ret v => exact h) (fun _ _ e => e.elim))

theorem ret_mono {M : Model} {c : Code} {P P' : Value → Shared → Prop} (h : codeAny M A c (Ret P) s) (k : ∀ v s', P v s' → P' v s') : codeAny M A c (Ret P') s :=
  codeAny_mono h fun r s' hr => by
    cases r with
    | error e => exact hr
    | ok f => cases f with
      | ret v => exact k v s' hr
      | _ => exact hr

theorem mem_arL_cells {a : Addr} {X : AR} {τ : Ledger} {q : Int × Addr × List Int} (hq : q ∈ X.cs) : (q.2.1, Sp.ints q.2.2) ∈ arL a X τ :=
  .tail _ (.tail _ (.tail _ (.tail _ (.tail _ (.tail _ (List.mem_append_right _ (List.mem_append_left _ (mem_cellsL hq))))))))
/-- a call from the ground -/
theorem call_top {prog : Program} {K : Frag} {p : Program} {lo : List Str} {R : Result → Shared → Prop} {name qual : Str} {params : Arguments} {body : List Stmt} {scope : Scope} {dV kV doc pm cdv ct oc : Value} {an od : Option Addr} {osl : Array (Option Value)} {f : Addr} {args : Args} {binds : List (Str × Value)}
    (S : Stat K p lo s.heap) (hg : s.gens = #[])
    (ho : K.lookup f = some ⟨oc, od, .func (fnOf name qual params body scope dV kV doc pm an cdv ct), osl⟩) (hcd : codeIn K cdv qual = true) (hroom : A.depth < recursionLimit)
    (hbind : BindsTo s (fnOf name qual params body scope dV kV doc pm an cdv ct) args binds) (hloc : ∀ y ∈ binds, scope.names.lookup y.1 = some .local)
    (h : ∀ L' s', At prog w K p lo s.os s.heap L' binds.reverse [] s' →
      wpAny (model prog w) (A.deeper (envOf qual scope L' f cdv)) (execs body (envOf qual scope L' f cdv)) (fun fl s'' => R (.ok (.ret (match fl with | .ret v => v | _ => .none))) s'') (fun _ _ => False) s')
    (hco : scope.isCoroutine = false := by rfl) (hgen : scope.isGenerator = false := by rfl) (hk : scope.kind = .function := by rfl)
    (hcell : ∀ x ∈ scope.names, x.2 ≠ .cell := by decide) : codeAny (model prog w) A (.call (.ref f) args) R s := by
  refine codeAny_call_def (fd := fnOf name qual params body scope dV kV doc pm an cdv ct) (body := body) (binds := binds) hroom (S.X _ _ ho) rfl S.nolimit (codeRec_of S.X hcd) rfl hbind hcell hloc (fun h₁ hns hk₁ => ?_) hco hgen hk
  refine wpAny_mono (h s.heap.objs.size _ ⟨⟨_, ⟨hns, hk₁, Nat.le_refl _⟩, fun x v e => e⟩, ⟨(fun _ hq => nomatch hq), (fun _ hq => nomatch hq), (fun _ hq => nomatch hq), (fun _ hq => nomatch hq), List.nodup_nil⟩, hg, rfl, S⟩) (fun fl s' hl => hl) fun _ _ e => e.elim

theorem call_topC {prog : Program} {K : Frag} {p : Program} {lo : List Str} {R : Result → Shared → Prop} {name qual : Str} {params : Arguments} {body : List Stmt} {scope : Scope} {dV kV doc pm cdv ct oc : Value} {an od : Option Addr} {osl : Array (Option Value)} {f : Addr} {args : Args} {binds : List (Str × Value)}
    (S : Stat K p lo s.heap) (hg : s.gens = #[])
    (ho : K.lookup f = some ⟨oc, od, .func (fnOf name qual params body scope dV kV doc pm an cdv ct), osl⟩) (hcd : codeIn K cdv qual = true) (hroom : A.depth < recursionLimit)
    (hbind : BindsTo s (fnOf name qual params body scope dV kV doc pm an cdv ct) args binds)
    (hkind : ∀ n, ∀ x ∈ binds, scope.names.lookup x.1 = some .local ∨ (scope.names.lookup x.1 = some .cell ∧ ((cellsFrom n scope.names []).lookup x.1).isSome = true))
    (hnd : ((cellsFrom 0 scope.names []).map (·.1)).Nodup)
    (h : ∀ L' s', At prog w K p lo s.os s.heap L' (listL (fun x => scope.names.lookup x) binds []) (cellsLed (bindC (fun x => scope.names.lookup x) binds fun _ => none) (cellsFrom (L' + 1) scope.names [])) s' →
      wpAny (model prog w) (A.deeper (envOfC qual scope L' f cdv)) (execs body (envOfC qual scope L' f cdv)) (fun fl s'' => R (.ok (.ret (match fl with | .ret v => v | _ => .none))) s'') (fun _ _ => False) s')
    (hco : scope.isCoroutine = false := by rfl) (hgen : scope.isGenerator = false := by rfl) (hk : scope.kind = .function := by rfl) : codeAny (model prog w) A (.call (.ref f) args) R s := by
  refine codeAny_call_function (fd := fnOf name qual params body scope dV kV doc pm an cdv ct) hroom (S.X _ _ ho) rfl hco hgen rfl (codeRec_of S.X hcd) (hbind _ _ _ _ ?_)
  refine wpAny_newFunctionEnv_cells hk (hkind _) fun env' he s₂ x => ?_
  subst he
  refine ⟨S.nolimit.keeps x.toInCall.keep, codeAny_func ?_⟩
  obtain ⟨h₁, tk, rfl, _⟩ := x.done
  have hk₁ := x.toInCall.keep
  have low : (sysModules : Nat) < s.heap.objs.size := modules_low S.nolimit
  have cellIs : ∀ q ∈ cellsFrom (s.heap.objs.size + 1) scope.names [], h₁.IsCell q.2 (bindC (fun y => scope.names.lookup y) binds (fun _ => none) q.1) ∧ s.heap.objs.size < q.2 := fun q hq =>
    ⟨x.cell q.1 q.2 (lookup_of_mem_nodup (cellsFrom_names scope.names 0 (s.heap.objs.size + 1) [] [] rfl ▸ hnd) hq), x.above q.1 q.2 hq⟩
  refine wpAny_mono (h s.heap.objs.size _ ⟨⟨_, ⟨x.toInCall.ns, hk₁, Nat.le_refl _⟩, fun y v e => listL_ok _ binds [] _ (fun _ _ e => by cases e) y v e⟩, ⟨fun q hq => ?_, fun q hq => ?_, fun q hq => ?_, fun q hq => ?_, ?_⟩, hg, rfl, S⟩) (fun fl s' hl => hl) fun _ _ e => e.elim
  · obtain ⟨r, hr, rfl⟩ := List.mem_map.mp hq
    obtain ⟨⟨o, e, k⟩, _⟩ := cellIs r hr
    exact ⟨o, e, k⟩
  · obtain ⟨r, hr, rfl⟩ := List.mem_map.mp hq
    exact Nat.ne_of_gt (cellIs r hr).2
  · obtain ⟨r, hr, rfl⟩ := List.mem_map.mp hq
    exact Heap.get?_none_of_le (Nat.le_of_lt (cellIs r hr).2)
  · obtain ⟨r, hr, rfl⟩ := List.mem_map.mp hq
    exact Nat.lt_trans low (cellIs r hr).2
  · have := cellsFrom_above scope.names (s.heap.objs.size + 1) [] (fun _ hq => nomatch hq) List.nodup_nil
    unfold cellsLed
    rw [List.map_map]
    exact this
theorem sealQ {M : Model} {c : Sem Flow} {Q : Flow → Shared → Prop} {E : Value → Shared → Prop} (h : ∀ Z : Flow → Shared → Prop, (∀ f s', Q f s' → Z f s') → wpAny M A c Z E s) : wpAny M A c Q E s := h Q fun _ _ h => h
theorem cutQ {M : Model} {E : Value → Shared → Prop} {st : Stmt} {rest : List Stmt} {env : Env} {Q : Flow → Shared → Prop} (P : Shared → Prop)
    (h1 : ∀ Z : Flow → Shared → Prop, (∀ s', P s' → Z .next s') → wpAny M A (exec st env) Z (fun _ _ => False) s)
    (h2 : ∀ s', P s' → wpAny M A (execs rest env) Q E s') : wpAny M A (execs (st :: rest) env) Q E s :=
  wpAny_execs_cons (wpAny_mono (h1 (fun f s' => match f with | .next => P s' | _ => False) (fun _ h => h)) (fun f s' h => by cases f with
    | next => exact h2 s' h
    | _ => exact h.elim) (fun _ _ e => e.elim))


theorem c_write' {a : Addr} {X : AR} {rest : Ledger} {q : Int × Addr × List Int} {n : Int} {k : Nat} {part : Int} {t1 t2 t3 : Tok} (hn : q.1 = n) (ok : Ok A 1) (H : AtL w O g L ρ (arL a X rest) s) (I : Inv X) (hq : q ∈ X.cs) (hk : k < q.2.2.length) :
    codeAny (model PP w) A (.call (.ref 95) ⟨[.ref a, .int n t1, .int (k : Int) t2, .int part t3], []⟩) (Ret fun v s' => ∃ X', v = .none ∧ AtL w O g L ρ (arL a X' rest) s' ∧ WroteTo X X' n k part) s := by
  subst hn; exact c_write ok H I hq hk
theorem nthD_mem {l : List Int} {k : Nat} (h : k < l.length) : l.getD k 0 ∈ l := by
  rw [List.getD_eq_getElem?_getD, List.getElem?_eq_getElem h]; exact List.getElem_mem _

theorem Built.init {X : AR} (h : X.new 1000 1000) : Built X [] [] 0 0 := by
  obtain ⟨h1, h2, h3, h4, h5, h6, h7⟩ := h
  refine ⟨⟨?_, ?_, ?_, ?_, ?_, ?_, ?_, ?_, ?_, ?_⟩, h2, h1, by simp [h4], by simp [h7], Nat.le_refl _, Nat.le_refl _, fun _ h => nomatch h⟩
  · rw [h5]; exact fun _ h => nomatch h
  · rw [h6]; exact fun _ h => nomatch h
  · rw [h4]; exact fun _ h => nomatch h
  · rw [h4]; exact fun _ h => nomatch h
  · rw [h4]; exact fun _ h => nomatch h
  · rw [h7]; exact fun _ h => nomatch h
  · rw [h4]; decide
  · rw [h4]; exact fun _ h => nomatch h
  · rw [h7]; decide
  · rw [h7]; exact fun _ h => nomatch h

theorem c_alloc2 {a : Addr} {X : AR} {rest : Ledger} {pt : Addr} {ps : List Int} (ok : Ok A 4) (H : AtL w O g L ρ (arL a X rest) s) (I : Inv X) (hp : (pt, Sp.ints ps) ∈ rest) (hps : ∀ x ∈ ps, x ∈ keys X.cs) (hz : ps.length ≤ 1000) (hz3 : X.cs.length < 59) (hy : (X.ys.length : Int) < X.young) :
    codeAny (model PP w) A (.call (.ref 67) ⟨[.ref a, .ref pt], []⟩) (Ret fun v s' => (∃ t, v = .int X.next t) ∧ ∃ X' D, AtL w O g L ρ (arL a X' rest) s' ∧ AllocTo X X' ps ∧ X'.cs = X.cs ++ [(X.next, D, ps)]) s := by
  have l4 := nodup_len (nd_ys H) I.ysub
  rw [length_keys] at l4
  have hz' : ps.length < 9000000 := by omega
  refine' call_fn (binds := [("self", .ref a), ("parts", .ref pt)]) H ?ho ?hcd (ok_room ok) ?hbind ?hloc ?_ ?c1 ?c2 ?c3 ?c4
  case ho => k_is
  case hcd => k_is
  case hbind => exact BindsTo.of_eq rfl
  case hloc => exact locs rfl
  case c1 => rfl
  case c2 => rfl
  case c3 => rfl
  case c4 => decide
  intro g' L' s' H'
  replace H' : AtL w O g' L' [("parts", .ref pt), ("self", .ref a)] _ s' := H'
  walk_at "go"
  · exfalso; rename_i h; rw [length_tt] at h; omega
  · rename At _ _ _ _ _ _ _ _ _ _ _ => H1
    have RT := RoomTo.none I hps
    obtain ⟨X1, hX⟩ : ∃ X1, X1 = X := ⟨X, rfl⟩
    rw [← hX] at H1
    replace RT : RoomTo X X1 ps := by rw [hX]; exact RT
    have hXX : X1.cs = X.cs ∧ X1.next = X.next := by rw [hX]; exact ⟨rfl, rfl⟩
    clear hX
    walk_at "go"
    have hnew : X1.next ∉ keys X1.cs := fun h => absurd (RT.inv.nxt _ h) (Int.lt_irrefl _)
    have hnewy : X1.next ∉ X1.ys := fun h => hnew (RT.inv.ysub _ h)
    have y1 := nodup_len (nd_ys H1) RT.inv.ysub
    rw [length_keys] at y1
    have c1 : X1.cs.length ≤ X.cs.length := by
      have n1 := nd_cs H1
      have := nodup_len n1 (m := keys X.cs) fun x hx => by
        obtain ⟨q, hq, rfl⟩ := key_cell hx
        exact mem_keys (RT.sub q hq)
      rwa [length_keys, length_keys] at this
    have hp1 : (pt, Sp.ints ps) ∈ rowsL X1.rows ++ (cellsL X1.cs ++ rest) := List.mem_append_right _ (List.mem_append_right _ hp)
    walk_at "go"
    rename_i D _ _ _ _ _ _ _ _ sF HF
    rw [stored_new hnew, stored_tt hnewy] at HF
    obtain ⟨T, HG⟩ : ∃ T, AtL w O g' L' [] ((D, .ints ps) :: (a, .inst 126 X1.d) :: (X1.d, .attrs (putA "next_number" (.int (X1.next + 1) T) X1.attrs)) :: (X1.c, .idict (cd X1.cs ++ [(X1.next, .ref D)])) :: (X1.y, .idict (tt (X1.ys ++ [X1.next]))) :: (X1.r, .idict (tt X1.rs)) :: (X1.ro, .refs (X1.rows.map (·.1))) :: (rowsL X1.rows ++ (cellsL X1.cs ++ rest))) sF := ⟨_, HF.loc LSub.nil⟩
    refine back (HG.sub (σ' := (a, .inst 126 X1.d) :: (X1.d, .attrs (putA "next_number" (.int (X1.next + 1) T) X1.attrs)) :: (X1.c, .idict (cd (X1.cs ++ [(X1.next, D, ps)]))) :: (X1.y, .idict (tt (X1.ys ++ [X1.next]))) :: (X1.r, .idict (tt X1.rs)) :: (X1.ro, .refs (X1.rows.map (·.1))) :: (rowsL X1.rows ++ (cellsL (X1.cs ++ [(X1.next, D, ps)]) ++ rest))) (by
      rw [cellsL_snoc, cd_snoc]
      walk_at "sub")) fun HB => ⟨⟨_, by rw [← RT.next]⟩, { X1 with next := X1.next + 1, t3 := T, cs := X1.cs ++ [(X1.next, D, ps)], ys := X1.ys ++ [X1.next] }, D, HB, ⟨RT.inv.alloc RT.psub hz (by omega), RT.rows, RT.young, RT.old, by rw [← RT.next], X1, D, RT, by rw [← RT.next]⟩, by rw [← hXX.1, ← hXX.2]⟩

set_option maxHeartbeats 12000000 in
theorem c_law2 {sc : Addr} {vs : List Value} {ns : List Int} (ok : Ok A 20) (S0 : Stat (Mine.hd.heap_39 w.params) Mine.hd.view_39 (looseW Mine.hd.view_39 []) s.heap) (hg0 : s.gens = #[]) (hsc : s.heap.IsList sc vs.toArray) (hi : IntsAre vs ns) (hz0 : ns.length < 9000000) :
    codeAny (model PP w) A (.call (.ref 175) ⟨[.ref sc], []⟩) (Ret fun v s' => v = .bool true ∧ ∃ L ρ σ', AtL w s.os s.heap L ρ σ' s') s := by
  have hh := ok.hh
  generalize hO : s.os = O
  generalize hgg : s.heap = g'
  refine' call_topC (binds := [("script", .ref sc)]) S0 hg0 ?ho ?hcd (ok_room ok) ?hbind ?hkind ?hnd ?_ ?c1 ?c2 ?c3
  case ho => k_is
  case hcd => k_is
  case hbind => exact BindsTo.of_eq rfl
  case hkind => intro n x hx; simp only [List.mem_cons, List.not_mem_nil, or_false] at hx; rcases hx with rfl <;> first | exact .inl rfl | exact .inr ⟨rfl, rfl⟩
  case hnd => decide
  case c1 => rfl
  case c2 => rfl
  case c3 => rfl
  intro L' s' H'
  rw [hO, hgg] at H'
  have hsc' : g'.IsList sc vs.toArray := hgg ▸ hsc
  replace H' : AtL w O g' L' [("script", .ref sc)] [((L' : Nat) + 1 + 1 + 1 + 1, .cell none), ((L' : Nat) + 1 + 1 + 1, .cell none), ((L' : Nat) + 1 + 1, .cell none), ((L' : Nat) + 1, .cell none)] s' := H'
  walk_at "go"
  refine use_call (c_pile (Ok.mono (ok.deeper _) (by decide)) H' hsc' hi hz0) ?_
  rintro _ s2 ⟨gt, got, rfl, hgot, H2⟩
  walk_at "go"
  rename At _ _ _ _ _ _ _ _ _ _ _ => H5
  refine r_make (C := 126) (fI := 60) (by first | exact H5 | exact H5.toks | exact H5.toks.toks) (.head _) (by k_is) (by k_is) (by k_is) ?_
  intro a d1 s6 H6
  refine ret_mono (c_init (ok_make (Ok.mono (ok.deeper _) (by decide) : Ok _ (1 + 1))) H6) ?_
  rintro v s7 ⟨rfl, X, H7, N1⟩
  refine ⟨rfl, ?_⟩
  walk_at "go"
  rename At _ _ _ _ _ _ _ _ _ _ _ => HB
  rename_i rt _ _ _ _ md _ _ _
  replace HB := ((HB.loc (ρ' := [("made", .ref md), ("roots", .ref rt)]) (by walk_at "lsub")).sub (σ' := (rt, .ints []) :: (gt, .ints got) :: (md, .ints []) :: ((L' : Nat) + 1 + 1 + 1 + 1, .cell (none)) :: ((L' : Nat) + 1 + 1 + 1, .cell (none)) :: ((L' : Nat) + 1 + 1, .cell (some (.ref a))) :: ((L' : Nat) + 1, .cell (some (.ref gt))) ::  arL a X []) (by walk_at "sub")).recast (sp' := .refs []) .head nil_refs
  replace HB := HB.sub (σ' := ((gt, .ints (got)) :: (md, .ints ([])) :: (rt, .refs ((([] : List (Addr × List Int))).map (·.1))) :: ((L' : Nat) + 1 + 1 + 1 + 1, .cell (none)) :: ((L' : Nat) + 1 + 1 + 1, .cell (none)) :: ((L' : Nat) + 1 + 1, .cell (some (.ref a))) :: ((L' : Nat) + 1, .cell (some (.ref gt))) :: (rowsL (([] : List (Addr × List Int))) ++ arL a (X) ([])))) (by rw [List.map_nil, show rowsL ([] : List (Addr × List Int)) = ([] : Ledger) from rfl, List.nil_append]; walk_at "sub")
  refine use_call (c_chip (got := got) (most := 12) (Ok.mono (ok.deeper _) (by decide)) (by first | exact HB | exact HB.toks) (by omega) (by decide)) ?_
  rintro _ s8 ⟨r, t1, got1, rfl, g0, g1, glen, HC⟩
  obtain ⟨n, rfl⟩ := Int.eq_ofNat_of_zero_le g0
  walk_at "go"
  rename At _ _ _ _ _ _ _ _ _ _ _ => HD
  rename_i R u1 u2 u3 _
  refine for_range HD (by omega) hh (fun i (ρ' : Locs) (σ' : Ledger) => ρ' = ([("made", .ref md), ("roots", .ref rt)] : Locs) ∧ ∃ got mk Rl vt X, σ' = ((gt, .ints (got)) :: (md, .ints (mk)) :: (rt, .refs ((Rl).map (·.1))) :: ((L' : Nat) + 1 + 1 + 1 + 1, .cell (none)) :: ((L' : Nat) + 1 + 1 + 1, .cell (vt)) :: ((L' : Nat) + 1 + 1, .cell (some (.ref a))) :: ((L' : Nat) + 1, .cell (some (.ref gt))) :: (rowsL (Rl) ++ arL a (X) ([]))) ∧ got.length < 300 ∧ Built X mk Rl i i) ⟨rfl, got1, [], [], none, X, rfl, by omega, Built.init N1⟩ ?_ ?_
  · as_aux_lemma =>
    rintro it i ρ' σ' s3 tk hi ⟨rfl, got, mk, Rl, vt, X, rfl, hgot, B⟩ H3
    refine sealQ ?_
    intro T hT
    have hi12 : i < 12 := by omega
    have b1 := B.len
    have b2 := B.mlen
    have b3 := B.rlen
    replace H3 := H3.sub (σ' := ((gt, .ints (got)) :: (md, .ints (mk)) :: (rt, .refs ((Rl).map (·.1))) :: ((L' : Nat) + 1 + 1 + 1 + 1, .cell (none)) :: ((L' : Nat) + 1 + 1 + 1, .cell (vt)) :: ((L' : Nat) + 1 + 1, .cell (some (.ref a))) :: ((L' : Nat) + 1, .cell (some (.ref gt))) :: (rowsL (Rl) ++ arL a (X) (((it, rangeIt n (i + 1)) :: []))))) (by walk_at "sub")
    refine cutQ (fun s' => ∃ TH th, AtL w O g' L' (("step", .int (i : Int) tk) :: [("made", .ref md), ("roots", .ref rt)]) ((TH, .ints th) :: ((gt, .ints (got)) :: (md, .ints (mk)) :: (rt, .refs ((Rl).map (·.1))) :: ((L' : Nat) + 1 + 1 + 1 + 1, .cell (none)) :: ((L' : Nat) + 1 + 1 + 1, .cell (some (.ref TH))) :: ((L' : Nat) + 1 + 1, .cell (some (.ref a))) :: ((L' : Nat) + 1, .cell (some (.ref gt))) :: (rowsL (Rl) ++ arL a (X) (((it, rangeIt n (i + 1)) :: []))))) s' ∧ th.length ≤ 12 ∧ ∀ x ∈ th, x ∈ keys X.cs) ?_ ?_
    · as_aux_lemma =>
      intro Z hZ
      walk_at "go"
      refine comp_eval (cl := [("arena", (L' : Nat) + 1 + 1)]) (by with_unfolding_all rfl) ?_
      walk_at "go"
      refine comp_ints H3 (by walk_at "mem") hh (.ints []) (fun _ h => h) (fun D k (ρ' : Locs) (σ' : Ledger) => ρ' = (("step", .int (i : Int) tk) :: [("made", .ref md), ("roots", .ref rt)] : Locs) ∧ ∃ th, σ' = (D, .ints th) :: ((gt, .ints (got)) :: (md, .ints (mk)) :: (rt, .refs ((Rl).map (·.1))) :: ((L' : Nat) + 1 + 1 + 1 + 1, .cell (none)) :: ((L' : Nat) + 1 + 1 + 1, .cell (vt)) :: ((L' : Nat) + 1 + 1, .cell (some (.ref a))) :: ((L' : Nat) + 1, .cell (some (.ref gt))) :: (rowsL (Rl) ++ arL a (X) (((it, rangeIt n (i + 1)) :: [])))) ∧ th.length ≤ k ∧ ∀ x ∈ th, x ∈ keys X.cs) (fun D => ⟨rfl, [], rfl, Nat.le_refl _, fun _ h => nomatch h⟩) ?_ ?_ ?_
      · rintro D k ρ' σ' ⟨rfl, th, rfl, _⟩; walk_at "mem"
      · rintro it2 C D k ρ' σ' kvs s4 tk2 hk ⟨rfl, th, rfl, lth, hth⟩ H4
        refine wpAny_tests_one ?_
        have lz : th.length < 9000000 := by omega
        walk_at "go"
        · rename Option.isSome _ = _ => hin
          have hin' : mk[k] ∈ keys X.cs := by simpa [valueAt_cd_isSome] using hin
          rename At _ _ _ _ _ _ _ _ _ _ _ => H5
          refine hold ⟨_, _, _, by first | exact H5 | exact H5.toks, rfl, _, rfl, by rw [List.length_append]; exact Nat.succ_le_succ lth, fun x hx => ?_⟩
          rcases List.mem_append.mp hx with hx | hx
          · exact hth x hx
          · rw [List.mem_singleton.mp hx]; exact hin'
        · rename At _ _ _ _ _ _ _ _ _ _ _ => H5
          exact hold ⟨_, _, _, by first | exact H5 | exact H5.toks, rfl, th, rfl, by omega, hth⟩
      · rintro C D ρ' σ' kvs s4 ⟨rfl, th, rfl, lth, hth⟩ H4
        refine compPost_none H4 fun s5 H5 => ?_
        walk_at "go"
        rename At _ _ _ _ _ _ _ _ _ _ _ => H6
        exact hZ _ ⟨D, th, H6, by omega, hth⟩
    clear H3
    rintro s4 ⟨TH, th, H4, lth, hth⟩
    refine cutQ (fun s' => ∃ got P ps, AtL w O g' L' (("parts", .ref P) :: ("step", .int (i : Int) tk) :: [("made", .ref md), ("roots", .ref rt)]) ((P, .ints ps) :: (TH, .ints th) :: ((gt, .ints (got)) :: (md, .ints (mk)) :: (rt, .refs ((Rl).map (·.1))) :: ((L' : Nat) + 1 + 1 + 1 + 1, .cell (none)) :: ((L' : Nat) + 1 + 1 + 1, .cell (some (.ref TH))) :: ((L' : Nat) + 1 + 1, .cell (some (.ref a))) :: ((L' : Nat) + 1, .cell (some (.ref gt))) :: (rowsL (Rl) ++ arL a (X) (((it, rangeIt n (i + 1)) :: []))))) s' ∧ got.length < 300 ∧ ps.length ≤ 2 ∧ ∀ x ∈ ps, x ∈ th) ?_ ?_
    · as_aux_lemma =>
      intro Z hZ
      have lth9 : th.length < 9000000 := by omega
      walk_at "go"
      · rename At _ _ _ _ _ _ _ _ _ _ _ => H5
        rename_i E _ _ _
        exact hZ _ ⟨got, E, [], H5.sub (by walk_at "sub"), hgot, by simp, fun _ h => nomatch h⟩
      · rename_i hne
        have hne' : th ≠ [] := of_decide_eq_false hne
        have hpos : 0 < th.length := List.length_pos_iff.mpr hne'
        rename At _ _ _ _ _ _ _ _ _ _ _ => H5
        refine comp_eval (cl := [("there", (L' : Nat) + 1 + 1 + 1), ("chips", (L' : Nat) + 1)]) (by with_unfolding_all rfl) ?_
        walk_at "go"
        replace H5 := H5.sub (σ' := (gt, .ints got) :: (TH, .ints th) :: (md, .ints (mk)) :: (rt, .refs ((Rl).map (·.1))) :: ((L' : Nat) + 1 + 1 + 1 + 1, .cell (none)) :: ((L' : Nat) + 1 + 1 + 1, .cell (some (.ref TH))) :: ((L' : Nat) + 1 + 1, .cell (some (.ref a))) :: ((L' : Nat) + 1, .cell (some (.ref gt))) :: (rowsL (Rl) ++ arL a (X) (((it, rangeIt n (i + 1)) :: [])))) (by walk_at "sub")
        refine use_call (c_chip (got := got) (most := 3) (Ok.mono (ok.deeper _) (by decide)) (by first | exact H5 | exact H5.toks) (by omega) (by decide)) ?_
        rintro _ s6 ⟨r, t6, got6, rfl, d0, d1, dlen, H6⟩
        obtain ⟨m, rfl⟩ := Int.eq_ofNat_of_zero_le d0
        walk_at "go"
        rename At _ _ _ _ _ _ _ _ _ _ _ => H7
        rename_i R9 w1 w2 w3 _
        replace H7 := H7.sub (σ' := (R9, .obj { cls := .type "range", data := .fields #[.int 0 w1, .int (m : Int) w2, .int 1 w3] }) :: (TH, .ints th) :: ((gt, .ints (got6)) :: (md, .ints (mk)) :: (rt, .refs ((Rl).map (·.1))) :: ((L' : Nat) + 1 + 1 + 1 + 1, .cell (none)) :: ((L' : Nat) + 1 + 1 + 1, .cell (some (.ref TH))) :: ((L' : Nat) + 1 + 1, .cell (some (.ref a))) :: ((L' : Nat) + 1, .cell (some (.ref gt))) :: (rowsL (Rl) ++ arL a (X) (((it, rangeIt n (i + 1)) :: []))))) (by walk_at "sub")
        refine comp_range H7 (by omega) hh (.ints []) (fun _ h => h) (fun D k (ρ' : Locs) (σ' : Ledger) => ρ' = (("step", .int (i : Int) tk) :: [("made", .ref md), ("roots", .ref rt)] : Locs) ∧ ∃ got7 ps, σ' = (D, .ints ps) :: (TH, .ints th) :: ((gt, .ints (got7)) :: (md, .ints (mk)) :: (rt, .refs ((Rl).map (·.1))) :: ((L' : Nat) + 1 + 1 + 1 + 1, .cell (none)) :: ((L' : Nat) + 1 + 1 + 1, .cell (some (.ref TH))) :: ((L' : Nat) + 1 + 1, .cell (some (.ref a))) :: ((L' : Nat) + 1, .cell (some (.ref gt))) :: (rowsL (Rl) ++ arL a (X) (((it, rangeIt n (i + 1)) :: [])))) ∧ got7.length < 300 ∧ ps.length ≤ k ∧ ∀ x ∈ ps, x ∈ th) (fun D => ⟨rfl, got6, [], rfl, by omega, Nat.le_refl _, fun _ h => nomatch h⟩) ?_ ?_
        · rintro it2 C D k ρ' σ' kvs s9 t9 hk ⟨rfl, got7, ps, rfl, hg7, lps, hps⟩ H9
          have lz : ps.length < 9000000 := by omega
          have lth8 : (th).length < 9000000 := by omega
          refine wpAny_tests_nil ?_
          walk_at "go"
          rename At _ _ _ _ _ _ _ _ _ _ _ => HA
          replace HA := HA.sub (σ' := (gt, .ints got7) :: (C, .nsp (("at", .int (k : Int) t9) :: kvs)) :: (it2, rangeIt m (k + 1)) :: (D, .ints ps) :: (TH, .ints th) :: (md, .ints (mk)) :: (rt, .refs ((Rl).map (·.1))) :: ((L' : Nat) + 1 + 1 + 1 + 1, .cell (none)) :: ((L' : Nat) + 1 + 1 + 1, .cell (some (.ref TH))) :: ((L' : Nat) + 1 + 1, .cell (some (.ref a))) :: ((L' : Nat) + 1, .cell (some (.ref gt))) :: (rowsL (Rl) ++ arL a (X) (((it, rangeIt n (i + 1)) :: [])))) (by walk_at "sub")
          refine use_call (c_chip (got := got7) (most := ((th).length : Int)) (Ok.mono (ok.deeper _) (by decide)) (by first | exact HA | exact HA.toks) (by omega) (by omega)) ?_
          rintro _ sB ⟨r, tB, got8, rfl, e0, e1, elen, HB⟩
          refine' r_item_ints (ns := th) HB ?mm e0 e1 lth8 ?_
          case mm => walk_at "mem"
          intro tC
          walk_at "go"
          rename At _ _ _ _ _ _ _ _ _ _ _ => HC
          refine hold ⟨("at", .int (k : Int) t9) :: kvs, _, _, HC.sub (σ' := (C, .nsp (("at", .int (k : Int) t9) :: kvs)) :: (it2, rangeIt m (k + 1)) :: (D, .ints (ps ++ [(th).getD r.toNat 0])) :: (TH, .ints th) :: ((gt, .ints (got8)) :: (md, .ints (mk)) :: (rt, .refs ((Rl).map (·.1))) :: ((L' : Nat) + 1 + 1 + 1 + 1, .cell (none)) :: ((L' : Nat) + 1 + 1 + 1, .cell (some (.ref TH))) :: ((L' : Nat) + 1 + 1, .cell (some (.ref a))) :: ((L' : Nat) + 1, .cell (some (.ref gt))) :: (rowsL (Rl) ++ arL a (X) (((it, rangeIt n (i + 1)) :: []))))) (by walk_at "sub"), rfl, got8, _, rfl, by omega, by rw [List.length_append]; exact Nat.succ_le_succ lps, fun x hx => ?_⟩
          rcases List.mem_append.mp hx with hx | hx
          · exact hps x hx
          · rw [List.mem_singleton.mp hx, List.getD_eq_getElem?_getD, List.getElem?_eq_getElem (by omega)]; exact List.getElem_mem _
        · rintro C D ρ' σ' kvs s9 ⟨rfl, got7, ps, rfl, hg7, lps, hps⟩ H9
          refine compPost_none H9 fun sA HA => ?_
          walk_at "go"
          rename At _ _ _ _ _ _ _ _ _ _ _ => HB
          exact hZ _ ⟨got7, D, ps, HB, hg7, by omega, hps⟩
    clear H4
    clear hgot got
    rintro s5 ⟨got, P, ps, H5, hgot, lps, hps⟩
    refine cutQ (fun s' => ∃ X', AtL w O g' L' (("step", .int (i : Int) tk) :: [("made", .ref md), ("roots", .ref rt)]) ((TH, .ints th) :: ((gt, .ints (got)) :: (md, .ints (mk ++ [X.next])) :: (rt, .refs ((Rl).map (·.1))) :: ((L' : Nat) + 1 + 1 + 1 + 1, .cell (none)) :: ((L' : Nat) + 1 + 1 + 1, .cell (some (.ref TH))) :: ((L' : Nat) + 1 + 1, .cell (some (.ref a))) :: ((L' : Nat) + 1, .cell (some (.ref gt))) :: (rowsL (Rl) ++ arL a (X') (((it, rangeIt n (i + 1)) :: []))))) s' ∧ Built X' (mk ++ [X.next]) Rl (i + 1) i ∧ (∀ x ∈ th, x ∈ keys X'.cs) ∧ X.next ∈ keys X'.cs) ?_ ?_
    · as_aux_lemma =>
      intro Z hZ
      have lmk9 : mk.length < 9000000 := by omega
      have ly := nodup_len (nd_ys (H5.sub (σ' := arL a X []) (by walk_at "sub"))) B.inv.ysub
      rw [length_keys] at ly
      have yng := B.young
      walk_at "go"
      replace H5 := H5.sub (σ' := arL a X ((P, .ints ps) :: (TH, .ints th) :: ((gt, .ints (got)) :: (md, .ints (mk)) :: (rt, .refs ((Rl).map (·.1))) :: ((L' : Nat) + 1 + 1 + 1 + 1, .cell (none)) :: ((L' : Nat) + 1 + 1 + 1, .cell (some (.ref TH))) :: ((L' : Nat) + 1 + 1, .cell (some (.ref a))) :: ((L' : Nat) + 1, .cell (some (.ref gt))) :: (rowsL (Rl) ++ (((it, rangeIt n (i + 1)) :: [])))))) (by walk_at "sub")
      refine use_call (c_alloc2 (ps := ps) (X := X) (Ok.mono (ok.deeper _) (by decide)) (by first | exact H5 | exact H5.toks) B.inv (by walk_at "mem") (fun x hx => hth x (hps x hx)) (by omega) (by omega) (by omega)) ?_
      rintro _ s6 ⟨⟨t, rfl⟩, X', D, H6, AT, hcs⟩
      walk_at "go"
      rename At _ _ _ _ _ _ _ _ _ _ _ => H7
      exact hZ _ ⟨X', (H7.loc (ρ' := ("step", .int (i : Int) tk) :: [("made", .ref md), ("roots", .ref rt)]) (by walk_at "lsub")).sub (by walk_at "sub"), B.alloc AT (nd_cs H6), fun x hx => by rw [hcs, keys_snoc]; exact List.mem_append_left _ (hth x hx), AT.keys.1⟩
    rintro s6 ⟨X', H6, B', hth', hnx⟩
    refine cutQ (fun s' => AtL w O g' L' (("step", .int (i : Int) tk) :: [("made", .ref md), ("roots", .ref rt)]) ((TH, .ints (th ++ [X.next])) :: ((gt, .ints (got)) :: (md, .ints (mk ++ [X.next])) :: (rt, .refs ((Rl).map (·.1))) :: ((L' : Nat) + 1 + 1 + 1 + 1, .cell (none)) :: ((L' : Nat) + 1 + 1 + 1, .cell (some (.ref TH))) :: ((L' : Nat) + 1 + 1, .cell (some (.ref a))) :: ((L' : Nat) + 1, .cell (some (.ref gt))) :: (rowsL (Rl) ++ arL a (X') (((it, rangeIt n (i + 1)) :: []))))) s') ?_ ?_
    · as_aux_lemma =>
      intro Z hZ
      have lth9 : th.length < 9000000 := by omega
      walk_at "go"
      rename At _ _ _ _ _ _ _ _ _ _ _ => H7
      exact hZ _ H7
    clear H6 H5
    intro s7 H7
    refine cutQ (fun s' => ∃ dv td got, AtL w O g' L' (("deed", .int dv td) :: ("step", .int (i : Int) tk) :: [("made", .ref md), ("roots", .ref rt)]) ((TH, .ints (th ++ [X.next])) :: ((gt, .ints (got)) :: (md, .ints (mk ++ [X.next])) :: (rt, .refs ((Rl).map (·.1))) :: ((L' : Nat) + 1 + 1 + 1 + 1, .cell (none)) :: ((L' : Nat) + 1 + 1 + 1, .cell (some (.ref TH))) :: ((L' : Nat) + 1 + 1, .cell (some (.ref a))) :: ((L' : Nat) + 1, .cell (some (.ref gt))) :: (rowsL (Rl) ++ arL a (X') (((it, rangeIt n (i + 1)) :: []))))) s' ∧ got.length < 300) ?_ ?_
    · as_aux_lemma =>
      intro Z hZ
      walk_at "go"
      replace H7 := H7.sub (σ' := (gt, .ints got) :: (TH, .ints (th ++ [X.next])) :: (md, .ints (mk ++ [X.next])) :: (rt, .refs ((Rl).map (·.1))) :: ((L' : Nat) + 1 + 1 + 1 + 1, .cell (none)) :: ((L' : Nat) + 1 + 1 + 1, .cell (some (.ref TH))) :: ((L' : Nat) + 1 + 1, .cell (some (.ref a))) :: ((L' : Nat) + 1, .cell (some (.ref gt))) :: (rowsL (Rl) ++ arL a (X') (((it, rangeIt n (i + 1)) :: [])))) (by walk_at "sub")
      refine use_call (c_chip (got := got) (most := 5) (Ok.mono (ok.deeper _) (by decide)) (by first | exact H7 | exact H7.toks) (by omega) (by decide)) ?_
      rintro _ s8 ⟨r, t6, got6, rfl, d0, d1, dlen, H8⟩
      walk_at "go"
      rename At _ _ _ _ _ _ _ _ _ _ _ => H9
      exact hZ _ ⟨r, t6, got6, H9.sub (by walk_at "sub"), by omega⟩
    clear H7
    clear hgot got
    rintro s8 ⟨dv, td, got, H8, hgot⟩
    have lt2 : (th ++ [X.next]).length ≤ 13 := by rw [List.length_append, List.length_singleton]; omega
    have ht2 : ∀ x ∈ th ++ [X.next], x ∈ keys X'.cs := fun x hx => by
      rcases List.mem_append.mp hx with hx | hx
      · exact hth' x hx
      · rw [List.mem_singleton.mp hx]; exact hnx
    have hpos2 : 0 < (th ++ [X.next]).length := by rw [List.length_append, List.length_singleton]; exact Nat.succ_pos _
    generalize th ++ [X.next] = th2 at H8 lt2 ht2 hpos2
    have ndX : (keys X'.cs).Nodup := nd_cs (H8.sub (σ' := arL a X' []) (by walk_at "sub"))
    have c1 := B'.len
    have c3 := B'.rlen
    walk_at "go"
    · refine comp_assign (by with_unfolding_all rfl) (cl := [("there", (L' : Nat) + 1 + 1 + 1), ("chips", (L' : Nat) + 1)]) (by with_unfolding_all rfl) ?_
      walk_at "go"
      replace H8 := (H8.loc (ρ' := ("step", .int (i : Int) tk) :: [("made", .ref md), ("roots", .ref rt)]) (by walk_at "lsub")).sub (σ' := (gt, .ints got) :: (TH, .ints th2) :: (md, .ints (mk ++ [X.next])) :: (rt, .refs ((Rl).map (·.1))) :: ((L' : Nat) + 1 + 1 + 1 + 1, .cell (none)) :: ((L' : Nat) + 1 + 1 + 1, .cell (some (.ref TH))) :: ((L' : Nat) + 1 + 1, .cell (some (.ref a))) :: ((L' : Nat) + 1, .cell (some (.ref gt))) :: (rowsL (Rl) ++ arL a (X') (((it, rangeIt n (i + 1)) :: [])))) (by walk_at "sub")
      refine use_call (c_chip (got := got) (most := 3) (Ok.mono (ok.deeper _) (by decide)) (by first | exact H8 | exact H8.toks) (by omega) (by decide)) ?_
      rintro _ s9 ⟨r, t6, got6, rfl, d0, d1, dlen, H9⟩
      obtain ⟨m, rfl⟩ := Int.eq_ofNat_of_zero_le d0
      walk_at "go"
      rename At _ _ _ _ _ _ _ _ _ _ _ => H7
      rename_i R9 w1 w2 w3 _
      replace H7 := H7.sub (σ' := (R9, .obj { cls := .type "range", data := .fields #[.int 0 w1, .int (m : Int) w2, .int 1 w3] }) :: (TH, .ints th2) :: ((gt, .ints (got6)) :: (md, .ints (mk ++ [X.next])) :: (rt, .refs ((Rl).map (·.1))) :: ((L' : Nat) + 1 + 1 + 1 + 1, .cell (none)) :: ((L' : Nat) + 1 + 1 + 1, .cell (some (.ref TH))) :: ((L' : Nat) + 1 + 1, .cell (some (.ref a))) :: ((L' : Nat) + 1, .cell (some (.ref gt))) :: (rowsL (Rl) ++ arL a (X') (((it, rangeIt n (i + 1)) :: []))))) (by walk_at "sub")
      refine comp_range H7 (by omega) hh (.ints []) (fun _ h => h) (fun D k (ρ' : Locs) (σ' : Ledger) => ρ' = (("step", .int (i : Int) tk) :: [("made", .ref md), ("roots", .ref rt)] : Locs) ∧ ∃ got7 ps, σ' = (D, .ints ps) :: (TH, .ints th2) :: ((gt, .ints (got7)) :: (md, .ints (mk ++ [X.next])) :: (rt, .refs ((Rl).map (·.1))) :: ((L' : Nat) + 1 + 1 + 1 + 1, .cell (none)) :: ((L' : Nat) + 1 + 1 + 1, .cell (some (.ref TH))) :: ((L' : Nat) + 1 + 1, .cell (some (.ref a))) :: ((L' : Nat) + 1, .cell (some (.ref gt))) :: (rowsL (Rl) ++ arL a (X') (((it, rangeIt n (i + 1)) :: [])))) ∧ got7.length < 300 ∧ ps.length ≤ k ∧ ∀ x ∈ ps, x ∈ th2) (fun D => ⟨rfl, got6, [], rfl, by omega, Nat.le_refl _, fun _ h => nomatch h⟩) ?_ ?_
      · rintro it2 C D k ρ' σ' kvs s9 t9 hk ⟨rfl, got7, ps, rfl, hg7, lps, hps⟩ H9
        have lz : ps.length < 9000000 := by omega
        have lth8 : (th2).length < 9000000 := by omega
        refine wpAny_tests_nil ?_
        walk_at "go"
        rename At _ _ _ _ _ _ _ _ _ _ _ => HA
        replace HA := HA.sub (σ' := (gt, .ints got7) :: (C, .nsp (("at", .int (k : Int) t9) :: kvs)) :: (it2, rangeIt m (k + 1)) :: (D, .ints ps) :: (TH, .ints th2) :: (md, .ints (mk ++ [X.next])) :: (rt, .refs ((Rl).map (·.1))) :: ((L' : Nat) + 1 + 1 + 1 + 1, .cell (none)) :: ((L' : Nat) + 1 + 1 + 1, .cell (some (.ref TH))) :: ((L' : Nat) + 1 + 1, .cell (some (.ref a))) :: ((L' : Nat) + 1, .cell (some (.ref gt))) :: (rowsL (Rl) ++ arL a (X') (((it, rangeIt n (i + 1)) :: [])))) (by walk_at "sub")
        refine use_call (c_chip (got := got7) (most := ((th2).length : Int)) (Ok.mono (ok.deeper _) (by decide)) (by first | exact HA | exact HA.toks) (by omega) (by omega)) ?_
        rintro _ sB ⟨r, tB, got8, rfl, e0, e1, elen, HB⟩
        refine' r_item_ints (ns := th2) HB ?mm e0 e1 lth8 ?_
        case mm => walk_at "mem"
        intro tC
        walk_at "go"
        rename At _ _ _ _ _ _ _ _ _ _ _ => HC
        refine hold ⟨("at", .int (k : Int) t9) :: kvs, _, _, HC.sub (σ' := (C, .nsp (("at", .int (k : Int) t9) :: kvs)) :: (it2, rangeIt m (k + 1)) :: (D, .ints (ps ++ [(th2).getD r.toNat 0])) :: (TH, .ints th2) :: ((gt, .ints (got8)) :: (md, .ints (mk ++ [X.next])) :: (rt, .refs ((Rl).map (·.1))) :: ((L' : Nat) + 1 + 1 + 1 + 1, .cell (none)) :: ((L' : Nat) + 1 + 1 + 1, .cell (some (.ref TH))) :: ((L' : Nat) + 1 + 1, .cell (some (.ref a))) :: ((L' : Nat) + 1, .cell (some (.ref gt))) :: (rowsL (Rl) ++ arL a (X') (((it, rangeIt n (i + 1)) :: []))))) (by walk_at "sub"), rfl, got8, _, rfl, by omega, by rw [List.length_append]; exact Nat.succ_le_succ lps, fun x hx => ?_⟩
        rcases List.mem_append.mp hx with hx | hx
        · exact hps x hx
        · rw [List.mem_singleton.mp hx, List.getD_eq_getElem?_getD, List.getElem?_eq_getElem (by omega)]; exact List.getElem_mem _
      · rintro C D ρ' σ' kvs s9 ⟨rfl, got7, ps, rfl, hg7, lps, hps⟩ H9
        refine compPost_st H9 ?_
        walk_at "one"
        rename At _ _ _ _ _ _ _ _ _ _ _ => HA
        refine ⟨_, _, _, HA, fun sB HB => ?_⟩
        walk_at "go"
        replace HB := HB.sub (σ' := arL a X' ((D, .ints ps) :: (TH, .ints th2) :: ((gt, .ints (got7)) :: (md, .ints (mk ++ [X.next])) :: (rt, .refs ((Rl).map (·.1))) :: ((L' : Nat) + 1 + 1 + 1 + 1, .cell (none)) :: ((L' : Nat) + 1 + 1 + 1, .cell (some (.ref TH))) :: ((L' : Nat) + 1 + 1, .cell (some (.ref a))) :: ((L' : Nat) + 1, .cell (some (.ref gt))) :: (rowsL (Rl) ++ (((it, rangeIt n (i + 1)) :: [])))))) (by walk_at "sub")
        refine use_call (c_push (ps := ps) (X := X') (Ok.mono (ok.deeper _) (by decide)) (by first | exact HB | exact HB.toks) B'.inv (by walk_at "mem") (by omega)) ?_
        rintro _ sC ⟨pa, rfl, HC⟩
        walk_at "go"
        rename At _ _ _ _ _ _ _ _ _ _ _ => HD
        refine hT .next _ (hold ⟨_, _, (HD.loc (ρ' := [("made", .ref md), ("roots", .ref rt)]) (by walk_at "lsub")).sub (σ' := (it, rangeIt n (i + 1)) :: (gt, .ints got7) :: (md, .ints (mk ++ [X.next])) :: (rt, .refs (Rl.map (·.1) ++ [D])) :: ((L' : Nat) + 1 + 1 + 1 + 1, .cell (none)) :: ((L' : Nat) + 1 + 1 + 1, .cell (some (.ref TH))) :: ((L' : Nat) + 1 + 1, .cell (some (.ref a))) :: ((L' : Nat) + 1, .cell (some (.ref gt))) :: (rowsL Rl ++ ((D, .ints ps) :: arL a { X' with rows := X'.rows ++ [(pa, ps)] } []))) (by walk_at "sub"), rfl, got7, mk ++ [X.next], Rl ++ [(D, ps)], some (.ref TH), { X' with rows := X'.rows ++ [(pa, ps)] }, ?_, hg7, B'.push (fun x hx => ht2 x (hps x hx)) (by omega) (by omega)⟩)
        simp only [List.map_append, List.map_cons, List.map_nil, rowsL_snoc, List.append_assoc, List.cons_append, List.nil_append]
    · walk_at "go"
      · refine comp_assign (by with_unfolding_all rfl) (cl := [("arena", (L' : Nat) + 1 + 1)]) (by with_unfolding_all rfl) ?_
        walk_at "go"
        replace H8 := (H8.loc (ρ' := ("step", .int (i : Int) tk) :: [("made", .ref md), ("roots", .ref rt)]) (by walk_at "lsub"))
        refine comp_ints (ns := th2) (by first | exact H8 | exact H8.toks | exact H8.toks.toks) (by walk_at "mem") hh (.ints []) (fun _ h => h) (fun D k (ρ' : Locs) (σ' : Ledger) => ρ' = (("step", .int (i : Int) tk) :: [("made", .ref md), ("roots", .ref rt)] : Locs) ∧ ∃ fl, σ' = (D, .ints fl) :: (TH, .ints th2) :: ((gt, .ints (got)) :: (md, .ints (mk ++ [X.next])) :: (rt, .refs ((Rl).map (·.1))) :: ((L' : Nat) + 1 + 1 + 1 + 1, .cell (none)) :: ((L' : Nat) + 1 + 1 + 1, .cell (some (.ref TH))) :: ((L' : Nat) + 1 + 1, .cell (some (.ref a))) :: ((L' : Nat) + 1, .cell (some (.ref gt))) :: (rowsL (Rl) ++ arL a (X') (((it, rangeIt n (i + 1)) :: [])))) ∧ fl.length ≤ k ∧ ∀ x ∈ fl, x ∈ th2 ∧ ∀ q ∈ X'.cs, q.1 = x → q.2.2 ≠ []) (fun D => ⟨rfl, [], rfl, Nat.le_refl _, fun _ h => nomatch h⟩) ?_ ?_ ?_
        · rintro D k ρ' σ' ⟨rfl, fl, rfl, _⟩; walk_at "mem"
        · rintro it2 C D k ρ' σ' kvs s9 tk2 hk ⟨rfl, fl, rfl, lfl, hfl⟩ H9
          refine wpAny_tests_one ?_
          obtain ⟨q, hq, hqe⟩ := key_cell (ht2 _ (List.getElem_mem hk))
          have hv := valueAt_cd ndX hq
          rw [hqe] at hv
          have hqm : (q.2.1, Sp.ints q.2.2) ∈ arL a X' ((it, rangeIt n (i + 1)) :: []) := mem_arL_cells hq
          have lz : fl.length < 9000000 := by omega
          walk_at "go"
          · rename At _ _ _ _ _ _ _ _ _ _ _ => HA
            exact hold ⟨_, _, _, HA.drop, rfl, fl, rfl, by omega, hfl⟩
          · rename_i hne
            have hne' : q.2.2 ≠ [] := of_decide_eq_false hne
            walk_at "go"
            rename At _ _ _ _ _ _ _ _ _ _ _ => HA
            refine hold ⟨_, _, _, HA.drop, rfl, _, rfl, by rw [List.length_append]; exact Nat.succ_le_succ lfl, fun x hx => ?_⟩
            rcases List.mem_append.mp hx with hx | hx
            · exact hfl x hx
            · rw [List.mem_singleton.mp hx]
              exact ⟨List.getElem_mem hk, fun q' hq' e' => by rw [cell_uniq ndX hq' hq (e'.trans hqe.symm)]; exact hne'⟩
        · rintro C D ρ' σ' kvs s9 ⟨rfl, fl, rfl, lfl, hfl⟩ H9
          refine compPost_st H9 ?_
          walk_at "one"
          rename At _ _ _ _ _ _ _ _ _ _ _ => HA
          refine ⟨_, _, _, HA, fun sB HB => ?_⟩
          have lfl9 : fl.length < 9000000 := by omega
          walk_at "go"
          · rename At _ _ _ _ _ _ _ _ _ _ _ => HC
            exact hT .next _ (hold ⟨_, _, (HC.loc (ρ' := [("made", .ref md), ("roots", .ref rt)]) (by walk_at "lsub")).sub (σ' := (it, rangeIt n (i + 1)) :: ((gt, .ints (got)) :: (md, .ints (mk ++ [X.next])) :: (rt, .refs ((Rl).map (·.1))) :: ((L' : Nat) + 1 + 1 + 1 + 1, .cell (none)) :: ((L' : Nat) + 1 + 1 + 1, .cell (some (.ref TH))) :: ((L' : Nat) + 1 + 1, .cell (some (.ref a))) :: ((L' : Nat) + 1, .cell (some (.ref gt))) :: (rowsL (Rl) ++ arL a (X') ([])))) (by walk_at "sub"), rfl, got, _, Rl, _, X', rfl, hgot, B'.more (Nat.le_refl _) (by omega)⟩)
          · rename_i hne
            have hne' : fl ≠ [] := of_decide_eq_false hne
            have hpos : 0 < fl.length := List.length_pos_iff.mpr hne'
            walk_at "go"
            rename At _ _ _ _ _ _ _ _ _ _ _ => HC
            replace HC := HC.sub (σ' := (gt, .ints got) :: (D, .ints fl) :: (TH, .ints th2) :: (md, .ints (mk ++ [X.next])) :: (rt, .refs ((Rl).map (·.1))) :: ((L' : Nat) + 1 + 1 + 1 + 1, .cell (none)) :: ((L' : Nat) + 1 + 1 + 1, .cell (some (.ref TH))) :: ((L' : Nat) + 1 + 1, .cell (some (.ref a))) :: ((L' : Nat) + 1, .cell (some (.ref gt))) :: (rowsL (Rl) ++ arL a (X') (((it, rangeIt n (i + 1)) :: [])))) (by walk_at "sub")
            refine use_call (c_chip (got := got) (most := (fl.length : Int)) (Ok.mono (ok.deeper _) (by decide)) (by first | exact HC | exact HC.toks) (by omega) (by omega)) ?_
            rintro _ sD ⟨r, tD, got1, rfl, d0, d1, dlen, HD⟩
            refine' r_item_ints (ns := fl) HD ?mm d0 d1 lfl9 ?_
            case mm => walk_at "mem"
            intro tE
            obtain ⟨f1, f2⟩ := hfl _ (nthD_mem (l := fl) (k := r.toNat) (by omega))
            have f3 := ht2 _ f1
            obtain ⟨q, hq, hqe⟩ := key_cell f3
            have hv := valueAt_cd ndX hq
            rw [hqe] at hv
            have hqm : (q.2.1, Sp.ints q.2.2) ∈ arL a X' ((it, rangeIt n (i + 1)) :: []) := mem_arL_cells hq
            have hq2 : 0 < q.2.2.length := List.length_pos_iff.mpr (f2 q hq hqe)
            have hq3 := B'.inv.z2 q hq
            walk_at "go"
            rename At _ _ _ _ _ _ _ _ _ _ _ => HE
            refine use_call (c_chip (got := got1) (most := (q.2.2.length : Int)) (Ok.mono (ok.deeper _) (by decide)) (by first | exact HE | exact HE.toks) (by omega) (by omega)) ?_
            rintro _ sF ⟨r2, tF, got2, rfl, e0, e1, elen, HF⟩
            obtain ⟨k2, rfl⟩ := Int.eq_ofNat_of_zero_le e0
            have lt9 : th2.length < 9000000 := by omega
            walk_at "go"
            rename At _ _ _ _ _ _ _ _ _ _ _ => HG
            refine use_call (c_chip (got := got2) (most := (th2.length : Int)) (Ok.mono (ok.deeper _) (by decide)) (by first | exact HG | exact HG.toks) (by omega) (by omega)) ?_
            rintro _ sH ⟨r3, tH, got3, rfl, g0, g1, glen3, HH⟩
            refine' r_item_ints (ns := th2) HH ?mm g0 g1 lt9 ?_
            case mm => walk_at "mem"
            intro tI
            have f4 := ht2 _ (nthD_mem (l := th2) (k := r3.toNat) (by omega))
            walk_at "go"
            replace HH := HH.sub (σ' := arL a X' ((D, .ints fl) :: (TH, .ints th2) :: ((gt, .ints (got3)) :: (md, .ints (mk ++ [X.next])) :: (rt, .refs ((Rl).map (·.1))) :: ((L' : Nat) + 1 + 1 + 1 + 1, .cell (none)) :: ((L' : Nat) + 1 + 1 + 1, .cell (some (.ref TH))) :: ((L' : Nat) + 1 + 1, .cell (some (.ref a))) :: ((L' : Nat) + 1, .cell (some (.ref gt))) :: (rowsL (Rl) ++ (((it, rangeIt n (i + 1)) :: [])))))) (by walk_at "sub")
            refine use_call (c_write' (X := X') hqe (Ok.mono (ok.deeper _) (by decide)) (by first | exact HH | exact HH.toks) B'.inv hq (by omega)) ?_
            rintro _ sJ ⟨X2, rfl, HJ, WT⟩
            walk_at "go"
            exact hT .next _ (hold ⟨_, _, (HJ.loc (ρ' := [("made", .ref md), ("roots", .ref rt)]) (by walk_at "lsub")).sub (σ' := (it, rangeIt n (i + 1)) :: ((gt, .ints (got3)) :: (md, .ints (mk ++ [X.next])) :: (rt, .refs ((Rl).map (·.1))) :: ((L' : Nat) + 1 + 1 + 1 + 1, .cell (none)) :: ((L' : Nat) + 1 + 1 + 1, .cell (some (.ref TH))) :: ((L' : Nat) + 1 + 1, .cell (some (.ref a))) :: ((L' : Nat) + 1, .cell (some (.ref gt))) :: (rowsL (Rl) ++ arL a (X2) ([])))) (by walk_at "sub"), rfl, got3, _, Rl, _, X2, rfl, by omega, (B'.write WT f4 f3).more (Nat.le_refl _) (by omega)⟩)
      · walk_at "go"
        · rename At _ _ _ _ _ _ _ _ _ _ _ => HA
          walk_at "go"
          replace HA := HA.sub (σ' := arL a X' ((TH, .ints th2) :: ((gt, .ints (got)) :: (md, .ints (mk ++ [X.next])) :: (rt, .refs ((Rl).map (·.1))) :: ((L' : Nat) + 1 + 1 + 1 + 1, .cell (none)) :: ((L' : Nat) + 1 + 1 + 1, .cell (some (.ref TH))) :: ((L' : Nat) + 1 + 1, .cell (some (.ref a))) :: ((L' : Nat) + 1, .cell (some (.ref gt))) :: (rowsL (Rl) ++ (((it, rangeIt n (i + 1)) :: [])))))) (by walk_at "sub")
          refine use_call (c_minor (X := X') (Ok.mono (ok.deeper _) (by decide)) (by first | exact HA | exact HA.toks) B'.inv) ?_
          rintro _ sB ⟨X2, ks, rfl, HB, MT⟩
          walk_at "go"
          exact hT .next _ (hold ⟨_, _, (HB.loc (ρ' := [("made", .ref md), ("roots", .ref rt)]) (by walk_at "lsub")).sub (σ' := (it, rangeIt n (i + 1)) :: ((gt, .ints (got)) :: (md, .ints (mk ++ [X.next])) :: (rt, .refs ((Rl).map (·.1))) :: ((L' : Nat) + 1 + 1 + 1 + 1, .cell (none)) :: ((L' : Nat) + 1 + 1 + 1, .cell (some (.ref TH))) :: ((L' : Nat) + 1 + 1, .cell (some (.ref a))) :: ((L' : Nat) + 1, .cell (some (.ref gt))) :: (rowsL (Rl) ++ arL a (X2) ([])))) (by walk_at "sub"), rfl, got, _, Rl, _, X2, rfl, hgot, (B'.minor MT).more (Nat.le_refl _) (by omega)⟩)
        · rename At _ _ _ _ _ _ _ _ _ _ _ => HA
          walk_at "go"
          exact hT .next _ (hold ⟨_, _, ((by first | exact HA | exact HA.toks : AtL w O g' L' _ _ _).loc (ρ' := [("made", .ref md), ("roots", .ref rt)]) (by walk_at "lsub")).sub (σ' := (it, rangeIt n (i + 1)) :: ((gt, .ints (got)) :: (md, .ints (mk ++ [X.next])) :: (rt, .refs ((Rl).map (·.1))) :: ((L' : Nat) + 1 + 1 + 1 + 1, .cell (none)) :: ((L' : Nat) + 1 + 1 + 1, .cell (some (.ref TH))) :: ((L' : Nat) + 1 + 1, .cell (some (.ref a))) :: ((L' : Nat) + 1, .cell (some (.ref gt))) :: (rowsL (Rl) ++ arL a (X') ([])))) (by walk_at "sub"), rfl, got, _, Rl, _, X', rfl, hgot, B'.more (Nat.le_refl _) (by omega)⟩)
        · walk_at "go"
          exact hT .next _ (hold ⟨_, _, ((by first | exact H8 | exact H8.toks | exact H8.toks.toks | exact H8.toks.toks.toks : AtL w O g' L' _ _ _).loc (ρ' := [("made", .ref md), ("roots", .ref rt)]) (by walk_at "lsub")).sub (σ' := (it, rangeIt n (i + 1)) :: ((gt, .ints (got)) :: (md, .ints (mk ++ [X.next])) :: (rt, .refs ((Rl).map (·.1))) :: ((L' : Nat) + 1 + 1 + 1 + 1, .cell (none)) :: ((L' : Nat) + 1 + 1 + 1, .cell (some (.ref TH))) :: ((L' : Nat) + 1 + 1, .cell (some (.ref a))) :: ((L' : Nat) + 1, .cell (some (.ref gt))) :: (rowsL (Rl) ++ arL a (X') ([])))) (by walk_at "sub"), rfl, got, _, Rl, _, X', rfl, hgot, B'.more (Nat.le_refl _) (by omega)⟩)
  · as_aux_lemma =>
    rintro ρ' σ' s3 ⟨rfl, got, mk, Rl, vt, X, rfl, hgot, B⟩ H3
    have n12 : n ≤ 11 := by omega
    refine cutQ (fun s' => ∃ mk X, AtL w O g' L' [("made", .ref md), ("roots", .ref rt)] ((gt, .ints (got)) :: (md, .ints (mk)) :: (rt, .refs ((Rl).map (·.1))) :: ((L' : Nat) + 1 + 1 + 1 + 1, .cell (none)) :: ((L' : Nat) + 1 + 1 + 1, .cell (vt)) :: ((L' : Nat) + 1 + 1, .cell (some (.ref a))) :: ((L' : Nat) + 1, .cell (some (.ref gt))) :: (rowsL (Rl) ++ arL a (X) ([]))) s' ∧ Built X mk Rl 13 13) ?_ ?_
    · as_aux_lemma =>
      intro Z hZ
      have ly := nodup_len (nd_ys (H3.sub (σ' := arL a X []) (by walk_at "sub"))) B.inv.ysub
      rw [length_keys] at ly
      have yng := B.young
      have b1 := B.len
      have b2 := B.mlen
      have lmk9 : mk.length < 9000000 := by omega
      walk_at "go"
      · rename At _ _ _ _ _ _ _ _ _ _ _ => H4
        walk_at "go"
        rename At _ _ _ _ _ _ _ _ _ _ _ => H5
        rename_i E2 _
        replace H5 := H5.sub (σ' := arL a X ((E2, .ints []) :: ((gt, .ints (got)) :: (md, .ints (mk)) :: (rt, .refs ((Rl).map (·.1))) :: ((L' : Nat) + 1 + 1 + 1 + 1, .cell (none)) :: ((L' : Nat) + 1 + 1 + 1, .cell (vt)) :: ((L' : Nat) + 1 + 1, .cell (some (.ref a))) :: ((L' : Nat) + 1, .cell (some (.ref gt))) :: (rowsL (Rl) ++ ([]))))) (by walk_at "sub")
        refine use_call (c_alloc2 (ps := []) (X := X) (Ok.mono (ok.deeper _) (by decide)) (by first | exact H5 | exact H5.toks) B.inv (by walk_at "mem") (fun x hx => nomatch hx) (by simp) (by omega) (by omega)) ?_
        rintro _ s6 ⟨⟨t, rfl⟩, X', D, H6, AT, hcs⟩
        walk_at "go"
        rename At _ _ _ _ _ _ _ _ _ _ _ => H7
        exact hZ _ ⟨_, X', (H7.loc (ρ' := [("made", .ref md), ("roots", .ref rt)]) (by walk_at "lsub")).sub (by walk_at "sub"), (B.alloc AT (nd_cs H6)).more (by omega) (by omega)⟩
      · rename At _ _ _ _ _ _ _ _ _ _ _ => H4
        walk_at "go"
        exact hZ _ ⟨mk, X, H4.drop, B.more (by omega) (by omega)⟩
    clear H3 B
    clear X mk
    rintro s4 ⟨mk, X, H4, B⟩
    have ndX : (keys X.cs).Nodup := nd_cs (H4.sub (σ' := arL a X []) (by walk_at "sub"))
    have b1 := B.len
    refine cutQ (fun s' => ∃ BD B', AtL w O g' L' [("made", .ref md), ("roots", .ref rt)] ((BD, .idict (cd B')) :: (cellsL B' ++ ((gt, .ints (got)) :: (md, .ints (mk)) :: (rt, .refs ((Rl).map (·.1))) :: ((L' : Nat) + 1 + 1 + 1 + 1, .cell (some (.ref BD))) :: ((L' : Nat) + 1 + 1 + 1, .cell (vt)) :: ((L' : Nat) + 1 + 1, .cell (some (.ref a))) :: ((L' : Nat) + 1, .cell (some (.ref gt))) :: (rowsL (Rl) ++ arL a (X) ([]))))) s' ∧ B'.map (fun q => (q.1, q.2.2)) = X.cs.map (fun q => (q.1, q.2.2))) ?_ ?_
    · as_aux_lemma =>
      intro Z hZ
      walk_at "go"
      refine dcomp_eval (cl := [("arena", (L' : Nat) + 1 + 1)]) (by with_unfolding_all rfl) ?_
      walk_at "go"
      rename At _ _ _ _ _ _ _ _ _ _ _ => H5
      replace H5 := H5.sub (σ' := (X.c, .idict (cd X.cs)) :: ((a, .inst 126 (X).d) :: ((X).d, .attrs (X).attrs) :: ((X).y, .idict (tt (X).ys)) :: ((X).r, .idict (tt (X).rs)) :: ((X).ro, .refs ((X).rows.map (·.1))) :: (gt, .ints (got)) :: (md, .ints (mk)) :: (rt, .refs ((Rl).map (·.1))) :: ((L' : Nat) + 1 + 1 + 1 + 1, .cell (none)) :: ((L' : Nat) + 1 + 1 + 1, .cell (vt)) :: ((L' : Nat) + 1 + 1, .cell (some (.ref a))) :: ((L' : Nat) + 1, .cell (some (.ref gt))) :: (rowsL (Rl) ++ (rowsL (X).rows ++ (cellsL (X).cs ++ ([])))))) (by walk_at "sub")
      obtain ⟨ep, H6⟩ := H5.openE
      refine dcomp_keys (kvs := cd X.cs) (ep := ep) H6 (.head _) hh (fun D i (ρ' : Locs) (σ' : Ledger) => ρ' = ([("made", .ref md), ("roots", .ref rt)] : Locs) ∧ ∃ Bi : CS, σ' = (D, .idict (cd Bi)) :: (cellsL Bi ++ ((X.c, dictE PP w (cd X.cs) ep) :: ((a, .inst 126 (X).d) :: ((X).d, .attrs (X).attrs) :: ((X).y, .idict (tt (X).ys)) :: ((X).r, .idict (tt (X).rs)) :: ((X).ro, .refs ((X).rows.map (·.1))) :: (gt, .ints (got)) :: (md, .ints (mk)) :: (rt, .refs ((Rl).map (·.1))) :: ((L' : Nat) + 1 + 1 + 1 + 1, .cell (none)) :: ((L' : Nat) + 1 + 1 + 1, .cell (vt)) :: ((L' : Nat) + 1 + 1, .cell (some (.ref a))) :: ((L' : Nat) + 1, .cell (some (.ref gt))) :: (rowsL (Rl) ++ (rowsL (X).rows ++ (cellsL (X).cs ++ ([]))))))) ∧ Bi.map (fun q => (q.1, q.2.2)) = (X.cs.take i).map (fun q => (q.1, q.2.2))) (fun D => ⟨rfl, [], rfl, by simp⟩) ?_ ?_ ?_
      · rintro D i ρ' σ' ⟨rfl, Bi, rfl, _⟩; walk_at "mem"
      · rintro it2 C D i ρ' σ' ls s6 t6 hi ⟨rfl, Bi, rfl, eB⟩ H7
        have hi' : i < X.cs.length := by rw [length_cd] at hi; exact hi
        have ek : (cd X.cs)[i].1 = X.cs[i].1 := by simp [cd]
        refine wpAny_tests_nil ?_
        have hv := valueAt_cd ndX (List.getElem_mem hi')
        rw [← ek] at hv
        have hqm : (X.cs[i].2.1, Sp.ints X.cs[i].2.2) ∈ cellsL X.cs ++ [] := List.mem_append_left _ (mem_cellsL (List.getElem_mem hi'))
        have hq3 := B.inv.z2 _ (List.getElem_mem hi')
        have lB : Bi.length ≤ i := by
          have := congrArg List.length eB
          rw [List.length_map, List.length_map, List.length_take] at this; omega
        have hnew : (cd X.cs)[i].1 ∉ keys Bi := by
          rw [ek]
          intro hin
          obtain ⟨q, hq, e⟩ := key_cell hin
          have : (q.1, q.2.2) ∈ (X.cs.take i).map (fun q => (q.1, q.2.2)) := eB ▸ List.mem_map_of_mem (f := fun q : Int × Addr × List Int => (q.1, q.2.2)) hq
          obtain ⟨q', h1, h2⟩ := List.mem_map.mp this
          have hk := not_mem_take ndX (i := i) (by rw [length_keys]; exact hi')
          refine hk ?_
          have e2 : (keys X.cs)[i]'(by rw [length_keys]; exact hi') = q'.1 := by rw [(Prod.mk.inj h2).1, e]; simp [keys]
          rw [e2]
          unfold keys
          rw [← List.map_take]
          exact List.mem_map_of_mem (f := (·.1)) h1
        walk_at "go"
        rename At _ _ _ _ _ _ _ _ _ _ _ => H8
        rename_i E2 _
        refine' r_dictSet H8 ?U ?z ?_
        case U => walk_at "up"
        case z => rw [length_cd]; omega
        intro s9 H9
        rw [stored_new hnew] at H9
        refine hold ⟨_, _, _, H9.sub (σ' := (C, .nsp (("number_x", .int (cd X.cs)[i].1 t6) :: ls)) :: (it2, keyIt X.c (cd X.cs).length ep (i + 1)) :: (D, .idict (cd (Bi ++ [((cd X.cs)[i].1, E2, X.cs[i].2.2)]))) :: (cellsL (Bi ++ [((cd X.cs)[i].1, E2, X.cs[i].2.2)]) ++ ((X.c, dictE PP w (cd X.cs) ep) :: ((a, .inst 126 (X).d) :: ((X).d, .attrs (X).attrs) :: ((X).y, .idict (tt (X).ys)) :: ((X).r, .idict (tt (X).rs)) :: ((X).ro, .refs ((X).rows.map (·.1))) :: (gt, .ints (got)) :: (md, .ints (mk)) :: (rt, .refs ((Rl).map (·.1))) :: ((L' : Nat) + 1 + 1 + 1 + 1, .cell (none)) :: ((L' : Nat) + 1 + 1 + 1, .cell (vt)) :: ((L' : Nat) + 1 + 1, .cell (some (.ref a))) :: ((L' : Nat) + 1, .cell (some (.ref gt))) :: (rowsL (Rl) ++ (rowsL (X).rows ++ (cellsL (X).cs ++ ([])))))))) (by rw [cellsL_snoc, cd_snoc, List.append_assoc, List.cons_append, List.nil_append]; dsimp only; walk_at "sub"), rfl, _, rfl, ?_⟩
        rw [List.map_append, eB, List.map_cons, List.map_nil, ek, List.take_succ_eq_append_getElem hi', List.map_append, List.map_cons, List.map_nil]
      · rintro C D ρ' σ' ls s6 ⟨rfl, Bi, rfl, eB⟩ H7
        refine compPost_none H7 fun s8 H8 => ?_
        replace H8 := (H8.sub (σ' := (X.c, dictE PP w (cd X.cs) ep) :: (D, .idict (cd Bi)) :: (cellsL Bi ++ ((a, .inst 126 (X).d) :: ((X).d, .attrs (X).attrs) :: ((X).y, .idict (tt (X).ys)) :: ((X).r, .idict (tt (X).rs)) :: ((X).ro, .refs ((X).rows.map (·.1))) :: (gt, .ints (got)) :: (md, .ints (mk)) :: (rt, .refs ((Rl).map (·.1))) :: ((L' : Nat) + 1 + 1 + 1 + 1, .cell (none)) :: ((L' : Nat) + 1 + 1 + 1, .cell (vt)) :: ((L' : Nat) + 1 + 1, .cell (some (.ref a))) :: ((L' : Nat) + 1, .cell (some (.ref gt))) :: (rowsL (Rl) ++ (rowsL (X).rows ++ (cellsL (X).cs ++ ([]))))))) (by walk_at "sub")).closeE
        rw [length_cd, List.take_length] at eB
        walk_at "go"
        rename At _ _ _ _ _ _ _ _ _ _ _ => H9
        refine hZ _ ⟨D, Bi, H9.sub (by walk_at "sub"), eB⟩
    rintro s5 ⟨BD0, B0, H5, eB⟩
    have F0 : Fin2 B0 X Rl mk := ⟨B.inv, B.young, twin_of_map eB, B.rows, B.mlt⟩
    have nd0 : (keys B0).Nodup := keys_of_map eB ▸ ndX
    refine cutQ (fun s' => ∃ BD B KD ks X2, AtL w O g' L' (("kept", .ref KD) :: [("made", .ref md), ("roots", .ref rt)]) (((KD, .idict (tt ks)) :: (BD, .idict (cd B)) :: (cellsL B ++ ((gt, .ints (got)) :: (md, .ints (mk)) :: (rt, .refs ((([] : List (Addr × List Int))).map (·.1))) :: ((L' : Nat) + 1 + 1 + 1 + 1, .cell (some (.ref BD))) :: ((L' : Nat) + 1 + 1 + 1, .cell (vt)) :: ((L' : Nat) + 1 + 1, .cell (some (.ref a))) :: ((L' : Nat) + 1, .cell (some (.ref gt))) :: (rowsL (([] : List (Addr × List Int))) ++ arL a (X2) ([])))))) s' ∧ Inv X2 ∧ X2.young = 1000 ∧ X2.cs = [] ∧ X2.ys = [] ∧ ∀ x ∈ mk, x < X2.next) ?_ ?_
    · as_aux_lemma =>
      intro Z hZ
      walk_at "go"
      refine while_rule (fun n (ρ' : Locs) (σ' : Ledger) => LSub ([("made", .ref md), ("roots", .ref rt)] : Locs) ρ' ∧ ∃ BD B Rl X, n = Rl.length ∧ σ' = ((BD, .idict (cd B)) :: (cellsL B ++ ((gt, .ints (got)) :: (md, .ints (mk)) :: (rt, .refs ((Rl).map (·.1))) :: ((L' : Nat) + 1 + 1 + 1 + 1, .cell (some (.ref BD))) :: ((L' : Nat) + 1 + 1 + 1, .cell (vt)) :: ((L' : Nat) + 1 + 1, .cell (some (.ref a))) :: ((L' : Nat) + 1, .cell (some (.ref gt))) :: (rowsL (Rl) ++ arL a (X) ([]))))) ∧ Fin2 B X Rl mk ∧ (keys B).Nodup) Rl.length H5 ⟨by walk_at "lsub", BD0, B0, Rl, X, rfl, rfl, F0, nd0⟩ ?_
      clear H4 H5 F0 nd0 eB ndX b1 BD0 B0 B
      clear X Rl
      rintro n ρ' σ' s6 ⟨hρ, BD, B, Rl, X, rfl, rfl, F, ndB⟩ H6
      replace H6 := H6.loc hρ
      have ndX : (keys X.cs).Nodup := nd_cs (H6.sub (σ' := arL a X []) (by walk_at "sub"))
      walk_at "goS"
      refine sealQ ?_
      intro T hT
      refine cutQ (fun s' => ∃ KD ks, AtL w O g' L' (("kept", .ref KD) :: [("made", .ref md), ("roots", .ref rt)]) (((KD, .idict (tt ks)) :: (BD, .idict (cd B)) :: (cellsL B ++ ((gt, .ints (got)) :: (md, .ints (mk)) :: (rt, .refs ((Rl).map (·.1))) :: ((L' : Nat) + 1 + 1 + 1 + 1, .cell (some (.ref BD))) :: ((L' : Nat) + 1 + 1 + 1, .cell (vt)) :: ((L' : Nat) + 1 + 1, .cell (some (.ref a))) :: ((L' : Nat) + 1, .cell (some (.ref gt))) :: (rowsL (Rl) ++ arL a (X) ([])))))) s' ∧ ks.Nodup ∧ ∀ x, x ∈ ks ↔ Lead B (Rl.flatMap (·.2)) x) ?_ ?_
      · as_aux_lemma =>
        intro Z hZ
        walk_at "go"
        refine use_call (c_closure (B := B) (Rl := Rl) (Ok.mono (ok.deeper _) (by decide)) (by first | exact H6 | exact H6.toks) (fun q hq => List.mem_append_left _ (mem_cellsL hq)) (by walk_at "mem") (fun q hq => List.mem_append_right _ (.tail _ (.tail _ (.tail _ (.tail _ (.tail _ (.tail _ (.tail _ (List.mem_append_left _ (mem_rowsL hq)))))))))) F.root F.clo (F.len ndB) F.small F.rlen F.rsmall) ?_
        rintro _ s7 ⟨KD, ks, rfl, H7, nd, hl⟩
        walk_at "go"
        rename At _ _ _ _ _ _ _ _ _ _ _ => H8
        exact hZ _ ⟨KD, ks, H8.loc (by walk_at "lsub"), nd, hl⟩
      clear H6 hρ
      rintro s7 ⟨KD, ks, H7, ndk, hk⟩
      refine cutQ (fun s' => ∃ X' ks1, AtL w O g' L' (("kept", .ref KD) :: [("made", .ref md), ("roots", .ref rt)]) (((KD, .idict (tt ks)) :: (BD, .idict (cd B)) :: (cellsL B ++ ((gt, .ints (got)) :: (md, .ints (mk)) :: (rt, .refs ((Rl).map (·.1))) :: ((L' : Nat) + 1 + 1 + 1 + 1, .cell (some (.ref BD))) :: ((L' : Nat) + 1 + 1 + 1, .cell (vt)) :: ((L' : Nat) + 1 + 1, .cell (some (.ref a))) :: ((L' : Nat) + 1, .cell (some (.ref gt))) :: (rowsL (Rl) ++ arL a (X') ([])))))) s' ∧ FullTo X X' ks1) ?_ ?_
      · as_aux_lemma =>
        intro Z hZ
        walk_at "go"
        replace H7 := H7.sub (σ' := arL a (X) ((KD, .idict (tt ks)) :: (BD, .idict (cd B)) :: (cellsL B ++ ((gt, .ints (got)) :: (md, .ints (mk)) :: (rt, .refs ((Rl).map (·.1))) :: ((L' : Nat) + 1 + 1 + 1 + 1, .cell (some (.ref BD))) :: ((L' : Nat) + 1 + 1 + 1, .cell (vt)) :: ((L' : Nat) + 1 + 1, .cell (some (.ref a))) :: ((L' : Nat) + 1, .cell (some (.ref gt))) :: (rowsL (Rl) ++ ([])))))) (by walk_at "sub")
        refine use_call (c_full (X := X) (Ok.mono (ok.deeper _) (by decide)) (by first | exact H7 | exact H7.toks) F.inv) ?_
        rintro _ sG ⟨X', ks1, rfl, HG, MT⟩
        walk_at "go"
        exact hZ _ ⟨X', ks1, (by first | exact HG | exact HG.toks : AtL w O g' L' _ _ _).sub (by walk_at "sub"), MT⟩
      clear H7
      rintro s8 ⟨X', ks1, H8, T⟩
      have ndX' : (keys X'.cs).Nodup := nd_cs (H8.sub (σ' := arL a X' []) (by walk_at "sub"))
      have fk := F.keysFull T hk
      have I' := T.inv F.inv
      have z1 := I'.z1
      have lks : ks.length < 60 := by
        have := nodup_len (m := keys X'.cs) ndk fun x hx => (fk x).mpr hx
        rw [length_keys] at this; omega
      have hty : tt X'.ys = [] := by rw [T.ys]; rfl
      have htr : tt X'.rs = [] := by rw [T.rs]; rfl
      refine cutQ (fun s' => AtL w O g' L' (("kept", .ref KD) :: [("made", .ref md), ("roots", .ref rt)]) (((KD, .idict (tt ks)) :: (BD, .idict (cd B)) :: (cellsL B ++ ((gt, .ints (got)) :: (md, .ints (mk)) :: (rt, .refs ((Rl).map (·.1))) :: ((L' : Nat) + 1 + 1 + 1 + 1, .cell (some (.ref BD))) :: ((L' : Nat) + 1 + 1 + 1, .cell (vt)) :: ((L' : Nat) + 1 + 1, .cell (some (.ref a))) :: ((L' : Nat) + 1, .cell (some (.ref gt))) :: (rowsL (Rl) ++ arL a (X') ([])))))) s') ?_ ?_
      · as_aux_lemma =>
        intro Z hZ
        walk_at "go"
        · rename At _ _ _ _ _ _ _ _ _ _ _ => H9
          exact hZ _ (H9.sub (by walk_at "sub"))
        · exfalso
          rename_i D1 ms1 s1 hp1 pw1 A1 D2 ms2 s2 hp2 pw2 A2 hne
          rw [keys_cd] at hp1
          rw [keys_tt] at hp2
          refine absurd (sorted_eq pw1 pw2 (hp1.nodup_iff.mpr ndX') (hp2.nodup_iff.mpr ndk) fun x => ?_) hne
          rw [hp1.mem_iff, hp2.mem_iff, fk x]
      clear H8
      rintro s9 H9
      refine cutQ (fun s' => AtL w O g' L' (("kept", .ref KD) :: [("made", .ref md), ("roots", .ref rt)]) (((KD, .idict (tt ks)) :: (BD, .idict (cd B)) :: (cellsL B ++ ((gt, .ints (got)) :: (md, .ints (mk)) :: (rt, .refs ((Rl).map (·.1))) :: ((L' : Nat) + 1 + 1 + 1 + 1, .cell (some (.ref BD))) :: ((L' : Nat) + 1 + 1 + 1, .cell (vt)) :: ((L' : Nat) + 1 + 1, .cell (some (.ref a))) :: ((L' : Nat) + 1, .cell (some (.ref gt))) :: (rowsL (Rl) ++ arL a (X') ([])))))) s') ?_ ?_
      · as_aux_lemma =>
        intro Z hZ
        walk_at "go"
        obtain ⟨ep, HA⟩ := H9.openE
        refine for_keys (kvs := tt ks) (ep := ep) HA (.head _) hh (fun n (ρ' : Locs) (σ' : Ledger) => ρ' = (("kept", .ref KD) :: [("made", .ref md), ("roots", .ref rt)] : Locs) ∧ σ' = ((KD, dictE PP w (tt ks) ep) :: (BD, .idict (cd B)) :: (cellsL B ++ ((gt, .ints (got)) :: (md, .ints (mk)) :: (rt, .refs ((Rl).map (·.1))) :: ((L' : Nat) + 1 + 1 + 1 + 1, .cell (some (.ref BD))) :: ((L' : Nat) + 1 + 1 + 1, .cell (vt)) :: ((L' : Nat) + 1 + 1, .cell (some (.ref a))) :: ((L' : Nat) + 1, .cell (some (.ref gt))) :: (rowsL (Rl) ++ arL a (X') ([])))))) ⟨rfl, rfl⟩ ?_ ?_ ?_
        · rintro i ρ' σ' ⟨rfl, rfl⟩; exact .head _
        · rintro it i ρ' σ' sB t9 hi ⟨rfl, rfl⟩ HB
          have hi' : i < ks.length := by rw [length_tt] at hi; exact hi
          have ek : (tt ks)[i].1 = ks[i] := by simp [tt]
          obtain ⟨q', h1, q, h2, h3, h4, h5⟩ := F.pair ndX T hk (List.getElem_mem hi')
          have hv := valueAt_cd ndX' h1
          rw [h3, ← ek] at hv
          have hv2 := valueAt_cd ndB h2
          rw [h4, ← ek] at hv2
          have hm1 : (q'.2.1, Sp.ints q'.2.2) ∈ arL a X' [] := mem_arL_cells h1
          have hm2 : (q.2.1, Sp.ints q.2.2) ∈ cellsL B := mem_cellsL h2
          walk_at "go"
          · rename At _ _ _ _ _ _ _ _ _ _ _ => HC
            exact hold ⟨_, _, HC.loc (by walk_at "lsub"), rfl, rfl⟩
          · exact absurd h5 (by assumption)
        · rintro ρ' σ' sB ⟨rfl, rfl⟩ HB
          exact hZ _ HB.closeE
      clear H9
      rintro sA HA
      refine cutQ (fun s' => ∃ X2 ks2, AtL w O g' L' (("kept", .ref KD) :: [("made", .ref md), ("roots", .ref rt)]) (((KD, .idict (tt ks)) :: (BD, .idict (cd B)) :: (cellsL B ++ ((gt, .ints (got)) :: (md, .ints (mk)) :: (rt, .refs ((Rl).map (·.1))) :: ((L' : Nat) + 1 + 1 + 1 + 1, .cell (some (.ref BD))) :: ((L' : Nat) + 1 + 1 + 1, .cell (vt)) :: ((L' : Nat) + 1 + 1, .cell (some (.ref a))) :: ((L' : Nat) + 1, .cell (some (.ref gt))) :: (rowsL (Rl) ++ arL a (X2) ([])))))) s' ∧ FullTo X' X2 ks2) ?_ ?_
      · as_aux_lemma =>
        intro Z hZ
        walk_at "go"
        replace HA := HA.sub (σ' := arL a (X') ((KD, .idict (tt ks)) :: (BD, .idict (cd B)) :: (cellsL B ++ ((gt, .ints (got)) :: (md, .ints (mk)) :: (rt, .refs ((Rl).map (·.1))) :: ((L' : Nat) + 1 + 1 + 1 + 1, .cell (some (.ref BD))) :: ((L' : Nat) + 1 + 1 + 1, .cell (vt)) :: ((L' : Nat) + 1 + 1, .cell (some (.ref a))) :: ((L' : Nat) + 1, .cell (some (.ref gt))) :: (rowsL (Rl) ++ ([])))))) (by walk_at "sub")
        refine use_call (c_full (X := X') (Ok.mono (ok.deeper _) (by decide)) (by first | exact HA | exact HA.toks) I') ?_
        rintro _ sG ⟨X2, ks2, rfl, HG, MT⟩
        walk_at "go"
        exact hZ _ ⟨X2, ks2, (by first | exact HG | exact HG.toks : AtL w O g' L' _ _ _).sub (by walk_at "sub"), MT⟩
      clear HA
      rintro sB ⟨X2, ks2, HB, T2⟩
      have e2 := T.again F.inv T2
      have I2 := T2.inv I'
      have ndX2 : (keys X2.cs).Nodup := nd_cs (HB.sub (σ' := arL a X2 []) (by walk_at "sub"))
      have fk2 : ∀ x, x ∈ keys X2.cs ↔ x ∈ ks := fun x => by rw [e2]; exact fk x
      refine cutQ (fun s' => AtL w O g' L' (("kept", .ref KD) :: [("made", .ref md), ("roots", .ref rt)]) (((KD, .idict (tt ks)) :: (BD, .idict (cd B)) :: (cellsL B ++ ((gt, .ints (got)) :: (md, .ints (mk)) :: (rt, .refs ((Rl).map (·.1))) :: ((L' : Nat) + 1 + 1 + 1 + 1, .cell (some (.ref BD))) :: ((L' : Nat) + 1 + 1 + 1, .cell (vt)) :: ((L' : Nat) + 1 + 1, .cell (some (.ref a))) :: ((L' : Nat) + 1, .cell (some (.ref gt))) :: (rowsL (Rl) ++ arL a (X2) ([])))))) s') ?_ ?_
      · as_aux_lemma =>
        intro Z hZ
        have z2 := I2.z1
        walk_at "go"
        · rename_i D1 ms1 s1 hp1 pw1 A1 D2 ms2 s2 hp2 pw2 A2 heq
          rename At _ _ _ _ _ _ _ _ _ _ _ => HC
          rw [keys_cd] at hp1
          rw [keys_tt] at hp2
          have lk : X2.cs.length = ks.length := by rw [← length_keys, ← hp1.length_eq, ← hp2.length_eq, heq]
          have hys : X2.ys = [] := T2.ys
          replace HC := HC.sub (σ' := arL a (X2) ((KD, .idict (tt ks)) :: (BD, .idict (cd B)) :: (cellsL B ++ ((gt, .ints (got)) :: (md, .ints (mk)) :: (rt, .refs ((Rl).map (·.1))) :: ((L' : Nat) + 1 + 1 + 1 + 1, .cell (some (.ref BD))) :: ((L' : Nat) + 1 + 1 + 1, .cell (vt)) :: ((L' : Nat) + 1 + 1, .cell (some (.ref a))) :: ((L' : Nat) + 1, .cell (some (.ref gt))) :: (rowsL (Rl) ++ ([])))))) (by walk_at "sub")
          refine use_call (c_old_count (X := X2) (Ok.mono (ok.deeper _) (by decide)) (by first | exact HC | exact HC.toks) I2) ?_
          rintro _ sH ⟨⟨tq, rfl⟩, HD⟩
          walk_at "go"
          · exfalso
            rename_i hne
            refine hne ?_
            rw [hys, lk, List.length_nil, length_tt]; omega
          · rename At _ _ _ _ _ _ _ _ _ _ _ => HK
            walk_at "go"
            exact hZ _ ((by first | exact HK | exact HK.toks : AtL w O g' L' _ _ _).sub (by walk_at "sub"))
        · exfalso
          rename_i D1 ms1 s1 hp1 pw1 A1 D2 ms2 s2 hp2 pw2 A2 hne
          rw [keys_cd] at hp1
          rw [keys_tt] at hp2
          refine absurd (sorted_eq pw1 pw2 (hp1.nodup_iff.mpr ndX2) (hp2.nodup_iff.mpr ndk) fun x => ?_) hne
          rw [hp1.mem_iff, hp2.mem_iff, fk2 x]
      clear HB
      rintro sC HC
      refine cutS (fun s' => AtL w O g' L' (("kept", .ref KD) :: [("made", .ref md), ("roots", .ref rt)]) (((KD, .idict (tt ks)) :: (BD, .idict (cd B)) :: (cellsL B ++ ((gt, .ints (got)) :: (md, .ints (mk)) :: (rt, .refs ((Rl).map (·.1))) :: ((L' : Nat) + 1 + 1 + 1 + 1, .cell (some (.ref BD))) :: ((L' : Nat) + 1 + 1 + 1, .cell (vt)) :: ((L' : Nat) + 1 + 1, .cell (some (.ref a))) :: ((L' : Nat) + 1, .cell (some (.ref gt))) :: (rowsL (Rl) ++ arL a (X2) ([])))))) s' ∧ Rl ≠ []) ?_ ?_
      · walk_at "go"
        · rename At _ _ _ _ _ _ _ _ _ _ _ => HD
          have hnil : Rl = [] := List.map_eq_nil_iff.mp (by assumption)
          subst hnil
          have e0 := F.empty T T2 hk
          exact hT .brk _ (hZ _ ⟨BD, B, KD, ks, X2, HD.sub (by walk_at "sub"), I2, by rw [T2.young, T.young, F.young], e0, T2.ys, fun x hx => by rw [T2.next, T.next]; exact F.mlt x hx⟩)
        · rename At _ _ _ _ _ _ _ _ _ _ _ => HD
          rename_i hne
          walk_at "go"
          exact hold ⟨HD.sub (by walk_at "sub"), fun e => hne (by rw [e]; rfl)⟩
      clear HC
      rintro sD ⟨HD, hne⟩
      rcases List.eq_nil_or_concat Rl with e | ⟨Rl2, r, e⟩
      · exact absurd e hne
      rw [List.concat_eq_append] at e
      subst e
      clear hne
      have lr : Rl2.length < 1000 := by have := F.rlen; rw [List.length_append] at this; omega
      replace HD := HD.sub (σ' := (rt, .refs (Rl2.map (·.1) ++ [r.1])) :: (KD, .idict (tt ks)) :: (BD, .idict (cd B)) :: (cellsL B ++ ((gt, .ints got) :: (md, .ints mk) :: ((L' : Nat) + 1 + 1 + 1 + 1, .cell (some (.ref BD))) :: ((L' : Nat) + 1 + 1 + 1, .cell (vt)) :: ((L' : Nat) + 1 + 1, .cell (some (.ref a))) :: ((L' : Nat) + 1, .cell (some (.ref gt))) ::  (rowsL Rl2 ++ (arL a X2 []))))) (by rw [List.map_append, rowsL_snoc, List.append_assoc, List.map_cons, List.map_nil, List.cons_append, List.nil_append]; walk_at "sub")
      obtain ⟨R, r', hR, hR2⟩ := F.rows2 T T2
      refine cutQ (fun s' => AtL w O g' L' (("kept", .ref KD) :: [("made", .ref md), ("roots", .ref rt)]) (((KD, .idict (tt ks)) :: (BD, .idict (cd B)) :: (cellsL B ++ ((gt, .ints (got)) :: (md, .ints (mk)) :: (rt, .refs ((Rl2).map (·.1))) :: ((L' : Nat) + 1 + 1 + 1 + 1, .cell (some (.ref BD))) :: ((L' : Nat) + 1 + 1 + 1, .cell (vt)) :: ((L' : Nat) + 1 + 1, .cell (some (.ref a))) :: ((L' : Nat) + 1, .cell (some (.ref gt))) :: (rowsL (Rl2) ++ arL a (X2) ([])))))) s') ?_ ?_
      · as_aux_lemma =>
        intro Z hZ
        walk_at "go"
        rename At _ _ _ _ _ _ _ _ _ _ _ => HE
        exact hZ _ (HE.sub (by walk_at "sub"))
      clear HD
      rintro sE HE
      refine cutQ (fun s' => AtL w O g' L' (("kept", .ref KD) :: [("made", .ref md), ("roots", .ref rt)]) (((KD, .idict (tt ks)) :: (BD, .idict (cd B)) :: (cellsL B ++ ((gt, .ints (got)) :: (md, .ints (mk)) :: (rt, .refs ((Rl2).map (·.1))) :: ((L' : Nat) + 1 + 1 + 1 + 1, .cell (some (.ref BD))) :: ((L' : Nat) + 1 + 1 + 1, .cell (vt)) :: ((L' : Nat) + 1 + 1, .cell (some (.ref a))) :: ((L' : Nat) + 1, .cell (some (.ref gt))) :: (rowsL (Rl2) ++ arL a ({ X2 with rows := R }) ([])))))) s') ?_ ?_
      · as_aux_lemma =>
        intro Z hZ
        walk_at "go"
        replace HE := HE.sub (σ' := arL a (X2) ((KD, .idict (tt ks)) :: (BD, .idict (cd B)) :: (cellsL B ++ ((gt, .ints (got)) :: (md, .ints (mk)) :: (rt, .refs ((Rl2).map (·.1))) :: ((L' : Nat) + 1 + 1 + 1 + 1, .cell (some (.ref BD))) :: ((L' : Nat) + 1 + 1 + 1, .cell (vt)) :: ((L' : Nat) + 1 + 1, .cell (some (.ref a))) :: ((L' : Nat) + 1, .cell (some (.ref gt))) :: (rowsL (Rl2) ++ ([])))))) (by walk_at "sub")
        refine use_call (c_pop (X := X2) (Ok.mono (ok.deeper _) (by decide)) (by first | exact HE | exact HE.toks) I2 hR) ?_
        rintro _ sG ⟨rfl, HG⟩
        walk_at "go"
        exact hZ _ ((by first | exact HG | exact HG.toks : AtL w O g' L' _ _ _).sub (by walk_at "sub"))
      clear HE
      rintro sF HF
      walk_at "go"
      refine dcomp_eval (cl := [("before", (L' : Nat) + 1 + 1 + 1 + 1)]) (by with_unfolding_all rfl) ?_
      walk_at "go"
      obtain ⟨ep, HG⟩ := HF.openE
      refine dcomp_keys (kvs := tt ks) (ep := ep) (by first | exact HG | exact HG.toks) (.head _) hh (fun D i (ρ' : Locs) (σ' : Ledger) => ρ' = (("kept", .ref KD) :: [("made", .ref md), ("roots", .ref rt)] : Locs) ∧ ∃ Bi : CS, σ' = (D, .idict (cd Bi)) :: ((KD, dictE PP w (tt ks) ep) :: (BD, .idict (cd B)) :: (cellsL B ++ ((gt, .ints (got)) :: (md, .ints (mk)) :: (rt, .refs ((Rl2).map (·.1))) :: ((L' : Nat) + 1 + 1 + 1 + 1, .cell (some (.ref BD))) :: ((L' : Nat) + 1 + 1 + 1, .cell (vt)) :: ((L' : Nat) + 1 + 1, .cell (some (.ref a))) :: ((L' : Nat) + 1, .cell (some (.ref gt))) :: (rowsL (Rl2) ++ arL a ({ X2 with rows := R }) ([]))))) ∧ (∀ q ∈ Bi, q ∈ B) ∧ keys Bi = ks.take i) (fun D => ⟨rfl, [], rfl, (fun _ h => nomatch h), rfl⟩) ?_ ?_ ?_
      · rintro D i ρ' σ' ⟨rfl, Bi, rfl, _⟩; exact .tail _ (.head _)
      · rintro it2 C D i ρ' σ' ls sH t6 hi ⟨rfl, Bi, rfl, hB, hKi⟩ H7
        have hi' : i < ks.length := by rw [length_tt] at hi; exact hi
        have ek : (tt ks)[i].1 = ks[i] := by simp [tt]
        obtain ⟨q', h1, q, h2, h3, h4, h5⟩ := F.pair ndX T hk (List.getElem_mem hi')
        have hv2 := valueAt_cd ndB h2
        rw [h4, ← ek] at hv2
        have hnew : (tt ks)[i].1 ∉ keys Bi := by rw [ek, hKi]; exact not_mem_take ndk hi'
        have lB : Bi.length < 60 := by
          have := congrArg List.length hKi
          rw [length_keys, List.length_take] at this; omega
        refine wpAny_tests_nil ?_
        walk_at "go"
        rename At _ _ _ _ _ _ _ _ _ _ _ => H8
        refine' r_dictSet (by first | exact H8 | exact H8.toks) ?U ?z ?_
        case U => walk_at "up"
        case z => rw [length_cd]; omega
        intro s9 H9
        rw [stored_new hnew] at H9
        refine hold ⟨_, _, _, H9.sub (σ' := (C, .nsp (("number_x", .int (tt ks)[i].1 t6) :: ls)) :: (it2, keyIt KD (tt ks).length ep (i + 1)) :: (D, .idict (cd (Bi ++ [q]))) :: ((KD, dictE PP w (tt ks) ep) :: (BD, .idict (cd B)) :: (cellsL B ++ ((gt, .ints (got)) :: (md, .ints (mk)) :: (rt, .refs ((Rl2).map (·.1))) :: ((L' : Nat) + 1 + 1 + 1 + 1, .cell (some (.ref BD))) :: ((L' : Nat) + 1 + 1 + 1, .cell (vt)) :: ((L' : Nat) + 1 + 1, .cell (some (.ref a))) :: ((L' : Nat) + 1, .cell (some (.ref gt))) :: (rowsL (Rl2) ++ arL a ({ X2 with rows := R }) ([])))))) (by rw [cd_snoc, h4, ← ek]; walk_at "sub"), rfl, _, rfl, ?_, ?_⟩
        · intro x hx
          rcases List.mem_append.mp hx with hx | hx
          · exact hB x hx
          · rw [List.mem_singleton.mp hx]; exact h2
        · have : keys (Bi ++ [q]) = keys Bi ++ [q.1] := by simp [keys]
          rw [this, hKi, h4, List.take_succ_eq_append_getElem hi']
      · rintro C D ρ' σ' ls sH ⟨rfl, Bi, rfl, hB, hKi⟩ H7
        rw [length_tt, List.take_length] at hKi
        refine compPost_none H7 fun s8 H8 => ?_
        walk_at "go"
        rename At _ _ _ _ _ _ _ _ _ _ _ => H9
        have ndBi : (keys Bi).Nodup := hKi ▸ ndk
        replace H9 := H9.sub (σ' := cellsL B ++ ((D, .idict (cd Bi)) :: ((gt, .ints (got)) :: (md, .ints (mk)) :: (rt, .refs ((Rl2).map (·.1))) :: ((L' : Nat) + 1 + 1 + 1 + 1, .cell (some (.ref D))) :: ((L' : Nat) + 1 + 1 + 1, .cell (vt)) :: ((L' : Nat) + 1 + 1, .cell (some (.ref a))) :: ((L' : Nat) + 1, .cell (some (.ref gt))) :: (rowsL (Rl2) ++ arL a ({ X2 with rows := R }) ([]))))) (by walk_at "sub")
        replace H9 := (H9.sub (sub_cells ndBi hB)).loc (ρ' := [("made", .ref md), ("roots", .ref rt)]) (by walk_at "lsub")
        exact hT .next _ (hold ⟨Rl2.length, _, _, by rw [List.length_append, List.length_singleton]; exact Nat.lt_succ_self _, H9.sub (σ' := ((D, .idict (cd Bi)) :: (cellsL Bi ++ ((gt, .ints (got)) :: (md, .ints (mk)) :: (rt, .refs ((Rl2).map (·.1))) :: ((L' : Nat) + 1 + 1 + 1 + 1, .cell (some (.ref D))) :: ((L' : Nat) + 1 + 1 + 1, .cell (vt)) :: ((L' : Nat) + 1 + 1, .cell (some (.ref a))) :: ((L' : Nat) + 1, .cell (some (.ref gt))) :: (rowsL (Rl2) ++ arL a ({ X2 with rows := R }) ([])))))) (by walk_at "sub"), by walk_at "lsub", D, Bi, Rl2, { X2 with rows := R }, rfl, rfl, F.turn ndB ndX T T2 hk hR hR2 hB hKi, ndBi⟩)
    clear H4 H5
    rintro sZ ⟨BD, B2, KD, ks, X2, HZ, I2, hy2, e0, eys, hmk⟩
    have lmk9 : mk.length < 9000000 := by
      have := B.mlen
      omega
    walk_at "go"
    rename At _ _ _ _ _ _ _ _ _ _ _ => HA
    rename_i E2 _
    replace HA := (HA.loc (ρ' := [("made", .ref md), ("roots", .ref rt)]) (by walk_at "lsub")).sub (σ' := arL a X2 ((E2, .ints []) :: ((gt, .ints (got)) :: (md, .ints (mk)) :: (rt, .refs ((([] : List (Addr × List Int))).map (·.1))) :: ((L' : Nat) + 1 + 1 + 1 + 1, .cell (some (.ref BD))) :: ((L' : Nat) + 1 + 1 + 1, .cell (vt)) :: ((L' : Nat) + 1 + 1, .cell (some (.ref a))) :: ((L' : Nat) + 1, .cell (some (.ref gt))) :: (rowsL (([] : List (Addr × List Int))) ++ ([]))))) (by walk_at "sub")
    refine use_call (c_alloc2 (ps := []) (X := X2) (Ok.mono (ok.deeper _) (by decide)) (by first | exact HA | exact HA.toks) I2 (by walk_at "mem") (fun x hx => nomatch hx) (by simp) (by rw [e0]; decide) (by rw [eys, hy2]; decide)) ?_
    rintro _ s6 ⟨⟨t, rfl⟩, X3, D, HB, AT, hcs⟩
    rw [e0, List.nil_append] at hcs
    replace HB := HB.sub (σ' := (X3.c, .idict (cd X3.cs)) :: (cellsL X3.cs ++ ((a, .inst 126 X3.d) :: (X3.d, .attrs X3.attrs) :: (md, .ints mk) :: ((L' : Nat) + 1 + 1 + 1 + 1, .cell (some (.ref BD))) :: ((L' : Nat) + 1 + 1 + 1, .cell (vt)) :: ((L' : Nat) + 1 + 1, .cell (some (.ref a))) :: ((L' : Nat) + 1, .cell (some (.ref gt))) ::  []))) (by walk_at "sub")
    rw [hcs, show cd [(X2.next, D, ([] : List Int))] = [(X2.next, Value.ref D)] from rfl, show cellsL [(X2.next, D, ([] : List Int))] = [(D, Sp.ints [])] from rfl, List.cons_append, List.nil_append] at HB
    walk_at "go"
    · exfalso
      rename_i hm
      obtain ⟨x, h1, h2⟩ := List.any_eq_true.mp hm
      have := hmk x h1
      rw [eq_of_beq h2] at this
      exact Int.lt_irrefl _ this
    · rename At _ _ _ _ _ _ _ _ _ _ _ => HC
      refine BoolOp_one ?_
      walk_at "go"
      rename At _ _ _ _ _ _ _ _ _ _ _ => HD
      refine r_dict1 (by first | exact HD | exact HD.toks) ?_
      intro D1 sE HE
      walk_at "go"
      rename_i E3 sG HG
      refine hold ⟨_, _, _, (E3, .ints []) :: (X3.c, .idict [(X2.next, .ref D)]) :: (D, .ints []) :: (a, .inst 126 X3.d) :: (X3.d, .attrs X3.attrs) :: (md, .ints mk) :: ((L' : Nat) + 1 + 1 + 1 + 1, .cell (some (.ref BD))) :: ((L' : Nat) + 1 + 1 + 1, .cell (vt)) :: ((L' : Nat) + 1 + 1, .cell (some (.ref a))) :: ((L' : Nat) + 1, .cell (some (.ref gt))) ::  [], rfl, (by first | exact HG | exact HG.toks : AtL w O g' L' _ _ _).sub (by walk_at "sub"), fun sH HH => ?_⟩
      have un := ok.uni
      refine keyhit (k := X2.next) (x := D) (y := E3) HH (by walk_at "mem") (by walk_at "mem") (by walk_at "mem") (by walk_at "mem") (by simp only [Around.deeper_units]; exact Nat.lt_of_lt_of_le (m := 9900) (by omega) (Nat.le_refl _)) (by simp only [Around.in1_units, Around.deeper_units]; exact Nat.lt_of_lt_of_le (m := 9900) (by omega) (Nat.le_refl _)) ?_
      walk_at "go"
      exact ⟨rfl, _, _, _, by first | exact HH | exact HH.toks⟩

set_option maxHeartbeats 8000000 in
theorem main2 : PySem.Challenge.rw_ov0046_02.Holds := by
  refine Mine.hd ?_
  k_fill
  intro w s₀ s₁ mg mb G Y fa o pm cd doc dV kV ho hd hcd hD hmg hg args vals as hpre hlay hrd hwl hlo
  have KX := kIn_of Y
  refine Ground.open G ?_
  intro T B D TE TW
  have hfa : mg (Str.ofString "law") = some (.ref 175) := mg_of KX T.g (by k_is)
  have e1 : some (Value.ref fa) = some (.ref 175) := hmg.symm.trans hfa
  have e2 : fa = 175 := by injection e1 with e3; injection e3
  subst e2
  clear hmg
  wrow_args hpre hlay hrd hwl hlo
  clear hd hcd hD
  refine enter_call ?_
  rename_i hc _
  rename Heap.IsList _ _ _ => hL
  rename IntsAre _ _ => hI
  refine codeAny_mono ?_ (fun _ _ g => GoodW.toG g)
  refine codeAny_mono (c_law2 (A := callerA) ⟨rfl, by decide, by decide⟩ ⟨KX, _, _, _, T⟩ hg hL hI (by omega)) ?_
  intro r s' hr
  cases r with
  | error e => exact hr.elim
  | ok f => cases f with
    | ret v =>
      obtain ⟨rfl, L, ρ, σ', H⟩ := hr
      obtain ⟨m, F, _⟩ := H.fr
      refine goodW_bool F H.gens (raisesW_false ?_) ?_ H.os
      · wrow_none_raised
      · wrow_post
    | _ => exact hr.elim
end
end Mine

theorem PySem.Challenge.cw_ov0046_02_holds : PySem.Challenge.rw_ov0046_02.Holds := by
  exact Mine.main2
