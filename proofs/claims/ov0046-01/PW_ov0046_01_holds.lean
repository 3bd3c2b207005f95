import PyProof.Rows.All
import Wide.All
import OpenK.AllK
import Wide.FinOn
import Lean
import PySem.Challenge.RW_ov0046_01
open PySem PySem.W PyProof.Rows PySem.Calls PyProof.V
set_option Elab.async false
set_option maxRecDepth 100000
set_option linter.unusedVariables false
namespace Mine
set_option maxRecDepth 100000 in
set_option maxHeartbeats 8000000 in
open_top hd for PySem.Challenge.rw_ov0046_01
end Mine
namespace Mine

inductive Sp where
  | ints (ns : List Int)
  | refs (as : List Addr)
  | idict (kvs : List (Int × Value))
  | inst (C d : Addr)
  | attrs (kvs : List (Str × Value))
  | tints (ns : List Int)
  | obj (o : Obj)
  | cell (v : Option Value)
  | nsp (kvs : List (Str × Value))
  | pred (P : Obj → Prop)

inductive AttrsAre : List DictEntry → List (Str × Value) → Prop
  | nil : AttrsAre [] []
  | cons (h : Int) (k : Str) (t : Tok) (v : Value) {es kvs} : AttrsAre es kvs → AttrsAre (⟨h, .str k t, v⟩ :: es) ((k, v) :: kvs)

def Sp.ok (prog : Program) (w : World) : Sp → Obj → Prop
  | .ints ns, o => ∃ vs n, o = PySem.W.listOf vs.toArray n ∧ IntsAre vs ns
  | .refs as, o => ∃ n, o = PySem.W.listOf (as.map Value.ref).toArray n
  | .idict kvs, o => o.IsDictOf (PySem.intKind prog w) kvs
  | .inst C d, o => o = instObj C d
  | .attrs kvs, o => ∃ es n, o = dictOf es n ∧ AttrsAre es kvs
  | .tints ns, o => ∃ vs n, o = { cls := .type "tuple", data := .seq vs.toArray n } ∧ IntsAre vs ns
  | .obj o', o => o = o'
  | .cell v, o => o.data = .cell v
  | .nsp kvs, o => ∃ m, LCg.NsObj o m ∧ ∀ x v, kvs.lookup x = some v → m x = some v
  | .pred P, o => P o

abbrev Ledger := List (Addr × Sp)

structure Led (prog : Program) (w : World) (g : Heap) (L : Addr) (h : Heap) (σ : Ledger) : Prop where
  at_ : ∀ q ∈ σ, ∃ o, h.get? q.1 = some o ∧ q.2.ok prog w o
  neL : ∀ q ∈ σ, q.1 ≠ L
  new : ∀ q ∈ σ, g.get? q.1 = none
  high : ∀ q ∈ σ, sysModules < q.1
  nd : (σ.map (·.1)).Nodup

structure Stat (K : Frag) (p : Program) (lo : List Str) (g : Heap) : Prop where
  X : K.In g
  T : ∃ mean mg mb, Top p lo mean mg mb g

theorem Stat.keeps {K : Frag} {p : Program} {lo : List Str} {g h : Heap} (S : Stat K p lo g) (k : ∀ b o, g.get? b = some o → h.get? b = some o) : Stat K p lo h :=
  ⟨S.X.keeps k, let ⟨a, b, c, T⟩ := S.T; ⟨a, b, c, T.keeps k⟩⟩

abbrev Locs := List (Str × Value)

structure At (prog : Program) (w : World) (K : Frag) (p : Program) (lo : List Str) (O : OsState) (g : Heap) (L : Addr) (ρ : Locs) (σ : Ledger) (s : Shared) : Prop where
  fr : ∃ m, Fr g L s.heap m ∧ ∀ x v, ρ.lookup x = some v → m x = some v
  led : Led prog w g L s.heap σ
  gens : s.gens = #[]
  os : s.os = O
  stat : Stat K p lo g

section
variable {prog : Program} {w : World} {K : Frag} {p : Program} {lo : List Str} {O : OsState} {g h h' : Heap} {L a : Addr} {ρ ρ' : Locs} {σ σ' τ : Ledger} {s : Shared} {sp sp' : Sp} {m : Str → Option Value} {o : Obj}

theorem szN {h : Heap} {a : Nat} {o : Obj} (e : h.get? a = some o) : (a : Nat) < h.objs.size := Heap.lt_size e
theorem Stat.nolimit (S : Stat K p lo g) : g.NoLimit := let ⟨_, _, _, T⟩ := S.T; T.nolimit

theorem Led.get (l : Led prog w g L h σ) (hm : (a, sp) ∈ σ) : ∃ o, h.get? a = some o ∧ sp.ok prog w o := l.at_ _ hm
theorem Led.notMod (l : Led prog w g L h σ) (hm : (a, sp) ∈ σ) : (a == sysModules) = false := by
  have := l.high _ hm
  exact beq_eq_false_iff_ne.mpr (Nat.ne_of_gt this)

theorem Led.grow (l : Led prog w g L h σ) (k : ∀ b o, h.get? b = some o → h'.get? b = some o) : Led prog w g L h' σ :=
  ⟨fun q hq => let ⟨o, e, r⟩ := l.at_ q hq; ⟨o, k _ _ e, r⟩, l.neL, l.new, l.high, l.nd⟩

theorem Led.newAt (l : Led prog w g L h σ) (S : g.NoLimit) (k : ∀ b o, h.get? b = some o → h'.get? b = some o) {D : Nat} (hD' : ∃ o, h'.get? D = some o ∧ sp.ok prog w o) (hL : D ≠ L) (hg : h.objs.size ≤ D) (hgs : g.objs.size ≤ h.objs.size) :
    Led prog w g L h' ((D, sp) :: σ) := by
  refine ⟨?_, ?_, ?_, ?_, ?_⟩
  · intro q hq
    rcases List.mem_cons.mp hq with rfl | hq
    · exact hD'
    · exact (l.grow k).at_ q hq
  · intro q hq
    rcases List.mem_cons.mp hq with rfl | hq
    · exact hL
    · exact l.neL q hq
  · intro q hq
    rcases List.mem_cons.mp hq with rfl | hq
    · cases e : g.get? D with
      | none => rfl
      | some o => have := szN e; omega
    · exact l.new q hq
  · intro q hq
    rcases List.mem_cons.mp hq with rfl | hq
    · have h3 : (sysModules : Nat) < g.objs.size := modules_low S; exact Nat.lt_of_lt_of_le h3 (Nat.le_trans hgs hg)
    · exact l.high q hq
  · rw [List.map_cons, List.nodup_cons]
    refine ⟨fun hm => ?_, l.nd⟩
    obtain ⟨q, hq, e⟩ := List.mem_map.mp hm
    obtain ⟨o, ho, _⟩ := l.at_ q hq
    rw [e] at ho
    have := szN (a := D) ho
    omega

theorem Fr.gsize (F : Fr g L h m) : g.objs.size ≤ h.objs.size := by
  obtain ⟨oL, _, _, hL, _⟩ := F.ns
  exact Nat.le_of_lt (Nat.lt_of_le_of_lt F.above (Heap.lt_size hL))
theorem Fr.Llt {L : Nat} (F : Fr g L h m) : (L : Nat) < h.objs.size := by
  obtain ⟨oL, _, _, hL, _⟩ := F.ns
  exact Heap.lt_size hL

/-- a heap that keeps all and bears a new object -/
theorem At.alloc (H : At prog w K p lo O g L ρ σ s) {s' : Shared} (k : ∀ b o, s.heap.get? b = some o → s'.heap.get? b = some o) {D : Nat} (hD : s.heap.objs.size ≤ D) (hD' : ∃ o, s'.heap.get? D = some o ∧ sp.ok prog w o)
    (hg : s'.gens = s.gens := by rfl) (ho : s'.os = s.os := by rfl) : At prog w K p lo O g L ρ ((D, sp) :: σ) s' := by
  obtain ⟨⟨m, F, hm⟩, l, h1, h2, S⟩ := H
  have F' := F.kept k
  exact ⟨⟨m, F', hm⟩, l.newAt S.nolimit k hD' (fun e => by have := Fr.Llt (L := L) F; have e' : (D : Nat) = L := e; omega) hD (Fr.gsize F), hg.trans h1, ho.trans h2, S⟩

theorem At.grow (H : At prog w K p lo O g L ρ σ s) {s' : Shared} (k : ∀ b o, s.heap.get? b = some o → s'.heap.get? b = some o) (hg : s'.gens = s.gens := by rfl) (ho : s'.os = s.os := by rfl) : At prog w K p lo O g L ρ σ s' := by
  obtain ⟨⟨m, F, hm⟩, l, h1, h2, S⟩ := H
  exact ⟨⟨m, F.kept k, hm⟩, l.grow k, hg.trans h1, ho.trans h2, S⟩

theorem At.toks (H : At prog w K p lo O g L ρ σ s) {t : Tok} {dr : Drawn} : At prog w K p lo O g L ρ σ ⟨s.heap, s.gens, dr, t, s.os⟩ := ⟨H.fr, H.led, H.gens, H.os, H.stat⟩

/-- one object of the ledger changed in place -/
inductive Up (b : Addr) (u u' : Sp) : Ledger → Ledger → Prop
  | head {x : Ledger} : Up b u u' ((b, u) :: x) ((b, u') :: x)
  | tail {q : Addr × Sp} {x x' : Ledger} : Up b u u' x x' → Up b u u' (q :: x) (q :: x')
  | left {x x' y : Ledger} : Up b u u' x x' → Up b u u' (x ++ y) (x' ++ y)
  | right {x y y' : Ledger} : Up b u u' y y' → Up b u u' (x ++ y) (x ++ y')

theorem Up.split (U : Up a sp sp' σ σ') : ∃ pre post, σ = pre ++ (a, sp) :: post ∧ σ' = pre ++ (a, sp') :: post := by
  induction U with
  | head => exact ⟨[], _, rfl, rfl⟩
  | tail _ ih => obtain ⟨x, y, rfl, rfl⟩ := ih; exact ⟨_ :: x, y, rfl, rfl⟩
  | @left σ σ' τ _ ih => obtain ⟨x, y, rfl, rfl⟩ := ih; exact ⟨x, y ++ τ, by simp, by simp⟩
  | @right σ τ τ' _ ih => obtain ⟨x, y, rfl, rfl⟩ := ih; exact ⟨σ ++ x, y, by simp, by simp⟩
theorem Up.mem (U : Up a sp sp' σ σ') : (a, sp) ∈ σ := by obtain ⟨x, y, rfl, _⟩ := U.split; simp
theorem Up.mem' (U : Up a sp sp' σ σ') : (a, sp') ∈ σ' := by obtain ⟨x, y, _, rfl⟩ := U.split; simp

theorem At.upd (H : At prog w K p lo O g L ρ σ s) (U : Up a sp sp' σ σ') {s' : Shared} (hs : Heap.SameBut a s.heap s'.heap) (ha : ∃ o, s'.heap.get? a = some o ∧ sp'.ok prog w o)
    (hg : s'.gens = s.gens := by rfl) (ho : s'.os = s.os := by rfl) : At prog w K p lo O g L ρ σ' s' := by
  obtain ⟨⟨m, F, hm⟩, l, h1, h2, S⟩ := H
  obtain ⟨pre, post, rfl, rfl⟩ := U.split
  have hmem : (a, sp) ∈ pre ++ (a, sp) :: post := by simp
  have hF := F.change hs (l.neL _ hmem) (l.new _ hmem)
  have nd := l.nd
  rw [List.map_append, List.map_cons, List.nodup_append] at nd
  obtain ⟨_, n2, n3⟩ := nd
  rw [List.nodup_cons] at n2
  have key : ∀ q ∈ pre ++ (a, sp') :: post, q = (a, sp') ∨ (q ∈ pre ++ (a, sp) :: post ∧ q.1 ≠ a) := by
    intro q hq
    rcases List.mem_append.mp hq with hq | hq
    · exact .inr ⟨List.mem_append_left _ hq, n3 _ (List.mem_map_of_mem hq) _ (List.mem_cons_self ..)⟩
    · rcases List.mem_cons.mp hq with rfl | hq
      · exact .inl rfl
      · exact .inr ⟨List.mem_append_right _ (.tail _ hq), fun e => n2.1 (by rw [← e]; exact List.mem_map_of_mem (f := (·.1)) hq)⟩
  refine ⟨⟨m, hF, hm⟩, ⟨?_, ?_, ?_, ?_, ?_⟩, hg.trans h1, ho.trans h2, S⟩
  · intro q hq
    rcases key q hq with rfl | ⟨hq, hne⟩
    · exact ha
    · obtain ⟨o, e, r⟩ := l.at_ q hq; exact ⟨o, (hs.2 _ hne).trans e, r⟩
  · intro q hq
    rcases key q hq with rfl | ⟨hq, hne⟩
    · exact l.neL (a, sp) hmem
    · exact l.neL q hq
  · intro q hq
    rcases key q hq with rfl | ⟨hq, hne⟩
    · exact l.new (a, sp) hmem
    · exact l.new q hq
  · intro q hq
    rcases key q hq with rfl | ⟨hq, hne⟩
    · exact l.high (a, sp) hmem
    · exact l.high q hq
  · have := l.nd; simpa using this

/-- less of the ledger, in any order -/
def Sub (σ' σ : Ledger) : Prop := ∀ x, @List.count _ (@instBEqOfDecidableEq _ (Classical.typeDecidableEq _)) x σ' ≤ @List.count _ (@instBEqOfDecidableEq _ (Classical.typeDecidableEq _)) x σ

theorem Sub.mem (h : Sub σ' σ) {q : Addr × Sp} (hq : q ∈ σ') : q ∈ σ := by
  letI : DecidableEq (Addr × Sp) := Classical.typeDecidableEq _
  have := List.count_pos_iff.mpr hq
  exact List.count_pos_iff.mp (Nat.lt_of_lt_of_le this (h q))

theorem Sub.nodup : ∀ {σ' : Ledger}, Sub σ' σ → (σ.map (·.1)).Nodup → (σ'.map (·.1)).Nodup
  | [], _, _ => List.nodup_nil
  | q :: τ, h, nd => by
    letI : DecidableEq (Addr × Sp) := Classical.typeDecidableEq _
    have hτ : Sub τ σ := fun x => Nat.le_trans (by rw [List.count_cons]; exact Nat.le_add_right _ _) (h x)
    rw [List.map_cons, List.nodup_cons]
    refine ⟨fun hm => ?_, Sub.nodup hτ nd⟩
    obtain ⟨r, hr, e⟩ := List.mem_map.mp hm
    have h1 : q ∈ σ := h.mem (.head _)
    have h2 : r ∈ σ := hτ.mem hr
    have inj : ∀ {l : Ledger}, (l.map (·.1)).Nodup → ∀ {x y}, x ∈ l → y ∈ l → x.1 = y.1 → x = y := by
      intro l
      induction l with
      | nil => intro _ x y hx; cases hx
      | cons z l ih =>
        intro nd x y hx hy e
        rw [List.map_cons, List.nodup_cons] at nd
        obtain ⟨n1, n2⟩ := nd
        cases hx with
        | head => cases hy with
          | head => rfl
          | tail _ hy => exact absurd (List.mem_map_of_mem (f := (·.1)) hy) (by rw [← e]; exact n1)
        | tail _ hx => cases hy with
          | head => exact absurd (List.mem_map_of_mem (f := (·.1)) hx) (by rw [e]; exact n1)
          | tail _ hy => exact ih n2 hx hy e
    have er : r = q := inj nd h2 h1 e
    subst er
    have hc : 2 ≤ List.count r (r :: τ) := by
      rw [List.count_cons_self]
      have := List.count_pos_iff.mpr hr
      omega
    have hc' := h r
    have nm : ∀ {l : Ledger}, (l.map (·.1)).Nodup → l.Nodup := by
      intro l
      induction l with
      | nil => intro _; exact List.nodup_nil
      | cons z l ih =>
        intro nd
        rw [List.map_cons, List.nodup_cons] at nd
        exact List.nodup_cons.mpr ⟨fun h => nd.1 (List.mem_map_of_mem (f := (·.1)) h), ih nd.2⟩
    have := List.nodup_iff_count.mp (nm nd) r
    omega

/-- one entry taken out of a ledger; a block taken out -/
inductive Pick (q : Addr × Sp) : Ledger → Ledger → Prop
  | here {x : Ledger} : Pick q (q :: x) x
  | there {r : Addr × Sp} {x y : Ledger} : Pick q x y → Pick q (r :: x) (r :: y)
  | skip {B x y : Ledger} : Pick q x y → Pick q (B ++ x) (B ++ y)
inductive PickB (B : Ledger) : Ledger → Ledger → Prop
  | here {x : Ledger} : PickB B (B ++ x) x
  | there {r : Addr × Sp} {x y : Ledger} : PickB B x y → PickB B (r :: x) (r :: y)
  | skip {C x y : Ledger} : PickB B x y → PickB B (C ++ x) (C ++ y)
theorem Sub.refl : Sub σ σ := fun x => Nat.le_refl _
theorem Sub.nil : Sub [] σ := fun x => Nat.zero_le _
theorem Pick.count {q : Addr × Sp} (P : Pick q σ σ') : Sub (q :: σ') σ ∧ Sub σ (q :: σ') := by
  induction P with
  | here => exact ⟨.refl, .refl⟩
  | there _ ih => exact ⟨fun x => by have := ih.1 x; simp only [List.count_cons] at this ⊢; omega, fun x => by have := ih.2 x; simp only [List.count_cons] at this ⊢; omega⟩
  | skip _ ih => exact ⟨fun x => by have := ih.1 x; simp only [List.count_cons, List.count_append] at this ⊢; omega, fun x => by have := ih.2 x; simp only [List.count_cons, List.count_append] at this ⊢; omega⟩
theorem PickB.count {B : Ledger} (P : PickB B σ σ') : Sub (B ++ σ') σ := by
  induction P with
  | here => exact .refl
  | there _ ih => exact fun x => by have := ih x; simp only [List.count_cons, List.count_append] at this ⊢; omega
  | skip _ ih => exact fun x => by have := ih x; simp only [List.count_append] at this ⊢; omega
theorem Sub.pick {q : Addr × Sp} (P : Pick q σ σ') (h : Sub τ σ') : Sub (q :: τ) σ := fun x => by
  have h1 := P.count.1 x
  have h2 := h x
  simp only [List.count_cons] at h1 ⊢; omega
theorem Sub.pickB {B : Ledger} (P : PickB B σ σ') (h : Sub τ σ') : Sub (B ++ τ) σ := fun x => by
  have h1 := P.count x
  have h2 := h x
  simp only [List.count_append] at h1 ⊢; omega

theorem At.sub (H : At prog w K p lo O g L ρ σ s) (h : Sub σ' σ) : At prog w K p lo O g L ρ σ' s :=
  ⟨H.fr, ⟨fun q hq => H.led.at_ q (h.mem hq), fun q hq => H.led.neL q (h.mem hq), fun q hq => H.led.new q (h.mem hq), fun q hq => H.led.high q (h.mem hq), h.nodup H.led.nd⟩, H.gens, H.os, H.stat⟩
theorem At.drop {q : Addr × Sp} (H : At prog w K p lo O g L ρ (q :: σ) s) : At prog w K p lo O g L ρ σ s :=
  H.sub fun x => by
    letI : DecidableEq (Addr × Sp) := Classical.typeDecidableEq _
    rw [List.count_cons]; exact Nat.le_add_right _ _

def LSub (ρ' ρ : Locs) : Prop := ∀ x v, ρ'.lookup x = some v → ρ.lookup x = some v
theorem LSub.nil : LSub [] ρ := fun _ _ e => by cases e
theorem LSub.cons {x : Str} {v : Value} (h1 : ρ.lookup x = some v) (h : LSub ρ' ρ) : LSub ((x, v) :: ρ') ρ := fun y u e => by
  rw [List.lookup_cons] at e
  cases q : y == x with
  | true => rw [q] at e; cases e; rw [beq_iff_eq.mp q]; exact h1
  | false => rw [q] at e; exact h y u e
theorem At.loc (H : At prog w K p lo O g L ρ σ s) (h : LSub ρ' ρ) : At prog w K p lo O g L ρ' σ s :=
  let ⟨m, F, hm⟩ := H.fr; ⟨⟨m, F, fun x v e => hm x v (h x v e)⟩, H.led, H.gens, H.os, H.stat⟩
end
end Mine
namespace Mine

inductive Laid (prog : Program) (w : World) : Ledger → List (Addr × Obj) → Prop
  | nil : Laid prog w [] []
  | cons {a : Addr} {u : Sp} {o : Obj} {x : Ledger} {y : List (Addr × Obj)} : u.ok prog w o → Laid prog w x y → Laid prog w ((a, u) :: x) ((a, o) :: y)

section
variable {prog : Program} {w : World} {K : Frag} {p : Program} {lo : List Str} {O : OsState} {g h h' : Heap} {L a : Addr} {ρ ρ' : Locs} {σ σ' τ : Ledger} {s : Shared} {sp sp' : Sp} {m : Str → Option Value} {o : Obj}
  {A : Around} {E : Value → Shared → Prop}

theorem Laid.of : ∀ {σ : Ledger}, (∀ q ∈ σ, ∃ o, h.get? q.1 = some o ∧ q.2.ok prog w o) → ∃ news, Laid prog w σ news ∧ ∀ q ∈ news, h.get? q.1 = some q.2
  | [], _ => ⟨[], .nil, fun _ hq => nomatch hq⟩
  | (b, u) :: r, hall => by
    obtain ⟨o, e, k⟩ := hall (b, u) (.head _)
    obtain ⟨y, l, hy⟩ := Laid.of (σ := r) fun q hq => hall q (.tail _ hq)
    refine ⟨(b, o) :: y, .cons k l, fun q hq => ?_⟩
    rcases List.mem_cons.mp hq with rfl | hq
    · exact e
    · exact hy q hq

theorem Laid.fst {news : List (Addr × Obj)} (l : Laid prog w σ news) : news.map (·.1) = σ.map (·.1) := by
  induction l with
  | nil => rfl
  | cons _ _ ih => simp [ih]

theorem Laid.back {news : List (Addr × Obj)} (l : Laid prog w σ news) (N : ∀ q ∈ news, h.get? q.1 = some q.2) : ∀ q ∈ σ, ∃ o, h.get? q.1 = some o ∧ q.2.ok prog w o := by
  induction l with
  | nil => exact fun _ hq => nomatch hq
  | @cons b u o x y k _ ih =>
    intro q hq
    rcases List.mem_cons.mp hq with rfl | hq
    · exact ⟨o, N (b, o) (.head _), k⟩
    · exact ih (fun q hq => N q (.tail _ hq)) q hq

theorem At.news (H : At prog w K p lo O g L ρ σ s) : ∃ news m, Fr g L s.heap m ∧ (∀ x v, ρ.lookup x = some v → m x = some v) ∧ News g L s.heap news ∧ Laid prog w σ news := by
  obtain ⟨⟨m, F, hm⟩, l, h1, h2, S⟩ := H
  obtain ⟨news, la, hn⟩ := Laid.of l.at_
  refine ⟨news, m, F, hm, fun q hq => ⟨hn q hq, ?_⟩, la⟩
  have : q.1 ∈ news.map (·.1) := List.mem_map_of_mem hq
  rw [la.fst] at this
  obtain ⟨r, hr, e⟩ := List.mem_map.mp this
  exact ⟨e ▸ l.neL r hr, e ▸ l.new r hr⟩

theorem At.ofNews (H : At prog w K p lo O g L ρ σ s) (U : Up a sp sp' σ σ') {s' : Shared} {news : List (Addr × Obj)} {m : Str → Option Value} (F : Fr g L s'.heap m) (hm : ∀ x v, ρ.lookup x = some v → m x = some v) (N : News g L s'.heap news) (la : Laid prog w σ' news)
    (hg : s'.gens = s.gens := by rfl) (ho : s'.os = s.os := by rfl) : At prog w K p lo O g L ρ σ' s' := by
  obtain ⟨_, l, h1, h2, S⟩ := H
  have keys : σ'.map (·.1) = σ.map (·.1) := by obtain ⟨x, y, rfl, rfl⟩ := U.split; simp
  have back : ∀ q ∈ σ', ∃ r ∈ σ, r.1 = q.1 := fun q hq => by
    have : q.1 ∈ σ'.map (·.1) := List.mem_map_of_mem hq
    rw [keys] at this
    obtain ⟨r, hr, e⟩ := List.mem_map.mp this
    exact ⟨r, hr, e⟩
  exact ⟨⟨m, F, hm⟩, ⟨la.back fun q hq => (N q hq).1, fun q hq => let ⟨r, hr, e⟩ := back q hq; e ▸ l.neL r hr, fun q hq => let ⟨r, hr, e⟩ := back q hq; e ▸ l.new r hr,
    fun q hq => let ⟨r, hr, e⟩ := back q hq; e ▸ l.high r hr, keys ▸ l.nd⟩, hg.trans h1, ho.trans h2, S⟩

/-- the object of the ledger that an update speaks of -/
theorem Laid.up {news : List (Addr × Obj)} (la : Laid prog w σ news) (U : Up a sp sp' σ σ') (nd : (σ.map (·.1)).Nodup) : ∃ o, sp.ok prog w o ∧ (a, o) ∈ news ∧ ∀ o', sp'.ok prog w o' → ∃ news', Upd a o o' news news' ∧ Laid prog w σ' news' := by
  obtain ⟨pre, post, rfl, rfl⟩ := U.split
  clear U
  induction pre generalizing news with
  | nil =>
    cases la with
    | @cons _ _ o _ y k l =>
      refine ⟨o, k, .head _, fun o' k' => ⟨(a, o') :: y, .head fun q hq => ?_, .cons k' l⟩⟩
      rw [List.nil_append, List.map_cons, List.nodup_cons] at nd
      intro e
      have : q.1 ∈ y.map (·.1) := List.mem_map_of_mem hq
      rw [l.fst, e] at this
      exact nd.1 this
  | cons q pre ih =>
    cases la with
    | @cons b u o _ y k l =>
      rw [List.cons_append, List.map_cons, List.nodup_cons] at nd
      obtain ⟨o1, k1, m1, f⟩ := ih l nd.2
      refine ⟨o1, k1, .tail _ m1, fun o' k' => ?_⟩
      obtain ⟨n', U', la'⟩ := f o' k'
      refine ⟨(b, o) :: n', .tail (fun e => ?_) U', .cons k la'⟩
      have e' : b = a := e
      exact nd.1 (by rw [e']; simp)

theorem Laid.mem {news : List (Addr × Obj)} (la : Laid prog w σ news) (hm : (a, sp) ∈ σ) : ∃ o, sp.ok prog w o ∧ (a, o) ∈ news := by
  induction la with
  | nil => cases hm
  | cons k l ih =>
    cases hm with
    | head => exact ⟨_, k, .head _⟩
    | tail _ hm => obtain ⟨o, k1, m1⟩ := ih hm; exact ⟨o, k1, .tail _ m1⟩

/-! names: in any environment whose locals lie at L -/
section
variable {env : Env} {x : Str} {v : Value} {pos : Pos} {M : Model} {c : Addr} {kvs : List (Str × Value)} {v₀ : Option Value}
theorem r_loc {Q : Value → Shared → Prop} (H : At prog w K p lo O g L ρ σ s) (hv : ρ.lookup x = some v) (h : Q v s)
    (hL : env.locals = L := by rfl) (hk : env.scope.kind = .function := by rfl) (hx : env.kindOf x = some .local := by rfl) (hd : (x == ("__debug__" : Str)) = false := by decide) :
    wpAny M A (eval (.Name x pos) env) Q E s := let ⟨_, F, hm⟩ := H.fr; wpAny_Name (wpAny_loadName_local hk hx (hL ▸ F.ns) (hm _ _ hv) h) hd
theorem r_glob {Q : Value → Shared → Prop} (H : At prog w K p lo O g L ρ σ s) (e : nsIn K mainGlobals x = some (some v)) (h : Q v s)
    (hg : env.globals = mainGlobals := by rfl) (hk : env.scope.kind = .function := by rfl) (hx : env.kindOf x = some .globalImplicit := by rfl) (hd : (x == ("__debug__" : Str)) = false := by decide) :
    wpAny M A (eval (.Name x pos) env) Q E s :=
  let ⟨_, F, _⟩ := H.fr; let ⟨_, _, _, T⟩ := H.stat.T; have T' := topRead_of T; Name_function_global hk hx (loadGlobal_global (env := env) (hg ▸ T'.g.keeps F.keep) (mg_of H.stat.X T'.g e) h) hd
theorem r_bltn {Q : Value → Shared → Prop} (H : At prog w K p lo O g L ρ σ s) (e : nsIn K mainGlobals x = some none) (hv : bootBuiltins x = some v) (hn : x ≠ "__name__") (h : Q v s)
    (hg : env.globals = mainGlobals := by rfl) (hb : env.builtins = builtinsNs := by rfl) (hk : env.scope.kind = .function := by rfl) (hx : env.kindOf x = some .globalImplicit := by rfl) (hd : (x == ("__debug__" : Str)) = false := by decide) :
    wpAny M A (eval (.Name x pos) env) Q E s :=
  let ⟨_, F, _⟩ := H.fr; let ⟨_, _, _, T⟩ := H.stat.T; have T' := topRead_of T
  Name_function_global hk hx (loadGlobal_builtin (env := env) (hg ▸ T'.g.keeps F.keep) (mg_none_of H.stat.X T'.g e) (hb ▸ T'.b.keeps F.keep) ((T'.builtins x hn).trans hv) h) hd
theorem r_st {Q : Unit → Shared → Prop} (H : At prog w K p lo O g L ρ σ s) (h : ∀ s', At prog w K p lo O g L ((x, v) :: ρ) σ s' → Q () s')
    (hL : env.locals = L := by rfl) (hk : env.scope.kind = .function := by rfl) (hx : env.kindOf x = some .local := by rfl) : wpAny M A (storeName env x v) Q E s := by
  obtain ⟨⟨m, F, hm⟩, l, h1, h2, S⟩ := H
  subst hL
  refine wpAny_storeName_local hx F.ns (fun h' hn hs => h _ ⟨⟨_, F.set hn hs, fun y u e => ?_⟩, ?_, h1, h2, S⟩) (by rw [hk]; rfl)
  · rw [List.lookup_cons] at e
    show (if y = x then some v else m y) = some u
    cases q : y == x with
    | true => rw [q] at e; rw [if_pos (beq_iff_eq.mp q)]; exact e
    | false => rw [q] at e; rw [if_neg (beq_eq_false_iff_ne.mp q)]; exact hm y u e
  · exact ⟨fun q hq => let ⟨o, e, k⟩ := l.at_ q hq; ⟨o, (hs.2 _ (l.neL q hq)).trans e, k⟩, l.neL, l.new, l.high, l.nd⟩
/-- a captured name, by its cell -/
theorem r_cell {Q : Value → Shared → Prop} (H : At prog w K p lo O g L ρ σ s) (hc : env.cells.lookup x = some c) (hm : (c, Sp.cell (some v)) ∈ σ) (h : Q v s)
    (hk : env.scope.kind = .function := by rfl) (hx : env.kindOf x = some .cell := by rfl) (hd : (x == ("__debug__" : Str)) = false := by decide) :
    wpAny M A (eval (.Name x pos) env) Q E s := by
  obtain ⟨o, e, k⟩ := H.led.get hm
  exact wpAny_Name (wpAny_loadName_cell hk hx hc ⟨o, e, k⟩ h) hd
theorem r_stCell {Q : Unit → Shared → Prop} (H : At prog w K p lo O g L ρ σ s) (hc : env.cells.lookup x = some c) (U : Up c (.cell v₀) (.cell (some v)) σ σ') (h : ∀ s', At prog w K p lo O g L ρ σ' s' → Q () s')
    (hk : env.scope.kind = .function := by rfl) (hx : env.kindOf x = some .cell := by rfl) : wpAny M A (storeName env x v) Q E s := by
  obtain ⟨o, e, k⟩ := H.led.get U.mem
  exact wpAny_storeName_cell hk hx hc ⟨o, e, k⟩ fun h' hv hs => h _ (H.upd U hs (let ⟨o', e', k'⟩ := hv; ⟨o', e', k'⟩))
/-- a comprehension's own name: its names are an object of the ledger -/
theorem r_cloc {Q : Value → Shared → Prop} (H : At prog w K p lo O g L ρ σ s) (hm : (c, Sp.nsp kvs) ∈ σ) (hv : kvs.lookup x = some v) (h : Q v s)
    (hL : env.locals = c := by rfl) (hk : env.scope.kind = .function := by rfl) (hx : env.kindOf x = some .local := by rfl) (hd : (x == ("__debug__" : Str)) = false := by decide) :
    wpAny M A (eval (.Name x pos) env) Q E s := by
  subst hL
  obtain ⟨o, e, m, k1, k2⟩ := H.led.get hm
  exact wpAny_Name (wpAny_loadName_local hk hx (k1.ns e) (k2 _ _ hv) h) hd
theorem r_cst {Q : Unit → Shared → Prop} (H : At prog w K p lo O g L ρ σ s) (U : Up c (.nsp kvs) (.nsp ((x, v) :: kvs)) σ σ') (h : ∀ s', At prog w K p lo O g L ρ σ' s' → Q () s')
    (hL : env.locals = c := by rfl) (hk : env.scope.kind = .function := by rfl) (hx : env.kindOf x = some .local := by rfl) : wpAny M A (storeName env x v) Q E s := by
  subst hL
  obtain ⟨o, e, m, k1, k2⟩ := H.led.get U.mem
  refine wpAny_storeName_local hx (k1.ns e) (fun h' hn hs => h _ (H.upd U hs ?_)) (by rw [hk]; rfl)
  obtain ⟨o', e', k'⟩ := LCg.ns_obj hn
  refine ⟨o', e', _, k', fun y u ey => ?_⟩
  rw [List.lookup_cons] at ey
  show (if y = x then some v else m y) = some u
  cases q : y == x with
  | true => rw [q] at ey; rw [if_pos (beq_iff_eq.mp q)]; exact ey
  | false => rw [q] at ey; rw [if_neg (beq_eq_false_iff_ne.mp q)]; exact k2 y u ey
end

/-! attributes -/
theorem AttrsAre.getL {es : List DictEntry} {kvs : List (Str × Value)} (h : AttrsAre es kvs) (name : Str) : PySem.W.getL name es = some (kvs.lookup name) := by
  have nr : es.any (·.refKey) = false := by
    induction h with
    | nil => rfl
    | cons hh k t v _ ih => rw [List.any_cons, ih]; rfl
  have key : (es.find? (·.key.isStr name)).map (·.val) = kvs.lookup name := by
    clear nr
    induction h with
    | nil => rfl
    | cons hh k t v r ih =>
      have e1 : (Value.str k t).isStr name = (k == name) := rfl
      rw [List.find?_cons, List.lookup_cons]
      simp only [e1]
      cases q : k == name with
      | true =>
        have : (name == k) = true := by rw [beq_iff_eq.mp q]; simp
        rw [this]; rfl
      | false =>
        have : (name == k) = false := by rw [beq_eq_false_iff_ne] at q ⊢; exact fun e => q e.symm
        rw [this]; exact ih
  unfold PySem.W.getL
  rw [nr, ← key]
  cases es.find? (·.key.isStr name) <;> rfl

def putA (name : Str) (v : Value) : List (Str × Value) → List (Str × Value)
  | [] => [(name, v)]
  | q :: r => if q.1 == name then (q.1, v) :: r else q :: putA name v r

theorem AttrsAre.put {es : List DictEntry} {kvs : List (Str × Value)} (h : AttrsAre es kvs) (name : Str) (v : Value) (hh : Int) (t : Tok) : AttrsAre (putL name hh (.str name t) v es) (putA name v kvs) := by
  induction h with
  | nil => exact .cons _ _ _ _ .nil
  | cons h1 k t1 u r ih =>
    unfold putL putA
    show AttrsAre (if (k == name) = true then _ else _) (if (k == name) = true then _ else _)
    split
    · exact .cons _ _ _ _ r
    · exact .cons _ _ _ _ ih
theorem AttrsAre.length {es : List DictEntry} {kvs : List (Str × Value)} (h : AttrsAre es kvs) : es.length = kvs.length := by
  induction h with
  | nil => rfl
  | cons _ _ _ _ _ ih => simp [ih]

section
variable {x C d f : Addr} {kvs : List (Str × Value)} {name : Str} {v : Value}
theorem At.inst (H : At prog w K p lo O g L ρ σ s) (h1 : (x, Sp.inst C d) ∈ σ) (h2 : (d, Sp.attrs kvs) ∈ σ) : ∃ es n, AttrsAre es kvs ∧ InstAt s.heap x (instObj C d) C (some (dictOf es n)) := by
  obtain ⟨o1, e1, k1⟩ := H.led.get h1
  obtain ⟨o2, e2, k2⟩ := H.led.get h2
  obtain ⟨es, n, e, k⟩ := k2
  have k1' : o1 = instObj C d := k1
  subst k1'; subst e
  exact ⟨es, n, k, ⟨e1, rfl, rfl, e2⟩⟩

theorem r_get {expr : Bool} {attr : Option Value} {Q : Value → Shared → Prop} (H : At prog w K p lo O g L ρ σ s) (h1 : (x, Sp.inst C d) ∈ σ) (h2 : (d, Sp.attrs kvs) ∈ σ) (hg : plainGet K C name = true) (hh : hasDictIn K C = true)
    (ha : findIn K (.ref C) name = some attr) (hn : noGet K attr = true) (hl : kvs.lookup name = some v) (hv : handedIn v = true) (h : ∀ s', At prog w K p lo O g L ρ σ s' → Q v s') :
    wpAny (model prog w) A (getAttr (.ref x) name expr) Q E s := by
  obtain ⟨es, n, k, I⟩ := H.inst h1 h2
  obtain ⟨m, F, _⟩ := H.fr
  exact get_own F H.stat.X I hg hh ha hn (by rw [k.getL, hl]) hv (h _ H.toks)

theorem r_meth {pl : Sem Bool} {Q : Value × List Value → Shared → Prop} (H : At prog w K p lo O g L ρ σ s) (h1 : (x, Sp.inst C d) ∈ σ) (h2 : (d, Sp.attrs kvs) ∈ σ) (hg : plainGet K C name = true)
    (hf : findIn K (.ref C) name = some (some (.ref f))) (ht : isFn K (.ref f) = true) (hl : kvs.lookup name = none) (h : Q (.ref f, [.ref x]) s) : wpAny (model prog w) A (getMethod (.ref x) name pl) Q E s := by
  obtain ⟨es, n, k, I⟩ := H.inst h1 h2
  obtain ⟨m, F, _⟩ := H.fr
  exact method_inst F H.stat.X I hg hf ht (by rw [k.getL, hl]) h

theorem r_setA {Q : Unit → Shared → Prop} (H : At prog w K p lo O g L ρ σ s) (h1 : (x, Sp.inst C d) ∈ σ) (U : Up d (.attrs kvs) (.attrs (putA name v kvs)) σ σ')
    (hs : findIn K (.ref C) "__setattr__" = some (some (.builtin "object.__setattr__"))) (hp : plainOver K C = true) (ht : takerIn K C name = some none) (hh : hasDictIn K C = true) (hz : (putA name v kvs).length ≤ 1000)
    (h : ∀ s', At prog w K p lo O g L ρ σ' s' → Q () s') : wpAny (model prog w) A (setAttr (.ref x) name v) Q E s := by
  obtain ⟨news, m, F, hm, N, la⟩ := H.news
  obtain ⟨o, k, hmem, f⟩ := la.up U H.led.nd
  obtain ⟨es, n, rfl, k⟩ := k
  obtain ⟨o1, e1, k1⟩ := H.led.get h1
  have k1' : o1 = instObj C d := k1
  subst k1'
  obtain ⟨news', U', la'⟩ := f (dictOf (putL name (PyData.keyHash w.params name) (.str name (s.toks + 1)) v es) (putN name es n)) ⟨_, _, rfl, k.put _ _ _ _⟩
  exact set_dict F H.stat.X N ⟨e1, rfl, rfl, (N _ hmem).1⟩ rfl hs hp ht hh (by rw [k.getL]; rfl) rfl U' (by rw [(k.put _ _ _ _).length]; exact hz) fun h' F' N' => h _ (H.ofNews U F' hm N' la')
end
end
end Mine
namespace Mine

section
variable {prog : Program} {w : World} {K : Frag} {p : Program} {lo : List Str} {O : OsState} {g h h' : Heap} {L a b : Addr} {ρ ρ' : Locs} {σ σ' τ : Ledger} {s : Shared} {sp sp' : Sp} {m : Str → Option Value} {o : Obj}
  {A : Around} {E : Value → Shared → Prop} {ns ms : List Int} {as : List Addr} {kvs : List (Int × Value)} {k x : Int} {t u : Tok} {v : Value}

theorem At.ofNewsC (H : At prog w K p lo O g L ρ σ s) {s' : Shared} {D : Addr} {news : List (Addr × Obj)} {m : Str → Option Value} (F : Fr g L s'.heap m) (hm : ∀ x v, ρ.lookup x = some v → m x = some v) (N : News g L s'.heap ((D, o) :: news)) (la : Laid prog w σ news)
    (k : sp.ok prog w o) (l1 : ∀ q ∈ news, q.1 < D) (lo1 : sysModules < D) (hg : s'.gens = s.gens := by rfl) (ho : s'.os = s.os := by rfl) : At prog w K p lo O g L ρ ((D, sp) :: σ) s' := by
  obtain ⟨_, l, h1, h2, S⟩ := H
  refine ⟨⟨m, F, hm⟩, ⟨(Laid.cons k la).back fun q hq => (N q hq).1, fun q hq => ?_, fun q hq => ?_, fun q hq => ?_, ?_⟩, hg.trans h1, ho.trans h2, S⟩
  · rcases List.mem_cons.mp hq with rfl | hq
    · exact (N (D, o) (.head _)).2.1
    · exact l.neL q hq
  · rcases List.mem_cons.mp hq with rfl | hq
    · exact (N (D, o) (.head _)).2.2
    · exact l.new q hq
  · rcases List.mem_cons.mp hq with rfl | hq
    · exact lo1
    · exact l.high q hq
  · rw [List.map_cons, List.nodup_cons]
    refine ⟨fun hm => ?_, l.nd⟩
    have hm' : D ∈ σ.map (·.1) := hm
    rw [← la.fst] at hm'
    obtain ⟨q, hq, e⟩ := List.mem_map.mp hm'
    exact absurd (l1 q hq) (by rw [e]; exact Nat.lt_irrefl D)

theorem At.ints (H : At prog w K p lo O g L ρ σ s) (hm : (a, Sp.ints ns) ∈ σ) : ∃ vs n, s.heap.get? a = some (PySem.W.listOf vs.toArray n) ∧ IntsAre vs ns := by
  obtain ⟨o, e, vs, n, rfl, hi⟩ := H.led.get hm; exact ⟨vs, n, e, hi⟩
theorem At.refs (H : At prog w K p lo O g L ρ σ s) (hm : (a, Sp.refs as) ∈ σ) : ∃ n, s.heap.get? a = some (PySem.W.listOf (as.map Value.ref).toArray n) := by
  obtain ⟨o, e, n, rfl⟩ := H.led.get hm; exact ⟨n, e⟩
theorem At.dict (H : At prog w K p lo O g L ρ σ s) (hm : (a, Sp.idict kvs) ∈ σ) : s.heap.DictOf (PySem.intKind prog w) a kvs := by
  obtain ⟨o, e, k⟩ := H.led.get hm; exact Heap.dictOf_iff.mpr ⟨o, e, k⟩
theorem At.low (H : At prog w K p lo O g L ρ σ s) (hm : (a, sp) ∈ σ) : (a == sysModules) = false := H.led.notMod hm
theorem isListOf {h : Heap} {its : Array Value} {n : Nat} (e : h.get? a = some (PySem.W.listOf its n)) : h.IsList a its := ⟨_, e, rfl, n, rfl⟩

/-! len -/
theorem r_len_ints {Q : Value → Shared → Prop} (H : At prog w K p lo O g L ρ σ s) (hm : (a, Sp.ints ns) ∈ σ) (hf : ns.length < 9000000) (h : ∀ t s', At prog w K p lo O g L ρ σ s' → Q (.int ns.length t) s') :
    wpAny (model prog w) A (call (.builtin "len") [.ref a]) Q E s := by
  obtain ⟨vs, n, e, hi⟩ := H.ints hm
  have el : vs.toArray.size = ns.length := by rw [List.size_toArray]; exact hi.length
  exact call_len_list (isListOf e) (by rw [el]; omega) (by rw [el]; exact h _ _ H.toks)
theorem r_len_refs {Q : Value → Shared → Prop} (H : At prog w K p lo O g L ρ σ s) (hm : (a, Sp.refs as) ∈ σ) (hf : as.length < 9000000) (h : ∀ t s', At prog w K p lo O g L ρ σ s' → Q (.int as.length t) s') :
    wpAny (model prog w) A (call (.builtin "len") [.ref a]) Q E s := by
  obtain ⟨n, e⟩ := H.refs hm
  have el : (as.map Value.ref).toArray.size = as.length := by simp
  exact call_len_list (isListOf e) (by rw [el]; omega) (by rw [el]; exact h _ _ H.toks)
theorem r_len_dict {Q : Value → Shared → Prop} (H : At prog w K p lo O g L ρ σ s) (hm : (a, Sp.idict kvs) ∈ σ) (hf : kvs.length < 9000000) (h : ∀ t s', At prog w K p lo O g L ρ σ s' → Q (.int kvs.length t) s') :
    wpAny (model prog w) A (call (.builtin "len") [.ref a]) Q E s :=
  call_len_dict (H.low hm) (H.dict hm) (by omega) (h _ _ H.toks)

/-! items -/
section
variable {value slice : PySem.Expr}
theorem r_item_ints {Q : Value → Shared → Prop} (H : At prog w K p lo O g L ρ σ s) (hm : (a, Sp.ints ns) ∈ σ) (h0 : 0 ≤ k) (h1 : k < ns.length) (h2 : ns.length < 9000000) (h : ∀ t, Q (.int (ns.getD k.toNat 0) t) s)
    (hs : subscripted slice false (.ref a) (.int k u) = operate [.ref a, .int k u] (getItem (.ref a) (.int k u)) := by with_unfolding_all rfl) :
    wpAny (model prog w) A (subscriptTail value slice (.ref a) (.int k u)) Q E s := by
  obtain ⟨vs, n, e, hi⟩ := H.ints hm
  exact item_anyK (isListOf e) hi h0 h1 (by omega) h hs
theorem r_item_refs {Q : Value → Shared → Prop} (H : At prog w K p lo O g L ρ σ s) (hm : (a, Sp.refs as) ∈ σ) (h0 : 0 ≤ k) (h2 : k < 9000000) (hx : as[k.toNat]? = some b) (h : Q (.ref b) s)
    (hs : subscripted slice false (.ref a) (.int k u) = operate [.ref a, .int k u] (getItem (.ref a) (.int k u)) := by with_unfolding_all rfl) :
    wpAny (model prog w) A (subscriptTail value slice (.ref a) (.int k u)) Q E s := by
  obtain ⟨n, e⟩ := H.refs hm
  exact tail_any (isListOf e).typeIs slot_list_getitem.lookup (wpAny_getItem_list (isListOf e) h0 (by omega) (by simp [hx]) h) hs
theorem r_item_dict {Q : Value → Shared → Prop} (H : At prog w K p lo O g L ρ σ s) (hm : (a, Sp.idict kvs) ∈ σ) (hx : valueAt kvs k = some v) (h : ∀ s', At prog w K p lo O g L ρ σ s' → Q v s')
    (hs : subscripted slice false (.ref a) (.int k u) = operate [.ref a, .int k u] (getItem (.ref a) (.int k u)) := by with_unfolding_all rfl) :
    wpAny (model prog w) A (subscriptTail value slice (.ref a) (.int k u)) Q E s :=
  have D := H.dict hm
  tail_any D.typeIs slot_dict_getitem.lookup (wpAny_getItem_of (knd := PySem.intKind prog w) (intKind_is prog w k u) D.mapOf hx (h _ H.toks)) hs
end

/-! in -/
theorem r_in_dict {Q : Value → Shared → Prop} (H : At prog w K p lo O g L ρ σ s) (hm : (a, Sp.idict kvs) ∈ σ) (h : ∀ s', At prog w K p lo O g L ρ σ s' → Q (.bool (valueAt kvs k).isSome) s') :
    wpAny (model prog w) A (compareOp .In (.int k u) (.ref a)) Q E s := wpAny_in_of (knd := PySem.intKind prog w) (intKind_is prog w k u) (H.low hm) (H.dict hm).mapOf (h _ H.toks)
theorem r_notin_dict {Q : Value → Shared → Prop} (H : At prog w K p lo O g L ρ σ s) (hm : (a, Sp.idict kvs) ∈ σ) (h : ∀ s', At prog w K p lo O g L ρ σ s' → Q (.bool (!(valueAt kvs k).isSome)) s') :
    wpAny (model prog w) A (compareOp .NotIn (.int k u) (.ref a)) Q E s := wpAny_notIn_of (knd := PySem.intKind prog w) (intKind_is prog w k u) (H.low hm) (H.dict hm).mapOf (h _ H.toks)
theorem r_in_ints {Q : Value → Shared → Prop} (H : At prog w K p lo O g L ρ σ s) (hm : (a, Sp.ints ns) ∈ σ) (h : Q (.bool (ns.any (· == k))) s) :
    wpAny (model prog w) A (compareOp .In (.int k u) (.ref a)) Q E s := by
  obtain ⟨vs, n, e, hi⟩ := H.ints hm; exact in_list_ints (isListOf e) hi h
theorem r_notin_ints {Q : Value → Shared → Prop} (H : At prog w K p lo O g L ρ σ s) (hm : (a, Sp.ints ns) ∈ σ) (h : Q (.bool (!(ns.any (· == k)))) s) :
    wpAny (model prog w) A (compareOp .NotIn (.int k u) (.ref a)) Q E s := by
  obtain ⟨vs, n, e, hi⟩ := H.ints hm; exact notin_list_ints (isListOf e) hi h

/-! methods of lists and dicts -/
theorem r_meth_ints {name : Str} {id : String} {pl : Sem Bool} {Q : Value × List Value → Shared → Prop} (H : At prog w K p lo O g L ρ σ s) (hm : (a, Sp.ints ns) ∈ σ) (slot : Slot "list" name id) (ty : typeOf (.builtin id) = pure (.type "method_descriptor"))
    (h : Q (.builtin id, [.ref a]) s) : wpAny (model prog w) A (getMethod (.ref a) name pl) Q E s := by
  obtain ⟨vs, n, e, hi⟩ := H.ints hm
  exact getMethod_builtin ⟨_, e, rfl⟩ PySem.F.plainAttrs_list slot ty (fun b eb => by cases eb; exact ⟨_, e, rfl⟩) h
theorem r_meth_refs {name : Str} {id : String} {pl : Sem Bool} {Q : Value × List Value → Shared → Prop} (H : At prog w K p lo O g L ρ σ s) (hm : (a, Sp.refs as) ∈ σ) (slot : Slot "list" name id) (ty : typeOf (.builtin id) = pure (.type "method_descriptor"))
    (h : Q (.builtin id, [.ref a]) s) : wpAny (model prog w) A (getMethod (.ref a) name pl) Q E s := by
  obtain ⟨n, e⟩ := H.refs hm
  exact getMethod_builtin ⟨_, e, rfl⟩ PySem.F.plainAttrs_list slot ty (fun b eb => by cases eb; exact ⟨_, e, rfl⟩) h
theorem r_meth_dict {name : Str} {id : String} {pl : Sem Bool} {Q : Value × List Value → Shared → Prop} (H : At prog w K p lo O g L ρ σ s) (hm : (a, Sp.idict kvs) ∈ σ) (slot : Slot "dict" name id) (ty : typeOf (.builtin id) = pure (.type "method_descriptor"))
    (h : Q (.builtin id, [.ref a]) s) : wpAny (model prog w) A (getMethod (.ref a) name pl) Q E s :=
  have D := H.dict hm
  getMethod_builtin D.typeIs PySem.F.plainAttrs_dict slot ty D.mapOf.noDict h
theorem r_get1 {Q : Value → Shared → Prop} (H : At prog w K p lo O g L ρ σ s) (hm : (a, Sp.idict kvs) ∈ σ) (h : ∀ s', At prog w K p lo O g L ρ σ s' → Q ((valueAt kvs k).getD .none) s') :
    wpAny (model prog w) A (call (.builtin "dict.get") [.ref a, .int k u]) Q E s :=
  have D := H.dict hm
  call_meetsIn PySem.F.slot_dict_get D.typeIs PySem.F.entry_dict_get (PySem.F.args_dict_get_2 _ _) (meets_dict_get (PySem.intKind prog w) a (intKind_is prog w k u) (H.low hm)) ⟨_, D.mapOf, h _ H.toks⟩

/-! stores -/
theorem r_set_dict {Q : Unit → Shared → Prop} (H : At prog w K p lo O g L ρ σ s) (U : Up a (.idict kvs) (.idict (stored kvs k v)) σ σ') (hsz : kvs.length < 9000000) (h : ∀ s', At prog w K p lo O g L ρ σ' s' → Q () s') :
    wpAny (model prog w) A (setItem (.ref a) (.int k u) v) Q E s :=
  wpAny_setItem_pairs (hsz := by rw [sizeLine_eq]; omega) (knd := PySem.intKind prog w) (intKind_is prog w k u) (H.dict U.mem) fun h' hD hs =>
    h _ (H.upd U hs (let ⟨o, e, k⟩ := Heap.dictOf_iff.mp hD; ⟨o, e, k⟩))
theorem r_del_dict {Q : Unit → Shared → Prop} (H : At prog w K p lo O g L ρ σ s) (U : Up a (.idict kvs) (.idict (without kvs k)) σ σ') (hl : (valueAt kvs k).isSome = true) (hsz : kvs.length < 9000000) (h : ∀ s', At prog w K p lo O g L ρ σ' s' → Q () s') :
    wpAny (model prog w) A (delItem (.ref a) (.int k u)) Q E s := by
  have hD := H.dict U.mem
  unfold delItem
  try with_reducible refine wpAny_holding ?_
  refine wpAny_bind (wpAny_sequenceKey hD.typeIs (by decide) ?_)
  refine wpAny_bind (wpAny_callSpecial?_slot (name := Str.ofString "__delitem__") hD.typeIs PySem.F.slot_dict_delitem
    (call_meetsIn PySem.F.slot_dict_delitem hD.typeIs PySem.F.entry_dict_delitem (PySem.F.args_dict_delitem_2 _ _) (meets_dict_delitem_pairs (PySem.intKind prog w) a (intKind_is prog w k u)) ⟨kvs, hD, by rw [sizeLine_eq]; omega, hl, fun h' hmm hs => ?_⟩))
  exact wpAny_pure (h _ (H.upd U hs (let ⟨o, e, k⟩ := Heap.dictOf_iff.mp hmm; ⟨o, e, k⟩)))
theorem r_set_ints {Q : Unit → Shared → Prop} (H : At prog w K p lo O g L ρ σ s) (U : Up a (.ints ns) (.ints (ns.set k.toNat x)) σ σ') (h0 : 0 ≤ k) (h1 : k < ns.length) (h2 : ns.length < 9000000) (h : ∀ s', At prog w K p lo O g L ρ σ' s' → Q () s') :
    wpAny (model prog w) A (setItem (.ref a) (.int k t) (.int x u)) Q E s := by
  obtain ⟨vs, n, e, hi⟩ := H.ints U.mem
  have hl : vs.toArray.size = ns.length := by rw [List.size_toArray]; exact hi.length
  have q := PySem.IsL.update e (fun x_1 => x_1.setIfInBounds k.toNat (.int x u))
  have he : vs.toArray.setIfInBounds k.toNat (.int x u) = (vs.set k.toNat (.int x u)).toArray := by simp
  rw [he] at q
  exact ki_setAt e h0 (by omega) (by rw [hl]; exact h1) (h _ (H.upd U (Heap.SameBut.update ..) ⟨_, q, _, _, rfl, ints_set hi _⟩))

/-! growing, shrinking -/
theorem r_append_ints {Q : Value → Shared → Prop} (H : At prog w K p lo O g L ρ σ s) (U : Up a (.ints ns) (.ints (ns ++ [k])) σ σ') (hz : ns.length < 9000000) (h : ∀ s', At prog w K p lo O g L ρ σ' s' → Q .none s') :
    wpAny (model prog w) A (call (.builtin "list.append") [.ref a, .int k u]) Q E s := by
  obtain ⟨vs, n, e, hi⟩ := H.ints U.mem
  refine append_at (hsz := by rw [List.size_toArray, hi.length, sizeLine_eq]; omega) e fun h' hs e' => h _ (H.upd U hs ⟨_, e', vs ++ [.int k u], n + 1, ?_, hi.append (.cons k u .nil)⟩)
  simp
theorem r_append_refs {Q : Value → Shared → Prop} (H : At prog w K p lo O g L ρ σ s) (U : Up a (.refs as) (.refs (as ++ [b])) σ σ') (hz : as.length < 9000000) (h : ∀ s', At prog w K p lo O g L ρ σ' s' → Q .none s') :
    wpAny (model prog w) A (call (.builtin "list.append") [.ref a, .ref b]) Q E s := by
  obtain ⟨n, e⟩ := H.refs U.mem
  refine append_at (hsz := by simp only [List.size_toArray, List.length_map]; rw [sizeLine_eq]; omega) e fun h' hs e' => h _ (H.upd U hs ⟨_, e', n + 1, ?_⟩)
  simp
theorem popLast {Q : Value → Shared → Prop} {vs : List Value} {y : Value} {n : Nat} (e : s.heap.get? a = some (PySem.W.listOf (vs ++ [y]).toArray n)) (hz : vs.length < 9000000)
    (h : ∀ h', Heap.SameBut a s.heap h' → h'.get? a = some (PySem.W.listOf vs.toArray (n + 1)) → Q y { s with heap := h' }) : wpAny (model prog w) A (call (.builtin "list.pop") [.ref a]) Q E s := by
  have hz' : (vs ++ [y]).toArray.size ≤ sizeLine := by rw [List.size_toArray, List.length_append, sizeLine_eq]; simp; omega
  have hk : (vs ++ [y]).toArray.size - 1 = vs.length := by rw [List.size_toArray, List.length_append]; rfl
  have hy : (vs ++ [y]).toArray[(vs ++ [y]).toArray.size - 1]? = some y := by rw [hk]; simp
  refine call_meets PySem.F.slot_list_pop ⟨_, e, rfl⟩ PySem.F.entry_list_pop (PySem.F.args_list_pop_1 _) (PySem.MeetsSeq.list_pop_last a _ n y hy hz') ⟨e, h _ (Heap.SameBut.update ..) ?_⟩
  have q := PySem.IsL.update e (fun xs => xs.eraseIdxIfInBounds ((vs ++ [y]).toArray.size - 1))
  have he : (vs ++ [y]).toArray.eraseIdxIfInBounds ((vs ++ [y]).toArray.size - 1) = vs.toArray := by rw [hk, kl_erase, List.append_nil]
  rw [he, if_neg (by simp)] at q
  exact q
theorem r_pop_ints {Q : Value → Shared → Prop} (H : At prog w K p lo O g L ρ σ s) (U : Up a (.ints (ns ++ [k])) (.ints ns) σ σ') (hz : ns.length < 9000000) (h : ∀ t s', At prog w K p lo O g L ρ σ' s' → Q (.int k t) s') :
    wpAny (model prog w) A (call (.builtin "list.pop") [.ref a]) Q E s := by
  obtain ⟨vs, n, e, hi⟩ := H.ints U.mem
  have hlen := hi.length
  obtain ⟨y, t, h1, h2, h3⟩ := kpa_ints hi (by rw [hlen, List.length_append]; exact Nat.succ_pos _)
  have hg : (ns ++ [k]).getLastD 0 = k := by simp
  rw [hg] at h2
  rw [List.dropLast_concat] at h3
  rw [h1] at e
  refine popLast e (by rw [h3.length]; exact hz) fun h' hs e' => ?_
  subst h2
  exact h _ _ (H.upd U hs ⟨_, e', _, _, rfl, h3⟩)
theorem r_pop_refs {Q : Value → Shared → Prop} (H : At prog w K p lo O g L ρ σ s) (U : Up a (.refs (as ++ [b])) (.refs as) σ σ') (hz : as.length < 9000000) (h : ∀ s', At prog w K p lo O g L ρ σ' s' → Q (.ref b) s') :
    wpAny (model prog w) A (call (.builtin "list.pop") [.ref a]) Q E s := by
  obtain ⟨n, e⟩ := H.refs U.mem
  rw [List.map_append] at e
  exact popLast e (by simpa using hz) fun h' hs e' => h _ (H.upd U hs ⟨_, e', _, rfl⟩)
theorem r_pop0_ints {Q : Value → Shared → Prop} (H : At prog w K p lo O g L ρ σ s) (U : Up a (.ints (k :: ns)) (.ints ns) σ σ') (hz : ns.length < 9000000) (h : ∀ t s', At prog w K p lo O g L ρ σ' s' → Q (.int k t) s') :
    wpAny (model prog w) A (call (.builtin "list.pop") [.ref a, .int 0 u]) Q E s := by
  obtain ⟨vs, n, e, hi⟩ := H.ints U.mem
  cases hi with
  | @cons _ t us _ hi' =>
    have hz' : (Value.int k t :: us).toArray.size ≤ sizeLine := by rw [List.size_toArray, List.length_cons, hi'.length, sizeLine_eq]; omega
    refine call_meets PySem.F.slot_list_pop ⟨_, e, rfl⟩ PySem.F.entry_list_pop (PySem.F.args_list_pop_2 _ _)
      (PySem.MeetsSeq.list_pop_at a _ n 0 u 0 (Value.int k t) (by decide) (by simp [seqIndex?]) (by simp) hz') ⟨e, h _ _ (H.upd U (Heap.SameBut.update ..) ?_)⟩
    have q := PySem.IsL.update e (fun xs => xs.eraseIdxIfInBounds 0)
    have he : (Value.int k t :: us).toArray.eraseIdxIfInBounds 0 = us.toArray := kl_erase [] us (Value.int k t)
    rw [he, if_neg (by simp)] at q
    exact ⟨_, q, us, _, rfl, hi'⟩
end
end Mine
namespace Mine

section
variable {prog : Program} {w : World} {K : Frag} {p : Program} {lo : List Str} {O : OsState} {g h h' : Heap} {L a b : Addr} {ρ ρ' : Locs} {σ σ' τ : Ledger} {s : Shared} {sp sp' : Sp} {m : Str → Option Value} {o : Obj}
  {A : Around} {E : Value → Shared → Prop} {ns ms : List Int} {as : List Addr} {kvs : List (Int × Value)} {k x : Int} {t u : Tok} {v : Value}

/-! made objects -/
theorem At.push (H : At prog w K p lo O g L ρ σ s) {o : Obj} (k : sp.ok prog w o) (hfree : o.isFreed = false := by rfl) {tk : Tok} : At prog w K p lo O g L ρ ((s.heap.objs.size, sp) :: σ) { s with heap := s.heap.push o, toks := tk } :=
  H.alloc (s' := { s with heap := s.heap.push o, toks := tk }) (fun b o' e => Heap.get?_push_of_some _ e) (Nat.le_refl _) ⟨o, Heap.get?_push_size _ hfree, k⟩

theorem r_newList_ints {vs : List Value} {Q : Value → Shared → Prop} (H : At prog w K p lo O g L ρ σ s) (hi : IntsAre vs ns) (hz : ns.length < 9000000) (h : ∀ D s', At prog w K p lo O g L ρ ((D, .ints ns) :: σ) s' → Q (.ref D) s') :
    wpAny (model prog w) A (newList vs) Q E s :=
  wpAny_newObj_type (h _ _ (H.push (tk := s.toks) (sp := .ints ns) ⟨vs, 0, rfl, hi⟩)) (by show vs.toArray.size ≤ sizeLine; rw [List.size_toArray, hi.length, sizeLine_eq]; omega)
theorem r_newList_refs {Q : Value → Shared → Prop} (as : List Addr) (H : At prog w K p lo O g L ρ σ s) {vs : List Value} (hv : vs = as.map Value.ref) (hz : as.length < 9000000) (h : ∀ D s', At prog w K p lo O g L ρ ((D, .refs as) :: σ) s' → Q (.ref D) s') :
    wpAny (model prog w) A (newList vs) Q E s := by
  subst hv
  exact wpAny_newObj_type (h _ _ (H.push (tk := s.toks) (sp := .refs as) ⟨0, rfl⟩)) (by show (as.map Value.ref).toArray.size ≤ sizeLine; simp only [List.size_toArray, List.length_map]; rw [sizeLine_eq]; omega)
theorem r_newDict {env : Env} {pos : Pos} {Q : Value → Shared → Prop} (H : At prog w K p lo O g L ρ σ s) (h : ∀ D s', At prog w K p lo O g L ρ ((D, .idict []) :: σ) s' → Q (.ref D) s') :
    wpAny (model prog w) A (eval (.Dict [] [] pos) env) Q E s := by
  obtain ⟨o, ho, hd⟩ := Heap.dictOf_iff.mp (Heap.DictOf.new (knd := PySem.intKind prog w) s.heap)
  rw [Heap.get?_push_size _ rfl] at ho
  cases ho
  exact wpAny_Dict_empty (h _ _ (H.push (tk := s.toks) (sp := .idict []) hd))
theorem r_copy_ints {Q : Value → Shared → Prop} (H : At prog w K p lo O g L ρ σ s) (hm : (a, Sp.ints ns) ∈ σ) (hz : ns.length < 9000000) (h : ∀ D s', At prog w K p lo O g L ρ ((D, .ints ns) :: σ) s' → Q (.ref D) s') :
    wpAny (model prog w) A (call (.type "list") [.ref a]) Q E s := by
  obtain ⟨vs, n, e, hi⟩ := H.ints hm
  exact call_list_seq (hsz := by rw [List.size_toArray, hi.length, sizeLine_eq]; omega) a (.inl rfl) e rfl rfl fun h' c' hk hD => h _ _ (H.alloc (s' := { s with heap := h' }) hk (Nat.le_refl _) ⟨_, hD, vs, c', rfl, hi⟩)

theorem r_sorted_ints {Q : Value → Shared → Prop} (H : At prog w K p lo O g L ρ σ s) (hm : (a, Sp.ints ns) ∈ σ) (h64 : ns.length < 64) (h : ∀ D ms s', ms.Perm ns → ms.Pairwise (· ≤ ·) → At prog w K p lo O g L ρ ((D, .ints ms) :: σ) s' → Q (.ref D) s') :
    wpAny (model prog w) A (call (.builtin "sorted") [.ref a]) Q E s := by
  obtain ⟨vs, n, e, hi⟩ := H.ints hm
  refine sorted_ints (isListOf e) hi (by rw [hi.length]; exact h64) fun out ms a1 a2 a3 => ?_
  obtain ⟨e', he'⟩ := sortedAll_at s.heap vs out
  exact h _ ms _ a2 a3 (H.alloc (s' := { s with heap := sortedAll s.heap vs out }) (fun _ _ => sortedAll_old) (Nat.le_succ _) ⟨_, he', out.toList, e', by rw [Array.toArray_toList], a1⟩)

theorem ints_of_keys : ∀ {vs : List Value} {kvs : List (Int × Value)}, vs.length = kvs.length → (∀ (j : Nat) (v : Value), vs[j]? = some v → ∃ k x, kvs[j]? = some (k, x) ∧ (PySem.intKind prog w).is k v = true) → IntsAre vs (kvs.map (·.1))
  | [], [], _, _ => .nil
  | v :: vs, q :: kvs, hl, hv => by
    obtain ⟨k, x, e1, e2⟩ := hv 0 v rfl
    obtain ⟨t, rfl⟩ := Value.isInt_shape e2
    have : q = (k, x) := by simpa using e1
    subst this
    exact .cons _ _ (ints_of_keys (by simpa using hl) fun j v e => hv (j + 1) v (by simpa using e))

theorem sort_at {Q : Value → Shared → Prop} {vs : List Value} {n : Nat} (e : s.heap.get? a = some (PySem.W.listOf vs.toArray n)) (hi : IntsAre vs ns) (h64 : ns.length < 64)
    (h : ∀ (h' : Heap) (vs' : List Value) (ms : List Int) n', (∀ b o, b ≠ a → s.heap.get? b = some o → h'.get? b = some o) → h'.get? a = some (PySem.W.listOf vs'.toArray n') → IntsAre vs' ms → ms.Perm ns → ms.Pairwise (· ≤ ·) → Q .none { s with heap := h' }) :
    wpAny (model prog w) A (call (.builtin "list.sort") [.ref a]) Q E s := by
  refine wpAny_call_entry slot_list_sort ⟨_, e, rfl⟩ entry_list_sort (list_sort_tree e hi (by rw [hi.length]; exact h64) fun out ms a1 a2 a3 => ⟨_, rfl, ?_⟩) (args_list_sort _)
  obtain ⟨e', he'⟩ := sortedHeap_at (vs := vs) (out := out) e
  exact h _ out.toList ms e' (fun b o hb eb => (sortedHeap_old hb (Heap.lt_size eb)).trans eb) (by rw [Array.toArray_toList]; exact he') a1 a2 a3

theorem r_sorted_dict {Q : Value → Shared → Prop} (H : At prog w K p lo O g L ρ σ s) (hm : (a, Sp.idict kvs) ∈ σ) (hh : A.handled = none) (h64 : kvs.length < 64)
    (h : ∀ D ms s', ms.Perm (kvs.map (·.1)) → ms.Pairwise (· ≤ ·) → At prog w K p lo O g L ρ ((D, .ints ms) :: σ) s' → Q (.ref D) s') :
    wpAny (model prog w) A (call (.builtin "sorted") [.ref a]) Q E s := by
  obtain ⟨news, m, F, hρ, N, la⟩ := H.news
  obtain ⟨ep, hat⟩ := (H.dict hm).dictAt
  have low : sysModules < a := H.led.high _ hm
  refine kdu_sorted (kdl_dict (knd := PySem.intKind prog w) (kvs := kvs) (ep := ep) (H.low hm)) hh F N hat (by rw [sizeLine_eq]; omega) fun D h' tk vs F' N' l1 hl hv => ?_
  have hi := ints_of_keys hl hv
  obtain ⟨o, _, hmem⟩ := la.mem hm
  have lD : sysModules < D := Nat.lt_trans low (l1 _ hmem)
  have H' : At prog w K p lo O g L ρ ((D, .ints (kvs.map (·.1))) :: σ) { s with heap := h', toks := tk } := H.ofNewsC F' hρ N' la ⟨vs, 0, rfl, hi⟩ l1 lD
  have eD : h'.get? D = some (PySem.W.listOf vs.toArray 0) := (N' _ (.head _)).1
  refine sort_at (s := { s with heap := h', toks := tk }) eD hi (by rw [List.length_map]; exact h64) fun h2 vs' ms n' k2 e2 i2 p2 o2 => h D ms _ p2 o2 ?_
  obtain ⟨⟨m', F1, hm'⟩, l, g1, g2, S⟩ := H'
  have hDL : D ≠ L := l.neL _ (.head _)
  have hDg : g.get? D = none := l.new _ (.head _)
  have F2 : Fr g L h2 m' := by
    obtain ⟨oL, a1, a2, hL, a3⟩ := F1.ns
    exact ⟨⟨oL, a1, a2, k2 _ _ (Ne.symm hDL) hL, a3⟩, fun b o e => k2 _ _ (fun q => by rw [q, hDg] at e; cases e) (F1.keep b o e), F1.above⟩
  refine ⟨⟨m', F2, hm'⟩, ⟨fun q hq => ?_, fun q hq => ?_, fun q hq => ?_, fun q hq => ?_, by have := l.nd; simpa using this⟩, g1, g2, S⟩
  · rcases List.mem_cons.mp hq with rfl | hq
    · exact ⟨_, e2, vs', n', rfl, i2⟩
    · obtain ⟨o, e, r⟩ := l.at_ q (.tail _ hq)
      refine ⟨o, k2 _ _ (fun e => ?_) e, r⟩
      have nd := l.nd
      rw [List.map_cons, List.nodup_cons] at nd
      exact nd.1 (by rw [← e]; exact List.mem_map_of_mem (f := (·.1)) hq)
  · rcases List.mem_cons.mp hq with rfl | hq
    · exact hDL
    · exact l.neL q (.tail _ hq)
  · rcases List.mem_cons.mp hq with rfl | hq
    · exact hDg
    · exact l.new q (.tail _ hq)
  · rcases List.mem_cons.mp hq with rfl | hq
    · exact lD
    · exact l.high q (.tail _ hq)

/-! comparisons of lists of ints -/
theorem r_eq_ints {Q : Value → Shared → Prop} (H : At prog w K p lo O g L ρ σ s) (hm : (a, Sp.ints ns) ∈ σ) (hm' : (b, Sp.ints ms) ∈ σ) (hu : A.units + 64 < cLine) (h : Q (.bool (decide (ns = ms))) s) :
    wpAny (model prog w) A (compareOp .Eq (.ref a) (.ref b)) Q E s := by
  obtain ⟨vs, n, e, hi⟩ := H.ints hm
  obtain ⟨us, n', e', hi'⟩ := H.ints hm'
  exact eq_intsK (isListOf e) hi (isListOf e') hi' hu h
theorem r_ne_ints {Q : Value → Shared → Prop} (H : At prog w K p lo O g L ρ σ s) (hm : (a, Sp.ints ns) ∈ σ) (hm' : (b, Sp.ints ms) ∈ σ) (hu : A.units + 64 < cLine) (h : Q (.bool (!decide (ns = ms))) s) :
    wpAny (model prog w) A (compareOp .NotEq (.ref a) (.ref b)) Q E s := by
  obtain ⟨vs, n, e, hi⟩ := H.ints hm
  obtain ⟨us, n', e', hi'⟩ := H.ints hm'
  exact ne_intsK (isListOf e) hi (isListOf e') hi' hu h

/-! iterators -/
structure Src (prog : Program) (w : World) (K : Frag) (p : Program) (lo : List Str) (O : OsState) (A : Around) (it : Addr) (isp : Nat → Sp) (n : Nat) (val : Nat → Value → Prop) (need : Ledger → Prop) : Prop where
  item : ∀ {g : Heap} {L : Addr} {ρ : Locs} {σ : Ledger} {s : Shared} {i : Nat} {Q : Option Value → Shared → Prop} {E : Value → Shared → Prop}, At prog w K p lo O g L ρ ((it, isp i) :: σ) s → need σ → i < n →
    (∀ v s', val i v → At prog w K p lo O g L ρ ((it, isp (i + 1)) :: σ) s' → Q (some v) s') → wpAny (model prog w) A (pyNext (.ref it)) Q E s
  done : ∀ {g : Heap} {L : Addr} {ρ : Locs} {σ : Ledger} {s : Shared} {Q : Option Value → Shared → Prop} {E : Value → Shared → Prop}, At prog w K p lo O g L ρ ((it, isp n) :: σ) s → need σ →
    (∀ s', At prog w K p lo O g L ρ σ s' → Q none s') → wpAny (model prog w) A (pyNext (.ref it)) Q E s

abbrev listIt (l : Addr) (i : Nat) : Sp := .obj { cls := .type "list_iterator", data := .fields #[.ref l, .int i 0] }
abbrev rangeIt (n i : Nat) : Sp := .obj { cls := .type "range_iterator", data := .fields #[rawInt (i : Int), rawInt ((n : Int) - (i : Int)), rawInt 1] }

theorem At.extBut (H : At prog w K p lo O g L ρ ((a, sp) :: σ) s) {s' : Shared} (hk : Heap.ExtBut a s.heap s'.heap) (hg : s'.gens = s.gens := by rfl) (ho : s'.os = s.os := by rfl) : At prog w K p lo O g L ρ σ s' := by
  obtain ⟨⟨m', F1, hm'⟩, l, g1, g2, S⟩ := H
  have hDL : a ≠ L := l.neL _ (.head _)
  have hDg : g.get? a = none := l.new _ (.head _)
  have F2 : Fr g L s'.heap m' := by
    obtain ⟨oL, a1, a2, hL, a3⟩ := F1.ns
    exact ⟨⟨oL, a1, a2, hk _ _ (Ne.symm hDL) hL, a3⟩, fun b o e => hk _ _ (fun q => by rw [q, hDg] at e; cases e) (F1.keep b o e), F1.above⟩
  have nd := l.nd
  rw [List.map_cons, List.nodup_cons] at nd
  refine ⟨⟨m', F2, hm'⟩, ⟨fun q hq => ?_, fun q hq => l.neL q (.tail _ hq), fun q hq => l.new q (.tail _ hq), fun q hq => l.high q (.tail _ hq), nd.2⟩, hg.trans g1, ho.trans g2, S⟩
  obtain ⟨o, e, r⟩ := l.at_ q (.tail _ hq)
  exact ⟨o, hk _ _ (fun e => nd.1 (by rw [← e]; exact List.mem_map_of_mem (f := (·.1)) hq)) e, r⟩

theorem listIter_eq {h : Heap} {it l : Addr} {i : Nat} {o : Obj} (e : h.get? it = some o) (k : o = { cls := .type "list_iterator", data := .fields #[.ref l, .int i 0] }) : h.IsListIter it l i := ⟨o, e, by rw [k], by rw [k]⟩

theorem pyNext_list {it l : Addr} {i : Nat} {items : Array Value} {x : Value} {Q : Option Value → Shared → Prop} (hit : s.heap.get? it = some { cls := .type "list_iterator", data := .fields #[.ref l, .int i 0] }) (hl : s.heap.IsList l items) (hx : items[i]? = some x)
    (hQ : ∀ h', h'.get? it = some { cls := .type "list_iterator", data := .fields #[.ref l, .int (i + 1 : Nat) 0] } → Heap.SameBut it s.heap h' → Q (some x) { s with heap := h' }) : wpAny (model prog w) A (pyNext (.ref it)) Q E s := by
  obtain ⟨ol, hol, _, nl, hdl⟩ := hl
  have hT : s.TypeIs (.ref it) "list_iterator" := ⟨_, hit, rfl⟩
  unfold pyNext
  refine wpAny_bind (wpAny_attempt (wpAny_callSpecial?_slot (name := Str.ofString "__next__") hT slot_listiter_next
    (wpAny_call_entry slot_listiter_next hT entry_listiter_next ?_ (args_listiter_next _))))
  show wpAny _ _ (field (.ref it) 0 >>= _) _ _ s
  refine wpAny_bind (wpAny_field hit rfl (x := .ref l) rfl ?_)
  show wpAny _ _ (if (Value.ref l == Value.none) = true then _ else _) _ _ s
  rw [if_neg (show ¬ ((Value.ref l == Value.none) = true) from Bool.false_ne_true)]
  show wpAny _ _ (field (.ref it) 1 >>= _) _ _ s
  refine wpAny_bind (wpAny_field hit rfl (x := .int i 0) rfl ?_)
  show wpAny _ _ (seqItems? (.ref l) >>= _) _ _ s
  refine wpAny_bind (wpAny_seqItems hol hdl ?_)
  simp only [Int.toNat_natCast, hx]
  refine wpAny_bind (wpAny_setField hit rfl (by simp) (wpAny_pure ⟨x, rfl, wpAny_pure (hQ _ ?_ (Heap.SameBut.update ..))⟩))
  rw [Heap.get?_update_self _ hit rfl]
  simp [rawInt, Obj.mapFields]

theorem src_seq {it l : Addr} {n : Nat} {val : Nat → Value → Prop} (sp : Sp) (hh : A.handled = none) (hsp : ∀ o, sp.ok prog w o → ∃ (vs : List Value) (n' : Nat), o = PySem.W.listOf vs.toArray n' ∧ vs.length = n ∧ ∀ i v, vs[i]? = some v → val i v) :
    Src prog w K p lo O A it (listIt l) n val (fun σ => (l, sp) ∈ σ) where
  item := by
    intro g L ρ σ s i Q E H hm hi hQ
    obtain ⟨o, e, k⟩ := H.led.get (.tail _ hm)
    obtain ⟨vs, n', rfl, hl, hv⟩ := hsp o k
    obtain ⟨oi, ei, ki⟩ := H.led.get (.head _)
    have ki' : oi = _ := ki
    subst ki'
    have hx : vs[i]? = some (vs[i]'(by omega)) := List.getElem?_eq_getElem _
    exact pyNext_list ei (isListOf e) (by simpa using hx) fun h' e' hs => hQ _ _ (hv _ _ hx) (H.upd .head hs ⟨_, e', rfl⟩)
  done := by
    intro g L ρ σ s Q E H hm hQ
    obtain ⟨o, e, k⟩ := H.led.get (.tail _ hm)
    obtain ⟨vs, n', rfl, hl, hv⟩ := hsp o k
    obtain ⟨oi, ei, ki⟩ := H.led.get (.head _)
    exact wpAny_pyNext_list_end hh (listIter_eq ei ki) (isListOf e) (by simp [hl]) fun h' hs => hQ _ (H.extBut (s' := { s with heap := h' }) hs)

theorem src_ints {it l : Addr} (hh : A.handled = none) : Src prog w K p lo O A it (listIt l) ns.length (fun i v => ∃ t, ∃ h : i < ns.length, v = .int ns[i] t) (fun σ => (l, Sp.ints ns) ∈ σ) :=
  src_seq (.ints ns) hh fun o ⟨vs, n', e, hi⟩ => ⟨vs, n', e, hi.length, fun i v ev => by
    obtain ⟨t, e1⟩ := hi.int_at i v ev
    have hlt : i < ns.length := by rw [← hi.length]; exact (List.getElem?_eq_some_iff.mp ev).1
    refine ⟨t, hlt, ?_⟩
    rw [e1]; simp [hlt]⟩
theorem src_refs {it l : Addr} (hh : A.handled = none) : Src prog w K p lo O A it (listIt l) as.length (fun i v => ∃ h : i < as.length, v = .ref as[i]) (fun σ => (l, Sp.refs as) ∈ σ) :=
  src_seq (.refs as) hh fun o ⟨n', e⟩ => ⟨_, n', e, by simp, fun i v ev => by
    rw [List.getElem?_map] at ev
    obtain ⟨b, eb, rfl⟩ := Option.map_eq_some_iff.mp ev
    obtain ⟨hlt, rfl⟩ := List.getElem?_eq_some_iff.mp eb
    exact ⟨hlt, rfl⟩⟩
theorem src_range {it : Addr} {n : Nat} (hh : A.handled = none) : Src prog w K p lo O A it (rangeIt n) n (fun i v => ∃ t, v = .int (i : Int) t) (fun _ => True) where
  item := by
    intro g L ρ σ s i Q E H hm hi hQ
    obtain ⟨oi, ei, ki⟩ := H.led.get (.head _)
    have ki' : oi = _ := ki
    subst ki'
    refine wpAny_pyNext_range_item (x := (i : Int)) (left := (n : Int) - (i : Int)) (step := 1) ei (by omega) fun h' e' hs => hQ _ _ ⟨_, rfl⟩ (H.upd (s' := { s with heap := h', toks := s.toks + 1 }) .head hs ⟨_, e', ?_⟩)
    have e1 : (n : Int) - (i : Int) - 1 = (n : Int) - ((i + 1 : Nat) : Int) := by omega
    have e2 : (i : Int) + 1 = ((i + 1 : Nat) : Int) := by omega
    show _ = _
    rw [e1, e2]
  done := by
    intro g L ρ σ s Q E H hm hQ
    obtain ⟨oi, ei, ki⟩ := H.led.get (.head _)
    have ki' : oi = _ := ki
    subst ki'
    exact wpAny_pyNext_range_end (x := (n : Int)) (left := (n : Int) - (n : Int)) (step := 1) hh ei (by omega) fun h' hs => hQ _ (H.extBut (s' := { s with heap := h' }) hs)
end
end Mine
namespace Mine

section
variable {prog : Program} {w : World} {K : Frag} {p : Program} {lo : List Str} {O : OsState} {g h h' : Heap} {L a b : Addr} {ρ ρ' : Locs} {σ σ' τ : Ledger} {s : Shared} {sp sp' : Sp} {m : Str → Option Value} {o : Obj}
  {A : Around} {E : Value → Shared → Prop} {ns ms : List Int} {as : List Addr} {kvs : List (Int × Value)} {k x : Int} {t u : Tok} {v : Value}

theorem wpAny_noE {α : Type} {M : Model} {T : Sem α} {Q : α → Shared → Prop} (h : wpAny M A T Q (fun _ _ => False) s) : wpAny M A T Q E s := wpAny_mono h (fun _ _ x => x) fun _ _ x => x.elim
theorem wpAny_conseq {α : Type} {M : Model} {T : Sem α} {Q Q' : α → Shared → Prop} (h : wpAny M A T Q' (fun _ _ => False) s) (hq : ∀ v s', Q' v s' → Q v s') : wpAny M A T Q E s := wpAny_mono h hq fun _ _ x => x.elim

/-- a turn's end -/
def Hold (P : Prop) : Prop := P
theorem hold {P : Prop} (h : P) : Hold P := h

/-- a for loop over an iterator that the ledger bears -/
theorem loop_src {it : Addr} {isp : Nat → Sp} {n : Nat} {val : Nat → Value → Prop} {need : Ledger → Prop} {x : Str} {xp : Pos} {body : List Stmt} {env : Env} {Q : Flow → Shared → Prop} {Er : Value → Shared → Prop}
    (S : Src prog w K p lo O A it isp n val need) (I : Nat → Locs → Ledger → Prop) (keep : ∀ i ρ σ, I i ρ σ → need σ)
    (turn : ∀ i ρ σ s v, i < n → I i ρ σ → val i v → At prog w K p lo O g L ((x, v) :: ρ) ((it, isp (i + 1)) :: σ) s →
      wpAny (model prog w) A (execs body env) (fun f s' => match f with
        | .next | .cont => Hold (∃ ρ' σ', At prog w K p lo O g L ρ' ((it, isp (i + 1)) :: σ') s' ∧ I (i + 1) ρ' σ')
        | .brk => Q .next s'
        | .ret v => Q (.ret v) s') (fun _ _ => False) s)
    (fin : ∀ ρ σ s, I n ρ σ → At prog w K p lo O g L ρ σ s → Q .next s)
    (H : At prog w K p lo O g L ρ ((it, isp 0) :: σ) s) (h0 : I 0 ρ σ)
    (hL : env.locals = L := by rfl) (hk : env.scope.kind = .function := by rfl) (hx : env.kindOf x = some .local := by rfl) :
    codeAny (model prog w) A (.forLoop (.Name x xp) (.ref it) body [] env) (fun r s' => match r with | .ok f => Q f s' | .error e => Er e s') s := by
  refine codeAny_forLoop (fun k s => ∃ i ρ σ, i ≤ n ∧ k = n - i ∧ I i ρ σ ∧ At prog w K p lo O g L ρ ((it, isp i) :: σ) s) (fun k s hI => ?_) n ⟨0, ρ, σ, Nat.zero_le _, rfl, h0, H⟩
  obtain ⟨i, ρ, σ, hi, hk', hI, H⟩ := hI
  rcases Nat.lt_or_ge i n with hlt | hge
  · refine S.item H (keep _ _ _ hI) hlt fun v s' hv H' => ?_
    refine wpAny_assign_Name (r_st H' (fun s2 H2 => ?_) hL hk hx)
    refine wpAny_mono (turn i ρ σ s2 v hlt hI hv H2) (fun f s3 h3 => ?_) fun _ _ e => e.elim
    cases f with
    | next => obtain ⟨ρ', σ', H3, I3⟩ := h3; exact ⟨n - (i + 1), by omega, i + 1, ρ', σ', hlt, rfl, I3, H3⟩
    | cont => obtain ⟨ρ', σ', H3, I3⟩ := h3; exact ⟨n - (i + 1), by omega, i + 1, ρ', σ', hlt, rfl, I3, H3⟩
    | brk => exact h3
    | ret v => exact h3
  · have e : i = n := Nat.le_antisymm hi hge
    subst e
    exact S.done H (keep _ _ _ hI) fun s' H' => wpAny_execs_nil (fin ρ σ s' hI H')

theorem At.pushObj (H : At prog w K p lo O g L ρ σ s) (o : Obj) (hfree : o.isFreed = false := by rfl) {tk : Tok} : At prog w K p lo O g L ρ ((s.heap.objs.size, .obj o) :: σ) { s with heap := s.heap.push o, toks := tk } :=
  H.push (sp := .obj o) (rfl : o = o) hfree

theorem wpAny_nx {M : Model} {T : Sem Flow} {X : Shared → Prop} {Q : Flow → Shared → Prop} (h : wpAny M A T (fun f s' => match f with | .next => X s' | _ => False) (fun _ _ => False) s) :
    wpAny M A T (fun f s' => match f with | .next | .cont => X s' | .brk => Q .next s' | .ret v => Q (.ret v) s') (fun _ _ => False) s :=
  wpAny_mono h (fun f s' hf => by cases f with
    | next => exact hf
    | _ => exact hf.elim) fun _ _ e => e

theorem for_ints {l : Addr} {x : Str} {xp : Pos} {body : List Stmt} {env : Env} {Q : Flow → Shared → Prop} {Er : Value → Shared → Prop} {E : Value → Shared → Prop}
    (H : At prog w K p lo O g L ρ σ s) (hm : (l, Sp.ints ns) ∈ σ) (hh : A.handled = none) (I : Nat → Locs → Ledger → Prop) (h0 : I 0 ρ σ) (keep : ∀ i ρ σ, I i ρ σ → (l, Sp.ints ns) ∈ σ)
    (turn : ∀ it i ρ σ s t, (hi : i < ns.length) → I i ρ σ → At prog w K p lo O g L ((x, .int ns[i] t) :: ρ) ((it, listIt l (i + 1)) :: σ) s →
      wpAny (model prog w) A (execs body env) (fun f s' => match f with
        | .next => Hold (∃ ρ' σ', At prog w K p lo O g L ρ' ((it, listIt l (i + 1)) :: σ') s' ∧ I (i + 1) ρ' σ')
        | _ => False) (fun _ _ => False) s)
    (fin : ∀ ρ σ s, I ns.length ρ σ → At prog w K p lo O g L ρ σ s → Q .next s)
    (hL : env.locals = L := by rfl) (hk : env.scope.kind = .function := by rfl) (hx : env.kindOf x = some .local := by rfl) :
    wpAny (model prog w) A (pyIter (.ref l)) (fun it s₂ => codeAny (model prog w) A (.forLoop (.Name x xp) it body [] env) (fun r s' => match r with | .ok f => Q f s' | .error e => Er e s') s₂) E s := by
  obtain ⟨vs, n, e, hi⟩ := H.ints hm
  refine wpAny_pyIter_list (isListOf e) ?_
  exact loop_src (src_ints hh) I keep (fun i ρ σ s v hi hI hv H' => by obtain ⟨t, h1, rfl⟩ := hv; exact wpAny_nx (turn _ i ρ σ s t h1 hI H')) fin (H.pushObj _ (tk := s.toks)) h0 hL hk hx

theorem for_refs {l : Addr} {x : Str} {xp : Pos} {body : List Stmt} {env : Env} {Q : Flow → Shared → Prop} {Er : Value → Shared → Prop} {E : Value → Shared → Prop}
    (H : At prog w K p lo O g L ρ σ s) (hm : (l, Sp.refs as) ∈ σ) (hh : A.handled = none) (I : Nat → Locs → Ledger → Prop) (h0 : I 0 ρ σ) (keep : ∀ i ρ σ, I i ρ σ → (l, Sp.refs as) ∈ σ)
    (turn : ∀ it i ρ σ s, (hi : i < as.length) → I i ρ σ → At prog w K p lo O g L ((x, .ref as[i]) :: ρ) ((it, listIt l (i + 1)) :: σ) s →
      wpAny (model prog w) A (execs body env) (fun f s' => match f with
        | .next => Hold (∃ ρ' σ', At prog w K p lo O g L ρ' ((it, listIt l (i + 1)) :: σ') s' ∧ I (i + 1) ρ' σ')
        | _ => False) (fun _ _ => False) s)
    (fin : ∀ ρ σ s, I as.length ρ σ → At prog w K p lo O g L ρ σ s → Q .next s)
    (hL : env.locals = L := by rfl) (hk : env.scope.kind = .function := by rfl) (hx : env.kindOf x = some .local := by rfl) :
    wpAny (model prog w) A (pyIter (.ref l)) (fun it s₂ => codeAny (model prog w) A (.forLoop (.Name x xp) it body [] env) (fun r s' => match r with | .ok f => Q f s' | .error e => Er e s') s₂) E s := by
  obtain ⟨n, e⟩ := H.refs hm
  refine wpAny_pyIter_list (isListOf e) ?_
  exact loop_src (src_refs hh) I keep (fun i ρ σ s v hi hI hv H' => by obtain ⟨h1, rfl⟩ := hv; exact wpAny_nx (turn _ i ρ σ s h1 hI H')) fin (H.pushObj _ (tk := s.toks)) h0 hL hk hx

theorem r_range {n : Nat} {Q : Value → Shared → Prop} (H : At prog w K p lo O g L ρ σ s) (h : ∀ D t₁ t₂ t₃ s', At prog w K p lo O g L ρ ((D, .obj { cls := .type "range", data := .fields #[.int 0 t₁, .int n t₂, .int 1 t₃] }) :: σ) s' → Q (.ref D) s') :
    wpAny (model prog w) A (call (.type "range") [.int (n : Int) t]) Q E s :=
  call_range_1 (h _ _ _ _ _ (H.pushObj _))

theorem range_small {n : Nat} (hn : n < 9000000) : Builtin.Range.small 0 (n : Int) 1 = true ∧ Builtin.Range.rangeSize 0 (n : Int) 1 = (n : Int) := by
  have e : Builtin.Range.rangeSize 0 (n : Int) 1 = (n : Int) := by
    unfold Builtin.Range.rangeSize
    have h1 : ((1 : Int) > 0) = True := by simp
    simp only [h1, if_true]
    split <;> omega
  refine ⟨?_, e⟩
  unfold Builtin.Range.small
  rw [e]
  unfold Builtin.Range.rangeFitsLong
  simp
  omega

theorem for_range {r : Addr} {t₁ t₂ t₃ : Tok} {n : Nat} {x : Str} {xp : Pos} {body : List Stmt} {env : Env} {Q : Flow → Shared → Prop} {Er : Value → Shared → Prop} {E : Value → Shared → Prop}
    (H : At prog w K p lo O g L ρ ((r, .obj { cls := .type "range", data := .fields #[.int 0 t₁, .int n t₂, .int 1 t₃] }) :: σ) s) (hn : n < 9000000) (hh : A.handled = none) (I : Nat → Locs → Ledger → Prop) (h0 : I 0 ρ σ)
    (turn : ∀ it i ρ σ s t, i < n → I i ρ σ → At prog w K p lo O g L ((x, .int (i : Int) t) :: ρ) ((it, rangeIt n (i + 1)) :: σ) s →
      wpAny (model prog w) A (execs body env) (fun f s' => match f with
        | .next | .cont => Hold (∃ ρ' σ', At prog w K p lo O g L ρ' ((it, rangeIt n (i + 1)) :: σ') s' ∧ I (i + 1) ρ' σ')
        | .brk => Q .next s'
        | .ret v => Q (.ret v) s') (fun _ _ => False) s)
    (fin : ∀ ρ σ s, I n ρ σ → At prog w K p lo O g L ρ σ s → Q .next s)
    (hL : env.locals = L := by rfl) (hk : env.scope.kind = .function := by rfl) (hx : env.kindOf x = some .local := by rfl) :
    wpAny (model prog w) A (pyIter (.ref r)) (fun it s₂ => codeAny (model prog w) A (.forLoop (.Name x xp) it body [] env) (fun r s' => match r with | .ok f => Q f s' | .error e => Er e s') s₂) E s := by
  obtain ⟨o, e, k⟩ := H.led.get (.head _)
  have k' : o = _ := k
  subst k'
  obtain ⟨hs, hz⟩ := range_small hn
  refine wpAny_pyIter_range (a := 0) (b := (n : Int)) (c := 1) e hs ?_
  rw [hz]
  have H1 := H.push (tk := s.toks) (o := { cls := .type "range_iterator", data := .fields #[rawInt 0, rawInt (n : Int), rawInt 1] }) (sp := rangeIt n 0) (by show _ = _; simp [rawInt])
  have H2 : At prog w K p lo O g L ρ ((s.heap.objs.size, rangeIt n 0) :: σ) _ := H1.sub fun x => by
    letI : DecidableEq (Addr × Sp) := Classical.typeDecidableEq _
    simp only [List.count_cons]; omega
  exact loop_src (src_range hh) I (fun _ _ _ _ => trivial) (fun i ρ σ s v hi hI hv H' => by obtain ⟨t, rfl⟩ := hv; exact turn _ i ρ σ s t hi hI H') fin H2 h0 hL hk hx

theorem while_rule {test : PySem.Expr} {body : List Stmt} {pos : Pos} {env : Env} {Q : Flow → Shared → Prop} (I : Nat → Locs → Ledger → Prop) (n : Nat) (H : At prog w K p lo O g L ρ σ s) (h0 : I n ρ σ)
    (turn : ∀ n ρ σ s, I n ρ σ → At prog w K p lo O g L ρ σ s → wpAny (model prog w) A (PySem.isTrue test env (eval test env)) (fun b s₂ =>
      if b = true then wpAny (model prog w) A (execs body env) (fun f s₃ => match f with
          | .next | .cont => Hold (∃ m ρ' σ', m < n ∧ At prog w K p lo O g L ρ' σ' s₃ ∧ I m ρ' σ')
          | .brk => Q .next s₃
          | .ret v => Q (.ret v) s₃) (fun _ _ => False) s₂
      else Q .next s₂) (fun _ _ => False) s) :
    wpAny (model prog w) A (exec (.While test body [] pos) env) Q E s := by
  refine wpAny_While (codeAny_whileLoop (fun n s => ∃ ρ σ, I n ρ σ ∧ At prog w K p lo O g L ρ σ s) (fun n s hI => ?_) n ⟨ρ, σ, h0, H⟩)
  obtain ⟨ρ, σ, hI, H⟩ := hI
  refine wpAny_mono (turn n ρ σ s hI H) (fun b s₂ h₂ => ?_) fun _ _ e => e.elim
  cases b with
  | false => exact wpAny_execs_nil h₂
  | true =>
    refine wpAny_mono h₂ (fun f s3 h3 => ?_) fun _ _ e => e.elim
    cases f with
    | next => obtain ⟨m, ρ', σ', hm, H3, I3⟩ := h3; exact ⟨m, hm, ρ', σ', I3, H3⟩
    | cont => obtain ⟨m, ρ', σ', hm, H3, I3⟩ := h3; exact ⟨m, hm, ρ', σ', I3, H3⟩
    | brk => exact h3
    | ret v => exact h3

/-! calls -/
def Back (prog : Program) (w : World) (K : Frag) (p : Program) (lo : List Str) (O : OsState) (g' : Heap) (L' : Addr) (g : Heap) (L : Addr) (ρ : Locs) (R : Result → Shared → Prop) (v : Value) (s : Shared) : Prop :=
  ∃ ρ' σ', At prog w K p lo O g' L' ρ' σ' s ∧ (At prog w K p lo O g L ρ σ' s → R (.ok (.ret v)) s)

theorem call_fnS {R : Result → Shared → Prop} {name qual : Str} {params : Arguments} {body : List Stmt} {scope : Scope} {dV kV doc pm cdv ct oc : Value} {an od : Option Addr} {osl : Array (Option Value)} {f : Addr} {args : Args} {binds : List (Str × Value)}
    (H : At prog w K p lo O g L ρ σ s)
    (ho : K.lookup f = some ⟨oc, od, .func (fnOf name qual params body scope dV kV doc pm an cdv ct), osl⟩) (hcd : codeIn K cdv qual = true) (hroom : A.depth < recursionLimit)
    (hbind : BindsTo s (fnOf name qual params body scope dV kV doc pm an cdv ct) args binds) (hloc : ∀ y ∈ binds, scope.names.lookup y.1 = some .local)
    (h : ∀ g' L' s', (∀ b o, g.get? b = some o → g'.get? b = some o) → At prog w K p lo O g' L' binds.reverse σ s' →
      wpAny (model prog w) (A.deeper (envOf qual scope L' f cdv)) (execs body (envOf qual scope L' f cdv)) (fun fl s'' => Back prog w K p lo O g' L' g L ρ R (match fl with | .ret v => v | _ => .none) s'') (fun _ _ => False) s')
    (hco : scope.isCoroutine = false := by rfl) (hgen : scope.isGenerator = false := by rfl) (hk : scope.kind = .function := by rfl)
    (hcell : ∀ x ∈ scope.names, x.2 ≠ .cell := by decide) : codeAny (model prog w) A (.call (.ref f) args) R s := by
  obtain ⟨⟨m, F, hm⟩, l, h1, h2, S⟩ := H
  have X := S.X.keeps F.keep
  refine codeAny_call_def (fd := fnOf name qual params body scope dV kV doc pm an cdv ct) (body := body) (binds := binds) hroom (X _ _ ho) rfl (S.nolimit.keeps F.keep) (codeRec_of X hcd) rfl hbind hcell hloc (fun h₁ hns hk₁ => ?_) hco hgen hk
  have nm : ∀ b o, g.get? b = some o → b ∉ σ.map (·.1) := fun b o e q => by
    obtain ⟨r, hr, rfl⟩ := List.mem_map.mp q
    rw [l.new r hr] at e; cases e
  have st : ∀ b o, g.get? b = some o → (hideAll s.heap (σ.map (·.1))).get? b = some o := fun b o e => hideAll_get _ (F.keep b o e) (nm b o e)
  obtain ⟨oL, es, ep, hL, hLd, hLk, hLf⟩ := F.ns
  have nL : L ∉ σ.map (·.1) := fun q => by
    obtain ⟨r, hr, e⟩ := List.mem_map.mp q
    exact l.neL r hr e
  have hLg := hideAll_get (σ.map (·.1)) hL nL
  have H' : At prog w K p lo O (hideAll s.heap (σ.map (·.1))) s.heap.objs.size binds.reverse σ { s with heap := h₁, toks := s.toks + binds.length } :=
    ⟨⟨_, ⟨hns, fun b o e => hk₁ b o (of_hideAll _ e), Nat.le_of_eq (hideAll_size _ _)⟩, fun x v e => e⟩,
     ⟨fun q hq => let ⟨o, e, r⟩ := l.at_ q hq; ⟨o, hk₁ _ _ e, r⟩, fun q hq => let ⟨o, e, r⟩ := l.at_ q hq; Nat.ne_of_lt (Heap.lt_size e), fun q hq => hideAll_none _ (List.mem_map_of_mem hq), l.high, l.nd⟩, h1, h2, S.keeps st⟩
  refine wpAny_mono (h _ _ _ st H') (fun fl s' hl => ?_) fun _ _ e => e.elim
  obtain ⟨ρ', σ', ⟨⟨m', F', hm'⟩, l', h1', h2', S'⟩, k⟩ := hl
  refine k ⟨⟨m, ⟨⟨oL, es, ep, F'.keep L oL hLg, hLd, hLk, hLf⟩, fun b o e => F'.keep b o (st b o e), F.above⟩, hm⟩, ⟨l'.at_, fun q hq => fun e => ?_, fun q hq => ?_, l'.high, l'.nd⟩, h1', h2', S⟩
  · have := l'.new q hq; rw [e, hLg] at this; cases this
  · cases e : g.get? q.1 with
    | none => rfl
    | some o => have := l'.new q hq; rw [st _ _ e] at this; cases this

theorem call_fn {R : Result → Shared → Prop} {name qual : Str} {params : Arguments} {body : List Stmt} {scope : Scope} {dV kV doc pm cdv ct oc : Value} {an od : Option Addr} {osl : Array (Option Value)} {f : Addr} {args : Args} {binds : List (Str × Value)}
    (H : At prog w K p lo O g L ρ σ s)
    (ho : K.lookup f = some ⟨oc, od, .func (fnOf name qual params body scope dV kV doc pm an cdv ct), osl⟩) (hcd : codeIn K cdv qual = true) (hroom : A.depth < recursionLimit)
    (hbind : BindsTo s (fnOf name qual params body scope dV kV doc pm an cdv ct) args binds) (hloc : ∀ y ∈ binds, scope.names.lookup y.1 = some .local)
    (h : ∀ g' L' s', At prog w K p lo O g' L' binds.reverse σ s' →
      wpAny (model prog w) (A.deeper (envOf qual scope L' f cdv)) (execs body (envOf qual scope L' f cdv)) (fun fl s'' => Back prog w K p lo O g' L' g L ρ R (match fl with | .ret v => v | _ => .none) s'') (fun _ _ => False) s')
    (hco : scope.isCoroutine = false := by rfl) (hgen : scope.isGenerator = false := by rfl) (hk : scope.kind = .function := by rfl)
    (hcell : ∀ x ∈ scope.names, x.2 ≠ .cell := by decide) : codeAny (model prog w) A (.call (.ref f) args) R s :=
  call_fnS H ho hcd hroom hbind hloc (fun g' L' s' _ H' => h g' L' s' H') hco hgen hk hcell

theorem back {R : Result → Shared → Prop} {g' : Heap} {L' : Addr} (H : At prog w K p lo O g' L' ρ' σ' s) (k : At prog w K p lo O g L ρ σ' s → R (.ok (.ret v)) s) : Back prog w K p lo O g' L' g L ρ R v s := ⟨_, _, H, k⟩

/-- what a call gives back -/
def Ret (P : Value → Shared → Prop) : Result → Shared → Prop
  | .ok (.ret v), s => P v s
  | _, _ => False
theorem use_call {P : Value → Shared → Prop} {f : Value} {args : List Value} {Q : Value → Shared → Prop} (h : codeAny (model prog w) A (.call f ⟨args, []⟩) (Ret P) s) (k : ∀ v s', P v s' → Q v s') :
    wpAny (model prog w) A (call f args) Q E s :=
  wpAny_call (codeAny_mono h fun r s' hr => by
    cases r with
    | error e => exact hr.elim
    | ok f => cases f with
      | ret v => exact k v s' hr
      | _ => exact hr.elim)
theorem callWith_any {f : Value} {pos : Pos} {first : List Value} {e : PySem.Expr} {rest : List PySem.Expr} {env : Env} {Q : Value → Shared → Prop} (H : At prog w K p lo O g L ρ σ s) (hk : keepIn K f = true)
    (h : wpAny (model prog w) A (spliced (backTo pos (starEach (e :: rest) env))) (fun vs s₁ => K.In s₁.heap ∧ wpAny (model prog w) A (call f (first ++ vs)) Q E s₁) E s)
    (he : starEach (e :: rest) env = (false, eval e env) :: starEach rest env := by rfl) (hplain : (backTo pos (starEach rest env)).any (·.1) = false := by rfl) :
    wpAny (model prog w) A (callWith pos f first (backTo pos (starEach (e :: rest) env)) []) Q E s := by
  rw [he] at h ⊢
  exact callWith_of (by show ((false || (backTo pos (starEach rest env)).any (·.1)) || false) = false; rw [hplain]; rfl) (keeps_K hk) (evalArgs_plain h)
theorem callWith_none {f : Value} {pos : Pos} {first : List Value} {env : Env} {Q : Value → Shared → Prop} (H : At prog w K p lo O g L ρ σ s) (hk : keepIn K f = true) (h : wpAny (model prog w) A (call f (first ++ [])) Q E s) :
    wpAny (model prog w) A (callWith pos f first (backTo pos (starEach [] env)) []) Q E s :=
  let ⟨_, F, _⟩ := H.fr; callWith_K0 (H.stat.X.keeps F.keep) hk h
theorem At.X (H : At prog w K p lo O g L ρ σ s) : K.In s.heap := let ⟨_, F, _⟩ := H.fr; H.stat.X.keeps F.keep
end
end Mine
namespace Mine
section
variable {prog : Program} {w : World} {K : Frag} {p : Program} {lo : List Str} {O : OsState} {g h h' : Heap} {L a b : Addr} {ρ ρ' : Locs} {σ σ' τ : Ledger} {s : Shared} {sp sp' : Sp} {m : Str → Option Value} {o : Obj}
  {A : Around} {E : Value → Shared → Prop}

theorem r_make {C fI : Addr} {pos : List Value} {Q : Value → Shared → Prop} (H : At prog w K p lo O g L ρ σ s) (hne : (b, sp) ∈ σ) (hm : makesIn K C = true) (hi : findIn K (.ref C) "__init__" = some (some (.ref fI))) (hf : isFn K (.ref fI) = true)
    (h : ∀ x d s', At prog w K p lo O g L ρ ((x, .inst C d) :: (d, .attrs []) :: σ) s' →
      codeAny (model prog w) (A.under (.builtin "type.__call__" ⟨.ref C :: pos, []⟩)) (.call (.ref fI) ⟨.ref x :: pos, []⟩) (Ret fun v s'' => v = .none ∧ Q (.ref x) s'') s') : wpAny (model prog w) A (call (.ref C) pos) Q E s := by
  obtain ⟨news, m, F, hρ, N, la⟩ := H.news
  obtain ⟨o, _, hmem⟩ := la.mem hne
  have low : sysModules < b := H.led.high _ hne
  refine call_cls F H.stat.X N hm hi hf fun x d h' F' N' l1 l2 => ?_
  have ld : sysModules < d := Nat.lt_trans low (l1 _ hmem)
  have H1 : At prog w K p lo O g L ρ ((d, .attrs []) :: σ) { s with heap := h' } := H.ofNewsC F' hρ (fun q hq => N' q (.tail _ hq)) la ⟨[], 0, rfl, .nil⟩ l1 ld
  have H2 : At prog w K p lo O g L ρ ((x, .inst C d) :: (d, .attrs []) :: σ) { s with heap := h' } := H1.ofNewsC (s' := { s with heap := h' }) F' hρ N' (.cons ⟨[], 0, rfl, .nil⟩ la) rfl (fun q hq => by
    rcases List.mem_cons.mp hq with rfl | hq
    · exact l2
    · exact Nat.lt_trans (l1 q hq) l2) (Nat.lt_trans ld l2)
  refine codeAny_mono (h x d _ H2) fun r s' hr => ?_
  cases r with
  | error e => exact hr.elim
  | ok f => cases f with
    | ret v => exact ⟨hr.1, hr.2⟩
    | _ => exact hr.elim
theorem r_slice_upto {value slice : PySem.Expr} {l : Addr} {vs : List Value} {ns : List Int} {y : Int} {u : Tok} {Q : Value → Shared → Prop} (H : At prog w K p lo O g L ρ σ s) (hl : s.heap.IsList l vs.toArray) (hi : IntsAre vs ns) (h0 : 0 ≤ y) (hz : ns.length < 9000000)
    (h : ∀ D s', At prog w K p lo O g L ρ ((D, .ints (ns.take y.toNat)) :: σ) s' → Q (.ref D) s')
    (hs : subscripted slice false (.ref l) (.ref s.heap.objs.size) = operate [.ref s.heap.objs.size, .ref l] (getItem (.ref l) (.ref s.heap.objs.size)) := by with_unfolding_all rfl)
    (ht : ∀ r, letTemporaryGo value (.ref l) r = pure () := by intro _; with_unfolding_all rfl) :
    wpAny (model prog w) A (subscriptTail value slice (.ref l) (.ref s.heap.objs.size)) Q E { s with heap := s.heap.push { cls := .type "slice", data := .fields #[.none, .int y u, .none] } } := by
  obtain ⟨news, m, F, hρ, N, la⟩ := H.news
  refine slice_list F N hl .none (.int y u) (fun h' F' N' => h _ _ (H.ofNewsC (s' := { s with heap := h' }) F' hρ N' la ⟨(slicePick vs.toArray none (some y) none).toList, 0, by rw [Array.toArray_toList], slice_ints_uptoW hi h0⟩ (fun q hq => ?_) ?_)) hs ht (by rw [List.size_toArray, hi.length, sizeLine_eq]; omega)
  · exact Nat.lt_succ_of_lt (Heap.lt_size (N q hq).1)
  · have h1 : (sysModules : Nat) < g.objs.size := modules_low H.stat.nolimit
    have h2 := Fr.gsize F
    exact Nat.lt_succ_of_lt (Nat.lt_of_lt_of_le h1 h2)
theorem At.recast (H : At prog w K p lo O g L ρ σ s) (U : Up a sp sp' σ σ') (h : ∀ o, sp.ok prog w o → sp'.ok prog w o) : At prog w K p lo O g L ρ σ' s :=
  H.upd U ⟨rfl, fun _ _ => rfl⟩ (let ⟨o, e, k⟩ := H.led.get U.mem; ⟨o, e, h o k⟩)
theorem nil_refs (o : Obj) (h : (Sp.ints []).ok prog w o) : (Sp.refs []).ok prog w o := by
  obtain ⟨vs, n, rfl, hi⟩ := h
  cases hi
  exact ⟨n, rfl⟩
end
end Mine
namespace Mine

/-- the arguments that are plain locals, the last first -/
def listL (kindOf : Str → Option NameKind) : List (Str × Value) → Locs → Locs
  | [], acc => acc
  | (n, v) :: r, acc => listL kindOf r (if kindOf n = some .local then (n, v) :: acc else acc)
theorem listL_ok (kindOf : Str → Option NameKind) : ∀ (b : List (Str × Value)) (acc : Locs) (m : Str → Option Value), (∀ x v, acc.lookup x = some v → m x = some v) → ∀ x v, (listL kindOf b acc).lookup x = some v → bindL kindOf b m x = some v
  | [], _, _, h, x, v, e => h x v e
  | (n, u) :: r, acc, m, h, x, v, e => by
    unfold bindL
    unfold listL at e
    refine listL_ok kindOf r _ _ (fun y z ey => ?_) x v e
    by_cases hk : kindOf n = some .local
    · rw [if_pos hk] at ey
      rw [if_pos hk]
      rw [List.lookup_cons] at ey
      show (if y = n then some u else m y) = some z
      cases q : y == n with
      | true => rw [q] at ey; rw [if_pos (beq_iff_eq.mp q)]; exact ey
      | false => rw [q] at ey; rw [if_neg (beq_eq_false_iff_ne.mp q)]; exact h y z ey
    · rw [if_neg hk] at ey
      rw [if_neg hk]; exact h y z ey

/-- the cells of a call, as the ledger bears them -/
def cellsLed (cm : Str → Option Value) (cs : List (Str × Addr)) : Ledger := cs.map fun q => (q.2, Sp.cell (cm q.1))

section
variable {prog : Program} {w : World} {K : Frag} {p : Program} {lo : List Str} {O : OsState} {g h h' : Heap} {L a b : Addr} {ρ ρ' : Locs} {σ σ' τ : Ledger} {s : Shared} {sp sp' : Sp} {m : Str → Option Value} {o : Obj}
  {A : Around} {E : Value → Shared → Prop} {ns ms : List Int}

theorem cellsFrom_above : ∀ (names : List (Str × NameKind)) (n : Nat) (acc : List (Str × Addr)), (∀ q ∈ acc, (q.2 : Nat) < n) → (acc.map (·.2)).Nodup → ((cellsFrom n names acc).map (·.2)).Nodup
  | [], _, _, _, h => h
  | (name, kind) :: r, n, acc, h, nd => by
    unfold cellsFrom
    split
    · refine cellsFrom_above r (n + 1) _ (fun q hq => ?_) ?_
      · rcases List.mem_cons.mp hq with rfl | hq
        · exact Nat.lt_succ_self _
        · exact Nat.lt_succ_of_lt (h q hq)
      · rw [List.map_cons, List.nodup_cons]
        refine ⟨fun hm => ?_, nd⟩
        obtain ⟨q, hq, e⟩ := List.mem_map.mp hm
        have h' := h q hq
        have e' : q.2 = n := e
        rw [e'] at h'
        exact Nat.lt_irrefl _ h'
    · exact cellsFrom_above r n acc h nd

/-- a call of a def, some of whose names are captured -/
theorem call_fnC {R : Result → Shared → Prop} {name qual : Str} {params : Arguments} {body : List Stmt} {scope : Scope} {dV kV doc pm cdv ct oc : Value} {an od : Option Addr} {osl : Array (Option Value)} {f : Addr} {args : Args} {binds : List (Str × Value)}
    (H : At prog w K p lo O g L ρ σ s)
    (ho : K.lookup f = some ⟨oc, od, .func (fnOf name qual params body scope dV kV doc pm an cdv ct), osl⟩) (hcd : codeIn K cdv qual = true) (hroom : A.depth < recursionLimit)
    (hbind : BindsTo s (fnOf name qual params body scope dV kV doc pm an cdv ct) args binds)
    (hkind : ∀ n, ∀ x ∈ binds, scope.names.lookup x.1 = some .local ∨ (scope.names.lookup x.1 = some .cell ∧ ((cellsFrom n scope.names []).lookup x.1).isSome = true))
    (hnd : ((cellsFrom 0 scope.names []).map (·.1)).Nodup)
    (h : ∀ g' L' s', (∀ b o, g.get? b = some o → g'.get? b = some o) → At prog w K p lo O g' L' (listL (fun x => scope.names.lookup x) binds []) (cellsLed (bindC (fun x => scope.names.lookup x) binds fun _ => none) (cellsFrom (L' + 1) scope.names []) ++ σ) s' →
      wpAny (model prog w) (A.deeper (envOfC qual scope L' f cdv)) (execs body (envOfC qual scope L' f cdv)) (fun fl s'' => Back prog w K p lo O g' L' g L ρ R (match fl with | .ret v => v | _ => .none) s'') (fun _ _ => False) s')
    (hco : scope.isCoroutine = false := by rfl) (hgen : scope.isGenerator = false := by rfl) (hk : scope.kind = .function := by rfl) : codeAny (model prog w) A (.call (.ref f) args) R s := by
  obtain ⟨⟨m, F, hm⟩, l, h1, h2, S⟩ := H
  have X := S.X.keeps F.keep
  refine codeAny_call_function (fd := fnOf name qual params body scope dV kV doc pm an cdv ct) hroom (X _ _ ho) rfl hco hgen rfl (codeRec_of X hcd) (hbind _ _ _ _ ?_)
  refine wpAny_newFunctionEnv_cells hk (hkind _) fun env' he s₂ x => ?_
  subst he
  refine ⟨(S.nolimit.keeps F.keep).keeps x.toInCall.keep, codeAny_func ?_⟩
  obtain ⟨h₁, tk, rfl, _⟩ := x.done
  have hk₁ := x.toInCall.keep
  have hlt : ∀ q ∈ σ, (q.1 : Nat) < s.heap.objs.size := fun q hq => let ⟨o, e, _⟩ := l.at_ q hq; Heap.lt_size e
  have nm : ∀ b o, g.get? b = some o → b ∉ σ.map (·.1) := fun b o e q => by
    obtain ⟨r, hr, rfl⟩ := List.mem_map.mp q
    rw [l.new r hr] at e; cases e
  have st : ∀ b o, g.get? b = some o → (hideAll s.heap (σ.map (·.1))).get? b = some o := fun b o e => hideAll_get _ (F.keep b o e) (nm b o e)
  obtain ⟨oL, es, ep, hL, hLd, hLk, hLf⟩ := F.ns
  have nL : L ∉ σ.map (·.1) := fun q => by
    obtain ⟨r, hr, e⟩ := List.mem_map.mp q
    exact l.neL r hr e
  have hLg := hideAll_get (σ.map (·.1)) hL nL
  have low : (sysModules : Nat) < s.heap.objs.size := Nat.lt_of_lt_of_le (modules_low S.nolimit) (Fr.gsize F)
  have cellIs : ∀ q ∈ cellsFrom (s.heap.objs.size + 1) scope.names [], h₁.IsCell q.2 (bindC (fun y => scope.names.lookup y) binds (fun _ => none) q.1) ∧ s.heap.objs.size < q.2 := fun q hq =>
    ⟨x.cell q.1 q.2 (lookup_of_mem_nodup (cellsFrom_names scope.names 0 (s.heap.objs.size + 1) [] [] rfl ▸ hnd) hq), x.above q.1 q.2 hq⟩
  have H' : At prog w K p lo O (hideAll s.heap (σ.map (·.1))) s.heap.objs.size (listL (fun x => scope.names.lookup x) binds [])
      (cellsLed (bindC (fun x => scope.names.lookup x) binds fun _ => none) (cellsFrom (s.heap.objs.size + 1) scope.names []) ++ σ) { s with heap := h₁, toks := tk } := by
    refine ⟨⟨_, ⟨x.toInCall.ns, fun b o e => hk₁ b o (of_hideAll _ e), Nat.le_of_eq (hideAll_size _ _)⟩, fun y v e => listL_ok _ binds [] _ (fun _ _ e => by cases e) y v e⟩, ⟨fun q hq => ?_, fun q hq => ?_, fun q hq => ?_, fun q hq => ?_, ?_⟩, h1, h2, S.keeps st⟩
    · rcases List.mem_append.mp hq with hq | hq
      · obtain ⟨r, hr, rfl⟩ := List.mem_map.mp hq
        obtain ⟨⟨o, e, k⟩, _⟩ := cellIs r hr
        exact ⟨o, e, k⟩
      · obtain ⟨o, e, r⟩ := l.at_ q hq; exact ⟨o, hk₁ _ _ e, r⟩
    · rcases List.mem_append.mp hq with hq | hq
      · obtain ⟨r, hr, rfl⟩ := List.mem_map.mp hq
        exact Nat.ne_of_gt (cellIs r hr).2
      · exact Nat.ne_of_lt (hlt q hq)
    · rcases List.mem_append.mp hq with hq | hq
      · obtain ⟨r, hr, rfl⟩ := List.mem_map.mp hq
        refine Heap.get?_none_of_le ?_
        rw [hideAll_size]; exact Nat.le_of_lt (cellIs r hr).2
      · exact hideAll_none _ (List.mem_map_of_mem hq)
    · rcases List.mem_append.mp hq with hq | hq
      · obtain ⟨r, hr, rfl⟩ := List.mem_map.mp hq
        exact Nat.lt_trans low (cellIs r hr).2
      · exact l.high q hq
    · rw [List.map_append, List.nodup_append]
      refine ⟨?_, l.nd, fun a ha b hb e => ?_⟩
      · have := cellsFrom_above scope.names (s.heap.objs.size + 1) [] (fun _ hq => nomatch hq) List.nodup_nil
        unfold cellsLed
        rw [List.map_map]
        exact this
      · obtain ⟨r, hr, rfl⟩ := List.mem_map.mp ha
        obtain ⟨r', hr', rfl⟩ := List.mem_map.mp hr
        obtain ⟨q, hq, rfl⟩ := List.mem_map.mp hb
        have h3 := (cellIs r' hr').2
        have h4 := hlt q hq
        have e' : r'.2 = q.1 := e
        rw [e'] at h3
        exact Nat.lt_irrefl _ (Nat.lt_trans h3 h4)
  refine wpAny_mono (h _ _ _ st H') (fun fl s' hl => ?_) fun _ _ e => e.elim
  obtain ⟨ρ', σ', ⟨⟨m', F', hm'⟩, l', h1', h2', S'⟩, k⟩ := hl
  refine k ⟨⟨m, ⟨⟨oL, es, ep, F'.keep L oL hLg, hLd, hLk, hLf⟩, fun b o e => F'.keep b o (st b o e), F.above⟩, hm⟩, ⟨l'.at_, fun q hq => fun e => ?_, fun q hq => ?_, l'.high, l'.nd⟩, h1', h2', S⟩
  · have := l'.new q hq; rw [e, hLg] at this; cases this
  · cases e : g.get? q.1 with
    | none => rfl
    | some o => have := l'.new q hq; rw [st _ _ e] at this; cases this

/-! comprehensions -/
abbrev Tests (prog : Program) (w : World) (A : Around) (ifs : List PySem.Expr) (env : Env) (Q : Bool → Shared → Prop) (s : Shared) : Prop :=
  wpAny (model prog w) A (forIn ifs true fun c r => if r = true then do let ok ← isTrue c env (eval c env); pure (ForInStep.yield ok) else pure (ForInStep.yield r)) Q (fun _ _ => False) s
/-- a turn's end -/
abbrev TurnEnd (prog : Program) (w : World) (K : Frag) (p : Program) (lo : List Str) (O : OsState) (g : Heap) (L C it : Addr) (isp : Sp) (I : Locs → Ledger → Prop) (s : Shared) : Prop :=
  Hold (∃ kvs' ρ' σ', At prog w K p lo O g L ρ' ((C, .nsp kvs') :: (it, isp) :: σ') s ∧ I ρ' σ')

theorem comp_loop {elt iter : PySem.Expr} {x : Str} {px : Pos} {ifs : List PySem.Expr} {scope : Scope} {pos : Pos} {cenv : Env} {it C D : Addr} {isp : Nat → Sp} {n : Nat} {val : Nat → Value → Prop} {need : Ledger → Prop} {R : Result → Shared → Prop} {kvs : List (Str × Value)}
    (S : Src prog w K p lo O A it isp n val need) (I : Nat → Locs → Ledger → Prop) (keep : ∀ i ρ σ q, I i ρ σ → need (q :: σ))
    (turn : ∀ i ρ σ kvs s v, i < n → I i ρ σ → val i v → At prog w K p lo O g L ρ ((C, .nsp ((x, v) :: kvs)) :: (it, isp (i + 1)) :: σ) s →
      Tests prog w A ifs cenv (fun ok s₃ =>
        if ok = true then wpAny (model prog w) A (eval elt cenv) (fun y s₄ => wpAny (model prog w) A (call (.builtin "list.append") [.ref D, y]) (fun _ s₅ => TurnEnd prog w K p lo O g L C it (isp (i + 1)) (I (i + 1)) s₅) (fun _ _ => False) s₄) (fun _ _ => False) s₃
        else TurnEnd prog w K p lo O g L C it (isp (i + 1)) (I (i + 1)) s₃) s)
    (fin : ∀ ρ σ kvs s, I n ρ σ → At prog w K p lo O g L ρ ((C, .nsp kvs) :: σ) s → R (.ok .next) s)
    (H : At prog w K p lo O g L ρ ((C, .nsp kvs) :: (it, isp 0) :: σ) s) (h0 : I 0 ρ σ)
    (hL : cenv.locals = C) (hk : cenv.scope.kind = .function) (hx : cenv.kindOf x = some .local) :
    codeAny (model prog w) A (.compLoop (.ListComp elt [⟨.Name x px, iter, ifs, 0⟩] scope pos) 0 (.ref it) (.ref D) cenv) R s := by
  have swap : ∀ {ρ : Locs} {q r : Addr × Sp} {σ : Ledger} {s : Shared}, At prog w K p lo O g L ρ (q :: r :: σ) s → At prog w K p lo O g L ρ (r :: q :: σ) s := fun H => H.sub fun x => by
    simp only [List.count_cons]; omega
  refine codeAny_compLoop_tests (fun k s => ∃ i ρ σ kvs, i ≤ n ∧ k = n + 1 - i ∧ I i ρ σ ∧ At prog w K p lo O g L ρ ((C, .nsp kvs) :: (it, isp i) :: σ) s) (fun k s hI => ?_) (n + 1) ⟨0, ρ, σ, kvs, Nat.zero_le _, rfl, h0, H⟩
  obtain ⟨i, ρ, σ, kvs, hi, hk', hI, H⟩ := hI
  have H1 := swap H
  rcases Nat.lt_or_ge i n with hlt | hge
  · refine S.item H1 (keep _ _ _ _ hI) hlt fun v s' hv H' => ?_
    refine wpAny_noE (wpAny_assign_Name (r_cst (swap H') .head (fun s2 H2 => ?_) hL hk hx))
    refine wpAny_mono (turn i ρ σ kvs s2 v hlt hI hv H2) (fun ok s3 h3 => ?_) fun _ _ e => e.elim
    split
    · rename_i hok
      rw [if_pos hok] at h3
      refine wpAny_mono h3 (fun y s4 h4 => ?_) fun _ _ e => e.elim
      refine wpAny_mono h4 (fun _ s5 h5 => ?_) fun _ _ e => e.elim
      obtain ⟨kvs', ρ', σ', H5, I5⟩ := h5
      exact ⟨n + 1 - (i + 1), by omega, i + 1, ρ', σ', kvs', hlt, rfl, I5, H5⟩
    · rename_i hok
      rw [if_neg hok] at h3
      obtain ⟨kvs', ρ', σ', H5, I5⟩ := h3
      exact ⟨n + 1 - (i + 1), by omega, i + 1, ρ', σ', kvs', hlt, rfl, I5, H5⟩
  · have e : i = n := Nat.le_antisymm hi hge
    subst e
    exact S.done H1 (keep _ _ _ _ hI) fun s' H' => fin ρ σ kvs s' hI H'

/-- from the iterator on -/
theorem comp_from {elt iter : PySem.Expr} {x : Str} {px : Pos} {ifs : List PySem.Expr} {scope : Scope} {cl : List (Str × Addr)} {pos : Pos} {env : Env} {it : Addr} {isp : Nat → Sp} {n : Nat} {val : Nat → Value → Prop} {need : Ledger → Prop} {RR : Value → Addr → Result → Shared → Prop}
    (S : Src prog w K p lo O A it isp n val need) (asp : Sp) (hasp : ∀ o, (Sp.ints []).ok prog w o → asp.ok prog w o) (I : Addr → Nat → Locs → Ledger → Prop) (keep : ∀ D i ρ σ q, I D i ρ σ → need (q :: σ))
    (self : ∀ {ρ : Locs} {σ : Ledger} {s : Shared} {Q : Value → Shared → Prop}, At prog w K p lo O g L ρ ((it, isp 0) :: σ) s → Q (.ref it) s → wpAny (model prog w) A (pyIter (.ref it)) Q (fun _ _ => False) s)
    (h0 : ∀ D, I D 0 ρ ((D, asp) :: σ))
    (turn : ∀ C D i ρ σ kvs s v, i < n → I D i ρ σ → val i v → At prog w K p lo O g L ρ ((C, .nsp ((x, v) :: kvs)) :: (it, isp (i + 1)) :: σ) s →
      Tests prog w A ifs (compEnvC scope cl C env) (fun ok s₃ =>
        if ok = true then wpAny (model prog w) A (eval elt (compEnvC scope cl C env)) (fun y s₄ => wpAny (model prog w) A (call (.builtin "list.append") [.ref D, y]) (fun _ s₅ => TurnEnd prog w K p lo O g L C it (isp (i + 1)) (I D (i + 1)) s₅) (fun _ _ => False) s₄) (fun _ _ => False) s₃
        else TurnEnd prog w K p lo O g L C it (isp (i + 1)) (I D (i + 1)) s₃) s)
    (fin : ∀ C D ρ σ kvs s, I D n ρ σ → At prog w K p lo O g L ρ ((C, .nsp kvs) :: σ) s → RR (.ref D) C (.ok .next) s)
    (H : At prog w K p lo O g L ρ ((it, isp 0) :: σ) s)
    (hcell : ∀ y ∈ scope.names, y.2 ≠ .cell) (hkind : scope.kind = .function) (hx : scope.names.lookup x = some .local) :
    wpAny (model prog w) A (newList []) (fun acc s₃ => wpAny (model prog w) A (newFunctionEnv scope env.globals cl [] env.qual none .none (some env)) (fun cenv s₄ =>
      codeAny (model prog w) A (.compStart (.ListComp elt [⟨.Name x px, iter, ifs, 0⟩] scope pos) 0 (.ref it) acc { cenv with scope := relabel scope env }) (RR acc cenv.locals) s₄) E s₃) E s := by
  refine r_newList_ints H .nil (by decide) fun D s1 H1 => ?_
  have H1' := H1.recast .head hasp
  refine wpAny_newFunctionEnv hcell (by intro y hy; simp at hy) (fun h₁ hns₁ hsb₁ => ?_) hkind
  have up : ∀ b o, s1.heap.get? b = some o → h₁.get? b = some o := fun b o e => hsb₁.extBut b o (Nat.ne_of_lt (Heap.lt_size e)) (Heap.get?_push_of_some _ e)
  obtain ⟨oC, eC, kC⟩ := LCg.ns_obj hns₁
  have H2 := H1'.alloc (s' := { s1 with heap := h₁, toks := s1.toks + ([] : List (Str × Value)).length }) (sp := .nsp []) up (Nat.le_refl _) ⟨oC, eC, _, kC, fun _ _ e => by cases e⟩
  have H3 := H2.sub (σ' := (s1.heap.objs.size, .nsp []) :: (it, isp 0) :: (D, asp) :: σ) fun x => by
    simp only [List.count_cons]; omega
  have loop := comp_loop (elt := elt) (iter := iter) (px := px) (ifs := ifs) (scope := scope) (pos := pos) (cenv := compEnvC scope cl s1.heap.objs.size env) (D := D) (R := RR (.ref D) s1.heap.objs.size) S (I D) (keep D) (turn s1.heap.objs.size D) (fin s1.heap.objs.size D) H3 (h0 D) rfl (by simp [compEnvC, relabel, hkind]) (lookup_relabel_local hx)
  refine codeAny_compStart_list loop (wpAny_noE (self (ρ := ρ) (σ := (s1.heap.objs.size, .nsp []) :: (D, asp) :: σ) (H2.sub fun x => by simp only [List.count_cons]; omega) loop))

theorem self_list {it l : Addr} {Q : Value → Shared → Prop} (H : At prog w K p lo O g L ρ ((it, listIt l 0) :: σ) s) (h : Q (.ref it) s) : wpAny (model prog w) A (pyIter (.ref it)) Q E s := by
  obtain ⟨o, e, k⟩ := H.led.get (.head _)
  exact wpAny_pyIter_listiter (listIter_eq e k) h

theorem comp_ints {elt iter : PySem.Expr} {x : Str} {px : Pos} {ifs : List PySem.Expr} {scope : Scope} {cl : List (Str × Addr)} {pos : Pos} {env : Env} {l : Addr} {RR : Value → Addr → Result → Shared → Prop}
    (H : At prog w K p lo O g L ρ σ s) (hm : (l, Sp.ints ns) ∈ σ) (hh : A.handled = none) (asp : Sp) (hasp : ∀ o, (Sp.ints []).ok prog w o → asp.ok prog w o) (I : Addr → Nat → Locs → Ledger → Prop)
    (h0 : ∀ D, I D 0 ρ ((D, asp) :: σ)) (keep : ∀ D i ρ σ, I D i ρ σ → (l, Sp.ints ns) ∈ σ)
    (turn : ∀ it C D i ρ σ kvs s t, (hi : i < ns.length) → I D i ρ σ → At prog w K p lo O g L ρ ((C, .nsp ((x, .int ns[i] t) :: kvs)) :: (it, listIt l (i + 1)) :: σ) s →
      Tests prog w A ifs (compEnvC scope cl C env) (fun ok s₃ =>
        if ok = true then wpAny (model prog w) A (eval elt (compEnvC scope cl C env)) (fun y s₄ => wpAny (model prog w) A (call (.builtin "list.append") [.ref D, y]) (fun _ s₅ => TurnEnd prog w K p lo O g L C it (listIt l (i + 1)) (I D (i + 1)) s₅) (fun _ _ => False) s₄) (fun _ _ => False) s₃
        else TurnEnd prog w K p lo O g L C it (listIt l (i + 1)) (I D (i + 1)) s₃) s)
    (fin : ∀ C D ρ σ kvs s, I D ns.length ρ σ → At prog w K p lo O g L ρ ((C, .nsp kvs) :: σ) s → RR (.ref D) C (.ok .next) s)
    (hcell : ∀ y ∈ scope.names, y.2 ≠ .cell := by decide) (hkind : scope.kind = .function := by rfl) (hx : scope.names.lookup x = some .local := by rfl) :
    wpAny (model prog w) A (pyIter (.ref l)) (fun it s₂ => wpAny (model prog w) A (newList []) (fun acc s₃ => wpAny (model prog w) A (newFunctionEnv scope env.globals cl [] env.qual none .none (some env)) (fun cenv s₄ =>
      codeAny (model prog w) A (.compStart (.ListComp elt [⟨.Name x px, iter, ifs, 0⟩] scope pos) 0 it acc { cenv with scope := relabel scope env }) (RR acc cenv.locals) s₄) E s₃) E s₂) E s := by
  obtain ⟨vs, n, e, hi⟩ := H.ints hm
  refine wpAny_pyIter_list (isListOf e) ?_
  exact comp_from (src_ints hh) asp hasp I (fun D i ρ σ q hI => .tail _ (keep D i ρ σ hI)) (fun H h => self_list H h) h0 (fun C D i ρ σ kvs s v hi hI hv H' => by obtain ⟨t, h1, rfl⟩ := hv; exact turn _ C D i ρ σ kvs s t h1 hI H') fin (H.pushObj _ (tk := s.toks)) hcell hkind hx

theorem compPost_none {C : Addr} {acc : Value} {kvs : List (Str × Value)} {Q : Value → Shared → Prop} (H : At prog w K p lo O g L ρ ((C, .nsp kvs) :: σ) s) (k : ∀ s', At prog w K p lo O g L ρ σ s' → Q acc s') : compPost (model prog w) A E none Q acc C (.ok .next) s := by
  obtain ⟨o, e, m, k1, _⟩ := H.led.get (.head _)
  exact ⟨m, k1.ns e, fun h' hs => k _ (H.extBut (s' := { s with heap := h' }) hs.extBut)⟩
theorem compPost_store {C : Addr} {acc : Value} {y : Str} {py : Pos} {env : Env} {kvs : List (Str × Value)} {Q : Value → Shared → Prop}
    (h : wpAny (model prog w) A (storeName env y acc) (fun _ s' => ∃ ρ σ kvs', At prog w K p lo O g L ρ ((C, .nsp kvs') :: σ) s' ∧ ∀ s'', At prog w K p lo O g L ρ σ s'' → Q .none s'') (fun _ _ => False) s) :
    compPost (model prog w) A E (some (assign (.Name y py) env)) Q acc C (.ok .next) s := by
  refine wpAny_assign_Name (wpAny_mono h (fun _ s' h' => ?_) fun _ _ e => e.elim)
  obtain ⟨ρ, σ, kvs', H, k⟩ := h'
  obtain ⟨o, e, m, k1, _⟩ := H.led.get (.head _)
  exact ⟨m, k1.ns e, fun h' hs => k _ (H.extBut (s' := { s' with heap := h' }) hs.extBut)⟩

theorem comp_eval {elt iter : PySem.Expr} {target : PySem.Expr} {ifs : List PySem.Expr} {rest : List Comprehension} {scope : Scope} {cl : List (Str × Addr)} {pos : Pos} {env : Env} {Q : Value → Shared → Prop}
    (hclos : closureFor scope env = pure cl)
    (h : wpAny (model prog w) A (eval iter env) (fun xv s₁ => wpAny (model prog w) A (pyIter xv) (fun it s₂ => wpAny (model prog w) A (newList []) (fun acc s₃ => wpAny (model prog w) A (newFunctionEnv scope env.globals cl [] env.qual none .none (some env)) (fun cenv s₄ =>
      codeAny (model prog w) A (.compStart (.ListComp elt (⟨target, iter, ifs, 0⟩ :: rest) scope pos) 0 it acc { cenv with scope := relabel scope env }) (compPost (model prog w) A E none Q acc cenv.locals) s₄) E s₃) E s₂) E s₁) E s)
    (hkind : scope.kind = .function := by rfl) (hnames : ∀ y ∈ scope.names, y.2 = .local → scope.names.lookup y.1 = some .local := by decide) (hs : ∀ x, foldedSetIterable iter env x = pure x := by intro _; rfl) :
    wpAny (model prog w) A (eval (.ListComp elt (⟨target, iter, ifs, 0⟩ :: rest) scope pos) env) Q E s := by
  rw [eval_ListComp]
  exact wpAny_comprehension_free (use := none) rfl hs hclos hkind hnames h

theorem comp_assign {elt iter : PySem.Expr} {target : PySem.Expr} {ifs : List PySem.Expr} {rest : List Comprehension} {scope : Scope} {cl : List (Str × Addr)} {pos spos py : Pos} {y : Str} {env : Env} {Q : Flow → Shared → Prop}
    (hsw : swapsWith (.ListComp elt (⟨target, iter, ifs, 0⟩ :: rest) scope pos) (some (.Name y py)) spos.line env = pure true) (hclos : closureFor scope env = pure cl)
    (h : wpAny (model prog w) A (eval iter env) (fun xv s₁ => wpAny (model prog w) A (pyIter xv) (fun it s₂ => wpAny (model prog w) A (newList []) (fun acc s₃ => wpAny (model prog w) A (newFunctionEnv scope env.globals cl [] env.qual none .none (some env)) (fun cenv s₄ =>
      codeAny (model prog w) A (.compStart (.ListComp elt (⟨target, iter, ifs, 0⟩ :: rest) scope pos) 0 it acc { cenv with scope := relabel scope env }) (compPost (model prog w) A E (some (assign (.Name y py) env)) (fun _ s' => Q .next s') acc cenv.locals) s₄) E s₃) E s₂) E s₁) E s)
    (hkind : scope.kind = .function := by rfl) (hnames : ∀ y ∈ scope.names, y.2 = .local → scope.names.lookup y.1 = some .local := by decide) (hs : ∀ x, foldedSetIterable iter env x = pure x := by intro _; rfl) :
    wpAny (model prog w) A (exec (.Assign [.Name y py] (.ListComp elt (⟨target, iter, ifs, 0⟩ :: rest) scope pos) spos) env) Q E s := by
  rw [exec_Assign_Name_used _ _ _ _ hsw]
  refine wpAny_bind (wpAny_standAt (wpAny_bind ?_))
  show wpAny _ A (do let _ ← comprehension (.ListComp elt (⟨target, iter, ifs, 0⟩ :: rest) scope pos) scope env _ (newList []) false (eval iter env) (some (assign (.Name y py) env))) _ _ s
  exact wpAny_bind (wpAny_mono (wpAny_comprehension_free (use := some (assign (.Name y py) env)) (Q := fun _ s' => Q .next s') rfl hs hclos hkind hnames h) (fun _ s' hq => wpAny_pure (wpAny_pure hq)) fun _ _ e => e)
end
end Mine
namespace Mine
section
variable {prog : Program} {w : World} {K : Frag} {p : Program} {lo : List Str} {O : OsState} {g h h' : Heap} {L a b : Addr} {ρ ρ' : Locs} {σ σ' τ : Ledger} {s : Shared} {sp sp' : Sp} {m : Str → Option Value} {o : Obj}
  {A : Around} {E : Value → Shared → Prop} {ns ms : List Int} {env : Env} {x : Str} {v : Value} {M : Model}
theorem r_locN {Q : Value → Shared → Prop} (H : At prog w K p lo O g L ρ σ s) (hv : ρ.lookup x = some v) (h : Q v s)
    (hL : env.locals = L := by rfl) (hk : env.scope.kind = .function := by rfl) (hx : env.kindOf x = some .local := by rfl) :
    wpAny M A (loadName env x) Q E s := let ⟨_, F, hm⟩ := H.fr; wpAny_loadName_local hk hx (hL ▸ F.ns) (hm _ _ hv) h
theorem r_get1s {kvs : List (Int × Value)} {k : Int} {u : Tok} {Q : Value → Shared → Prop} (H : At prog w K p lo O g L ρ σ s) (hm : (a, Sp.idict kvs) ∈ σ) (hx : valueAt kvs k = some v) (h : ∀ s', At prog w K p lo O g L ρ σ s' → Q v s') :
    wpAny (model prog w) A (call (.builtin "dict.get") [.ref a, .int k u]) Q E s := r_get1 H hm fun s' H' => by rw [hx]; exact h s' H'
theorem compPost_st {C : Addr} {acc : Value} {y : Str} {py : Pos} {Q : Value → Shared → Prop} (_H : At prog w K p lo O g L ρ σ s)
    (h : wpAny (model prog w) A (storeName env y acc) (fun _ s' => ∃ ρ σ kvs', At prog w K p lo O g L ρ ((C, .nsp kvs') :: σ) s' ∧ ∀ s'', At prog w K p lo O g L ρ σ s'' → Q .none s'') (fun _ _ => False) s) :
    compPost (model prog w) A E (some (assign (.Name y py) env)) Q acc C (.ok .next) s := compPost_store (kvs := []) h
end
end Mine
namespace Mine

abbrev CS := List (Int × Addr × List Int)
def tt (ks : List Int) : List (Int × Value) := ks.map fun n => (n, Value.bool true)
def cd (cs : CS) : List (Int × Value) := cs.map fun q => (q.1, Value.ref q.2.1)
def keys (cs : CS) : List Int := cs.map (·.1)
def cellsL (cs : CS) : Ledger := cs.map fun q => (q.2.1, Sp.ints q.2.2)
def rowsL (R : List (Addr × List Int)) : Ledger := R.map fun q => (q.1, Sp.ints q.2)

theorem mem_cellsL {cs : CS} {q : Int × Addr × List Int} (h : q ∈ cs) : (q.2.1, Sp.ints q.2.2) ∈ cellsL cs := List.mem_map_of_mem (f := fun q : Int × Addr × List Int => (q.2.1, Sp.ints q.2.2)) h
theorem mem_rowsL {R : List (Addr × List Int)} {q : Addr × List Int} (h : q ∈ R) : (q.1, Sp.ints q.2) ∈ rowsL R := List.mem_map_of_mem (f := fun q : Addr × List Int => (q.1, Sp.ints q.2)) h

theorem valueAt_tt (ks : List Int) (k : Int) : (valueAt (tt ks) k).isSome = decide (k ∈ ks) := by
  induction ks with
  | nil => rfl
  | cons a r ih =>
    unfold valueAt tt at ih ⊢
    rw [List.map_cons, List.find?_cons]
    by_cases h : a = k
    · subst h; simp
    · have h' : ¬ k = a := fun e => h e.symm
      simp only [decide_eq_false h, List.mem_cons, h', false_or]
      exact ih
theorem stored_tt {ks : List Int} {k : Int} (h : k ∉ ks) : stored (tt ks) k (.bool true) = tt (ks ++ [k]) := by
  unfold stored
  rw [if_neg]
  · simp [tt]
  · simp only [tt, List.any_map, List.any_eq_true]
    rintro ⟨x, hx, e⟩
    have : x = k := by simpa using e
    exact h (this ▸ hx)
theorem stored_tt' {ks : List Int} {k : Int} (h : k ∈ ks) : stored (tt ks) k (.bool true) = tt ks := by
  unfold stored
  rw [if_pos]
  · unfold tt
    rw [List.map_map]
    apply List.map_congr_left
    intro x _
    simp only [Function.comp]
    split <;> rfl
  · simp only [tt, List.any_map, List.any_eq_true]
    exact ⟨k, h, by simp⟩

theorem keys_cd (cs : CS) : (cd cs).map (·.1) = keys cs := by unfold cd keys; rw [List.map_map]; rfl
theorem keys_tt (ks : List Int) : (tt ks).map (·.1) = ks := by
  unfold tt; rw [List.map_map]
  exact List.map_id' ks
theorem length_tt (ks : List Int) : (tt ks).length = ks.length := by simp [tt]
theorem length_cd (cs : CS) : (cd cs).length = cs.length := by simp [cd]
theorem length_keys (cs : CS) : (keys cs).length = cs.length := by simp [keys]

theorem valueAt_cd : ∀ {cs : CS} {q : Int × Addr × List Int}, (keys cs).Nodup → q ∈ cs → valueAt (cd cs) q.1 = some (.ref q.2.1)
  | x :: r, q, nd, h => by
    unfold keys at nd
    rw [List.map_cons, List.nodup_cons] at nd
    unfold valueAt cd
    rw [List.map_cons, List.find?_cons]
    cases h with
    | head => simp
    | tail _ h =>
      have hne : ¬ x.1 = q.1 := fun e => nd.1 (e ▸ List.mem_map_of_mem (f := (·.1)) h)
      simp only [decide_eq_false hne]
      exact valueAt_cd (cs := r) nd.2 h
theorem valueAt_cd_isSome (cs : CS) (k : Int) : (valueAt (cd cs) k).isSome = decide (k ∈ keys cs) := by
  induction cs with
  | nil => rfl
  | cons a r ih =>
    unfold valueAt cd keys at *
    rw [List.map_cons, List.find?_cons, List.map_cons]
    by_cases h : a.1 = k
    · subst h; simp
    · have h' : ¬ k = a.1 := fun e => h e.symm
      simp only [decide_eq_false h, List.mem_cons, h', false_or]
      exact ih
theorem key_cell {cs : CS} {k : Int} (h : k ∈ keys cs) : ∃ q ∈ cs, q.1 = k := by
  obtain ⟨q, hq, e⟩ := List.mem_map.mp h; exact ⟨q, hq, e⟩
theorem mem_keys {cs : CS} {q : Int × Addr × List Int} (h : q ∈ cs) : q.1 ∈ keys cs := List.mem_map_of_mem (f := (·.1)) h

/-- what is still to be laid on the pile -/
def wsum (cs : CS) (ks : List Int) : Nat := (cs.map fun q => if q.1 ∈ ks then 0 else q.2.2.length).sum
theorem wsum_none {cs : CS} {ks : List Int} {k : Int} (h : k ∉ keys cs) : wsum cs (ks ++ [k]) = wsum cs ks := by
  induction cs with
  | nil => rfl
  | cons x r ih =>
    unfold keys at h
    rw [List.map_cons, List.mem_cons, not_or] at h
    have ih' := ih h.2
    unfold wsum at ih' ⊢
    rw [List.map_cons, List.map_cons, List.sum_cons, List.sum_cons, ih']
    have h1 : ¬ x.1 = k := fun e => h.1 e.symm
    simp [h1]
theorem wsum_add : ∀ {cs : CS} {ks : List Int} {q : Int × Addr × List Int}, (keys cs).Nodup → q ∈ cs → q.1 ∉ ks → wsum cs (ks ++ [q.1]) + q.2.2.length = wsum cs ks
  | x :: r, ks, q, nd, h, hk => by
    unfold keys at nd
    rw [List.map_cons, List.nodup_cons] at nd
    cases h with
    | head =>
      have e := wsum_none (cs := r) (ks := ks) (k := x.1) nd.1
      unfold wsum at e ⊢
      rw [List.map_cons, List.map_cons, List.sum_cons, List.sum_cons, e]
      simp [hk]; omega
    | tail _ h =>
      have hne : ¬ x.1 = q.1 := fun e => nd.1 (e ▸ List.mem_map_of_mem (f := (·.1)) h)
      have ih := wsum_add (cs := r) (ks := ks) nd.2 h hk
      unfold wsum at ih ⊢
      rw [List.map_cons, List.map_cons, List.sum_cons, List.sum_cons, ← ih]
      simp [hne]; omega
def total (cs : CS) : Nat := (cs.map fun q => q.2.2.length).sum
theorem wsum_nil (cs : CS) : wsum cs [] = total cs := by
  unfold wsum total
  simp

structure ReachC (cs : CS) (starts ks : List Int) : Prop where
  nd : ks.Nodup
  sub : ∀ x ∈ ks, x ∈ keys cs
  start : ∀ x ∈ starts, x ∈ ks
  closed : ∀ q ∈ cs, q.1 ∈ ks → ∀ p ∈ q.2.2, p ∈ ks
  least : ∀ S : Int → Prop, (∀ x ∈ starts, S x) → (∀ q ∈ cs, S q.1 → ∀ p ∈ q.2.2, S p) → ∀ x ∈ ks, S x

theorem cell_uniq : ∀ {cs : CS} {q r : Int × Addr × List Int}, (keys cs).Nodup → q ∈ cs → r ∈ cs → q.1 = r.1 → q = r
  | z :: l, q, r, nd, hq, hr, e => by
    unfold keys at nd
    rw [List.map_cons, List.nodup_cons] at nd
    cases hq with
    | head => cases hr with
      | head => rfl
      | tail _ h2 => exact absurd (List.mem_map_of_mem (f := (·.1)) h2) (by rw [← e]; exact nd.1)
    | tail _ h1 => cases hr with
      | head => exact absurd (List.mem_map_of_mem (f := (·.1)) h1) (by rw [e]; exact nd.1)
      | tail _ h2 => exact cell_uniq (cs := l) nd.2 h1 h2 e

structure PileC (cs : CS) (starts ks pend : List Int) (n : Nat) : Prop where
  nd : ks.Nodup
  sub : ∀ x ∈ ks, x ∈ keys cs
  psub : ∀ x ∈ pend, x ∈ keys cs
  start : ∀ x ∈ starts, x ∈ ks ∨ x ∈ pend
  closed : ∀ q ∈ cs, q.1 ∈ ks → ∀ p ∈ q.2.2, p ∈ ks ∨ p ∈ pend
  least : ∀ S : Int → Prop, (∀ x ∈ starts, S x) → (∀ q ∈ cs, S q.1 → ∀ p ∈ q.2.2, S p) → (∀ x ∈ ks, S x) ∧ ∀ x ∈ pend, S x
  size : n = pend.length + wsum cs ks

theorem PileC.init {cs : CS} {starts : List Int} (h : ∀ x ∈ starts, x ∈ keys cs) : PileC cs starts [] starts (starts.length + total cs) :=
  ⟨.nil, (fun _ h => nomatch h), h, (fun _ h => .inr h), (fun _ _ h => nomatch h), (fun S h1 _ => ⟨(fun _ h => nomatch h), h1⟩), by rw [wsum_nil]⟩
theorem PileC.done {cs : CS} {starts ks : List Int} {n : Nat} (P : PileC cs starts ks [] n) : ReachC cs starts ks :=
  ⟨P.nd, P.sub, (fun x h => (P.start x h).resolve_right (fun h => nomatch h)), (fun q h1 h2 p h3 => (P.closed q h1 h2 p h3).resolve_right (fun h => nomatch h)), fun S h1 h2 => (P.least S h1 h2).1⟩
theorem PileC.skip {cs : CS} {starts ks pend : List Int} {k : Int} {n : Nat} (P : PileC cs starts ks (pend ++ [k]) n) (h : k ∈ ks) : PileC cs starts ks pend (n - 1) ∧ n - 1 < n := by
  have hs := P.size
  rw [List.length_append, List.length_singleton] at hs
  refine ⟨⟨P.nd, P.sub, fun x hx => P.psub x (List.mem_append_left _ hx), fun x hx => ?_, fun q h1 h2 p h3 => ?_, fun S h1 h2 => ⟨(P.least S h1 h2).1, fun x hx => (P.least S h1 h2).2 x (List.mem_append_left _ hx)⟩, by omega⟩, by omega⟩
  · rcases P.start x hx with h1 | h1
    · exact .inl h1
    · rcases List.mem_append.mp h1 with h1 | h1
      · exact .inr h1
      · rw [List.mem_singleton.mp h1]; exact .inl h
  · rcases P.closed q h1 h2 p h3 with h1 | h1
    · exact .inl h1
    · rcases List.mem_append.mp h1 with h1 | h1
      · exact .inr h1
      · rw [List.mem_singleton.mp h1]; exact .inl h
theorem PileC.take {cs : CS} {starts ks pend : List Int} {q : Int × Addr × List Int} {n : Nat} (ndk : (keys cs).Nodup) (hcl : ∀ q ∈ cs, ∀ p ∈ q.2.2, p ∈ keys cs) (P : PileC cs starts ks (pend ++ [q.1]) n) (hq : q ∈ cs) (h : q.1 ∉ ks) :
    PileC cs starts (ks ++ [q.1]) (pend ++ q.2.2) (n - 1) ∧ n - 1 < n := by
  have hs := P.size
  rw [List.length_append, List.length_singleton] at hs
  have hw := wsum_add ndk hq h
  have uniq := fun q' h1 e => cell_uniq ndk (q := q') (r := q) h1 hq e
  refine ⟨⟨?_, ?_, ?_, ?_, ?_, ?_, ?_⟩, by omega⟩
  · rw [List.nodup_append]
    exact ⟨P.nd, by simp, fun a ha b hb e => h (by rw [List.mem_singleton.mp hb] at e; exact e ▸ ha)⟩
  · intro x hx
    rcases List.mem_append.mp hx with hx | hx
    · exact P.sub x hx
    · rw [List.mem_singleton.mp hx]; exact mem_keys hq
  · intro x hx
    rcases List.mem_append.mp hx with hx | hx
    · exact P.psub x (List.mem_append_left _ hx)
    · exact hcl q hq x hx
  · intro x hx
    rcases P.start x hx with h1 | h1
    · exact .inl (List.mem_append_left _ h1)
    · rcases List.mem_append.mp h1 with h1 | h1
      · exact .inr (List.mem_append_left _ h1)
      · exact .inl (List.mem_append_right _ h1)
  · intro q' h1 h2 p hp
    rcases List.mem_append.mp h2 with h2 | h2
    · rcases P.closed q' h1 h2 p hp with h3 | h3
      · exact .inl (List.mem_append_left _ h3)
      · rcases List.mem_append.mp h3 with h3 | h3
        · exact .inr (List.mem_append_left _ h3)
        · exact .inl (List.mem_append_right _ h3)
    · rw [uniq q' h1 (List.mem_singleton.mp h2)] at hp
      exact .inr (List.mem_append_right _ hp)
  · intro S h1 h2
    obtain ⟨a1, a2⟩ := P.least S h1 h2
    have a3 : S q.1 := a2 _ (List.mem_append_right _ (List.mem_singleton.mpr rfl))
    refine ⟨fun x hx => ?_, fun x hx => ?_⟩
    · rcases List.mem_append.mp hx with hx | hx
      · exact a1 x hx
      · rw [List.mem_singleton.mp hx]; exact a3
    · rcases List.mem_append.mp hx with hx | hx
      · exact a2 x (List.mem_append_left _ hx)
      · exact h2 q hq a3 x hx
  · rw [List.length_append]; omega
end Mine
namespace Mine
theorem nodup_len {α : Type} [DecidableEq α] : ∀ {l m : List α}, l.Nodup → (∀ x ∈ l, x ∈ m) → l.length ≤ m.length
  | [], _, _, _ => Nat.zero_le _
  | x :: l, m, nd, h => by
    rw [List.nodup_cons] at nd
    have h1 : x ∈ m := h x (.head _)
    have h2 := nodup_len (l := l) (m := m.erase x) nd.2 fun y hy => by
      have hne : y ≠ x := fun e => nd.1 (e ▸ hy)
      exact (List.mem_erase_of_ne hne).mpr (h y (.tail _ hy))
    rw [List.length_erase_of_mem h1] at h2
    have : 0 < m.length := List.length_pos_of_mem h1
    rw [List.length_cons]; omega
end Mine
namespace Mine
structure ReachY (cs : CS) (ys starts ks : List Int) : Prop where
  nd : ks.Nodup
  sub : ∀ x ∈ ks, x ∈ ys
  start : ∀ x ∈ starts, x ∈ ys → x ∈ ks
  closed : ∀ q ∈ cs, q.1 ∈ ks → ∀ p ∈ q.2.2, p ∈ ys → p ∈ ks

structure PileY (cs : CS) (ys starts ks pend : List Int) (n : Nat) : Prop where
  nd : ks.Nodup
  sub : ∀ x ∈ ks, x ∈ ys
  start : ∀ x ∈ starts, x ∈ ys → x ∈ ks ∨ x ∈ pend
  closed : ∀ q ∈ cs, q.1 ∈ ks → ∀ p ∈ q.2.2, p ∈ ys → p ∈ ks ∨ p ∈ pend
  size : n = pend.length + wsum cs ks

theorem PileY.init {cs : CS} {ys starts : List Int} : PileY cs ys starts [] starts (starts.length + total cs) :=
  ⟨.nil, (fun _ h => nomatch h), (fun _ h _ => .inr h), (fun _ _ h => nomatch h), by rw [wsum_nil]⟩
theorem PileY.done {cs : CS} {ys starts ks : List Int} {n : Nat} (P : PileY cs ys starts ks [] n) : ReachY cs ys starts ks :=
  ⟨P.nd, P.sub, (fun x h hy => (P.start x h hy).resolve_right (fun h => nomatch h)), (fun q h1 h2 p h3 hy => (P.closed q h1 h2 p h3 hy).resolve_right (fun h => nomatch h))⟩
theorem PileY.skip {cs : CS} {ys starts ks pend : List Int} {k : Int} {n : Nat} (P : PileY cs ys starts ks (pend ++ [k]) n) (h : k ∈ ys → k ∈ ks) : PileY cs ys starts ks pend (n - 1) ∧ n - 1 < n := by
  have hs := P.size
  rw [List.length_append, List.length_singleton] at hs
  refine ⟨⟨P.nd, P.sub, fun x hx hy => ?_, fun q h1 h2 p h3 hy => ?_, by omega⟩, by omega⟩
  · rcases P.start x hx hy with h1 | h1
    · exact .inl h1
    · rcases List.mem_append.mp h1 with h1 | h1
      · exact .inr h1
      · rw [List.mem_singleton.mp h1] at hy ⊢; exact .inl (h hy)
  · rcases P.closed q h1 h2 p h3 hy with h1 | h1
    · exact .inl h1
    · rcases List.mem_append.mp h1 with h1 | h1
      · exact .inr h1
      · rw [List.mem_singleton.mp h1] at hy ⊢; exact .inl (h hy)
theorem PileY.take {cs : CS} {ys starts ks pend : List Int} {q : Int × Addr × List Int} {n : Nat} (ndk : (keys cs).Nodup) (P : PileY cs ys starts ks (pend ++ [q.1]) n) (hq : q ∈ cs) (h : q.1 ∉ ks) (hy : q.1 ∈ ys) :
    PileY cs ys starts (ks ++ [q.1]) (pend ++ q.2.2) (n - 1) ∧ n - 1 < n := by
  have hs := P.size
  rw [List.length_append, List.length_singleton] at hs
  have hw := wsum_add ndk hq h
  have uniq := fun q' h1 e => cell_uniq ndk (q := q') (r := q) h1 hq e
  refine ⟨⟨?_, ?_, ?_, ?_, ?_⟩, by omega⟩
  · rw [List.nodup_append]
    exact ⟨P.nd, by simp, fun a ha b hb e => h (by rw [List.mem_singleton.mp hb] at e; exact e ▸ ha)⟩
  · intro x hx
    rcases List.mem_append.mp hx with hx | hx
    · exact P.sub x hx
    · rw [List.mem_singleton.mp hx]; exact hy
  · intro x hx hxy
    rcases P.start x hx hxy with h1 | h1
    · exact .inl (List.mem_append_left _ h1)
    · rcases List.mem_append.mp h1 with h1 | h1
      · exact .inr (List.mem_append_left _ h1)
      · exact .inl (List.mem_append_right _ h1)
  · intro q' h1 h2 p hp hpy
    rcases List.mem_append.mp h2 with h2 | h2
    · rcases P.closed q' h1 h2 p hp hpy with h3 | h3
      · exact .inl (List.mem_append_left _ h3)
      · rcases List.mem_append.mp h3 with h3 | h3
        · exact .inr (List.mem_append_left _ h3)
        · exact .inl (List.mem_append_right _ h3)
    · rw [uniq q' h1 (List.mem_singleton.mp h2)] at hp
      exact .inr (List.mem_append_right _ hp)
  · rw [List.length_append]; omega
end Mine
namespace Mine

structure AR where
  d : Addr
  c : Addr
  y : Addr
  r : Addr
  ro : Addr
  young : Int
  old : Int
  next : Int
  mino : Int
  full : Int
  t1 : Tok
  t2 : Tok
  t3 : Tok
  t4 : Tok
  t5 : Tok
  cs : CS
  ys : List Int
  rs : List Int
  rows : List (Addr × List Int)

abbrev AR.attrs (X : AR) : List (Str × Value) := [("young", .int X.young X.t1), ("old", .int X.old X.t2), ("cells", .ref X.c), ("is_young", .ref X.y), ("remembered", .ref X.r), ("roots", .ref X.ro), ("next_number", .int X.next X.t3), ("minor_count", .int X.mino X.t4), ("full_count", .int X.full X.t5)]
abbrev arT (a : Addr) (X : AR) (τ : Ledger) : Ledger := (a, .inst 126 X.d) :: (X.d, .attrs X.attrs) :: (X.c, .idict (cd X.cs)) :: (X.y, .idict (tt X.ys)) :: (X.r, .idict (tt X.rs)) :: (X.ro, .refs (X.rows.map (·.1))) :: τ
abbrev arL (a : Addr) (X : AR) (τ : Ledger) : Ledger := arT a X (rowsL X.rows ++ (cellsL X.cs ++ τ))

structure Inv (X : AR) : Prop where
  ysub : ∀ x ∈ X.ys, x ∈ keys X.cs
  rsub : ∀ x ∈ X.rs, x ∈ keys X.cs ∧ x ∉ X.ys
  clo : ∀ q ∈ X.cs, ∀ p ∈ q.2.2, p ∈ keys X.cs
  bar : ∀ q ∈ X.cs, q.1 ∉ X.ys → q.1 ∉ X.rs → ∀ p ∈ q.2.2, p ∉ X.ys
  nxt : ∀ x ∈ keys X.cs, x < X.next
  root : ∀ r ∈ X.rows, ∀ x ∈ r.2, x ∈ keys X.cs
  z1 : X.cs.length < 60
  z2 : ∀ q ∈ X.cs, q.2.2.length ≤ 1000
  z3 : X.rows.length < 1000
  z4 : ∀ r ∈ X.rows, r.2.length ≤ 1000

theorem sum_le {l : List Nat} {b : Nat} (h : ∀ x ∈ l, x ≤ b) : l.sum ≤ l.length * b := by
  induction l with
  | nil => simp
  | cons x r ih =>
    have h1 := h x (.head _)
    have h2 := ih fun y hy => h y (.tail _ hy)
    rw [List.sum_cons, List.length_cons, Nat.succ_mul]; omega
theorem total_le {cs : CS} (h : ∀ q ∈ cs, q.2.2.length ≤ 1000) (hz : cs.length < 60) : total cs ≤ 60000 := by
  have := sum_le (l := cs.map fun q => q.2.2.length) (b := 1000) (by intro x hx; obtain ⟨q, hq, rfl⟩ := List.mem_map.mp hx; exact h q hq)
  rw [List.length_map] at this
  unfold total; omega
theorem flat_le {R : List (Addr × List Int)} (h : ∀ r ∈ R, r.2.length ≤ 1000) (hz : R.length < 1000) : (R.flatMap (·.2)).length ≤ 1000000 := by
  have := sum_le (l := R.map fun q => q.2.length) (b := 1000) (by intro x hx; obtain ⟨q, hq, rfl⟩ := List.mem_map.mp hx; exact h q hq)
  rw [List.length_map] at this
  rw [List.length_flatMap]
  omega
theorem mem_flat {R : List (Addr × List Int)} {x : Int} : x ∈ R.flatMap (·.2) ↔ ∃ r ∈ R, x ∈ r.2 := List.mem_flatMap

theorem without_cd (cs : CS) (k : Int) : without (cd cs) k = cd (cs.filter fun q => decide (q.1 ≠ k)) := by
  unfold without cd
  rw [List.filter_map]
  rfl
theorem cellsL_filter (f : (Int × Addr × List Int) → Bool) (cs : CS) : Sub (cellsL (cs.filter f)) (cellsL cs) := fun x => by
  letI : DecidableEq (Addr × Sp) := Classical.typeDecidableEq _
  exact List.Sublist.count_le x ((List.filter_sublist).map _)
theorem keys_filter {f : (Int × Addr × List Int) → Bool} {cs : CS} {k : Int} (h : k ∈ keys (cs.filter f)) : k ∈ keys cs := by
  obtain ⟨q, hq, rfl⟩ := key_cell h
  exact mem_keys (List.mem_filter.mp hq).1

structure FullTo (X X' : AR) (ks : List Int) : Prop where
  rows : X'.rows = X.rows
  young : X'.young = X.young
  old : X'.old = X.old
  next : X'.next = X.next
  ys : X'.ys = []
  rs : X'.rs = []
  cs : X'.cs = X.cs.filter fun q => decide (q.1 ∈ ks)
  reach : ReachC X.cs (X.rows.flatMap (·.2)) ks

structure MinorTo (X X' : AR) (ks : List Int) : Prop where
  rows : X'.rows = X.rows
  young : X'.young = X.young
  old : X'.old = X.old
  next : X'.next = X.next
  ys : X'.ys = []
  rs : X'.rs = []
  cs : X'.cs = X.cs.filter fun q => decide (q.1 ∈ ks) || decide (q.1 ∉ X.ys)
  root : ∀ r ∈ X.rows, ∀ x ∈ r.2, x ∈ X.ys → x ∈ ks
  rem : ∀ q ∈ X.cs, q.1 ∈ X.rs → ∀ p ∈ q.2.2, p ∈ X.ys → p ∈ ks
  closed : ∀ q ∈ X.cs, q.1 ∈ ks → ∀ p ∈ q.2.2, p ∈ X.ys → p ∈ ks
  sub : ∀ x ∈ ks, x ∈ X.ys
end Mine
namespace Mine
def cut (cs : CS) (ks dn : List Int) : CS := cs.filter fun q => decide (q.1 ∈ ks) || decide (q.1 ∉ dn)
theorem cut_nil (cs : CS) (ks : List Int) : cut cs ks [] = cs := by
  unfold cut; apply List.filter_eq_self.mpr; intro q _; simp
theorem cut_in {cs : CS} {ks dn : List Int} {k : Int} (h : k ∈ ks) : cut cs ks (dn ++ [k]) = cut cs ks dn := by
  unfold cut; apply List.filter_congr; intro q _
  by_cases e : q.1 = k
  · rw [e]; simp [h]
  · simp [e]
theorem cut_out {cs : CS} {ks dn : List Int} {k : Int} (h : k ∉ ks) : (cut cs ks dn).filter (fun q => decide (q.1 ≠ k)) = cut cs ks (dn ++ [k]) := by
  unfold cut; rw [List.filter_filter]; apply List.filter_congr; intro q _
  by_cases e : q.1 = k
  · rw [e]; simp [h]
  · simp [e]
theorem cut_mem {cs : CS} {ks dn : List Int} {k : Int} (h : k ∈ keys cs) (h2 : k ∉ dn) : (valueAt (cd (cut cs ks dn)) k).isSome = true := by
  rw [valueAt_cd_isSome]
  obtain ⟨q, hq, rfl⟩ := key_cell h
  exact decide_eq_true (mem_keys (List.mem_filter.mpr ⟨hq, by simp [h2]⟩))
theorem cut_all {cs : CS} {ks dn : List Int} (h : ∀ x ∈ keys cs, x ∈ dn) : cut cs ks dn = cs.filter fun q => decide (q.1 ∈ ks) := by
  unfold cut; apply List.filter_congr; intro q hq
  simp [h _ (mem_keys hq)]
theorem cut_perm {cs : CS} {ks dn ys : List Int} (h : ∀ x, x ∈ dn ↔ x ∈ ys) : cut cs ks dn = cs.filter fun q => decide (q.1 ∈ ks) || decide (q.1 ∉ ys) := by
  unfold cut; apply List.filter_congr; intro q hq
  simp [h]
theorem cut_len (cs : CS) (ks dn : List Int) : (cut cs ks dn).length ≤ cs.length := List.length_filter_le _ _
theorem not_mem_take {l : List Int} (nd : l.Nodup) {i : Nat} (h : i < l.length) : l[i] ∉ l.take i := by
  intro hm
  have e : l = l.take i ++ l.drop i := (List.take_append_drop i l).symm
  have e2 : l.drop i = l[i] :: l.drop (i + 1) := List.drop_eq_getElem_cons h
  rw [e, e2, List.nodup_append] at nd
  exact nd.2.2 _ hm _ (List.mem_cons_self ..) rfl
end Mine
namespace Mine

theorem mem_filter_keys {cs : CS} {f : (Int × Addr × List Int) → Bool} {q : Int × Addr × List Int} (h : q ∈ cs) (hf : f q = true) : q.1 ∈ keys (cs.filter f) := mem_keys (List.mem_filter.mpr ⟨h, hf⟩)

theorem FullTo.inv {X X' : AR} {ks : List Int} (I : Inv X) (T : FullTo X X' ks) : Inv X' := by
  have hk : ∀ x ∈ keys X'.cs, x ∈ keys X.cs := fun x hx => keys_filter (by rw [T.cs] at hx; exact hx)
  have hk2 : ∀ x ∈ ks, x ∈ keys X'.cs := fun x hx => by
    obtain ⟨q, hq, rfl⟩ := key_cell (T.reach.sub x hx)
    rw [T.cs]; exact mem_filter_keys hq (decide_eq_true hx)
  refine ⟨fun x hx => ?_, fun x hx => ?_, fun q hq p hp => ?_, fun q hq _ _ p hp => ?_, fun x hx => ?_, fun r hr x hx => ?_, ?_, fun q hq => ?_, ?_, fun r hr => ?_⟩
  · rw [T.ys] at hx; cases hx
  · rw [T.rs] at hx; cases hx
  · rw [T.cs] at hq
    obtain ⟨h1, h2⟩ := List.mem_filter.mp hq
    exact hk2 p (T.reach.closed q h1 (of_decide_eq_true h2) p hp)
  · rw [T.ys]; exact List.not_mem_nil
  · rw [T.next]; exact I.nxt x (hk x hx)
  · rw [T.rows] at hr
    exact hk2 x (T.reach.start x (mem_flat.mpr ⟨r, hr, hx⟩))
  · rw [T.cs]; exact Nat.lt_of_le_of_lt (List.length_filter_le _ _) I.z1
  · rw [T.cs] at hq; exact I.z2 q (List.mem_filter.mp hq).1
  · rw [T.rows]; exact I.z3
  · rw [T.rows] at hr; exact I.z4 r hr

theorem MinorTo.kept {X X' : AR} {ks : List Int} (T : MinorTo X X' ks) {q : Int × Addr × List Int} (hq : q ∈ X.cs) (h : q.1 ∈ X.ys → q.1 ∈ ks) : q ∈ X'.cs := by
  rw [T.cs]
  refine List.mem_filter.mpr ⟨hq, ?_⟩
  by_cases e : q.1 ∈ X.ys
  · simp [h e]
  · simp [e]
theorem MinorTo.inv {X X' : AR} {ks : List Int} (I : Inv X) (T : MinorTo X X' ks) : Inv X' := by
  have hk : ∀ x ∈ keys X'.cs, x ∈ keys X.cs := fun x hx => keys_filter (by rw [T.cs] at hx; exact hx)
  have hk2 : ∀ x ∈ keys X.cs, (x ∈ X.ys → x ∈ ks) → x ∈ keys X'.cs := fun x hx h => by
    obtain ⟨q, hq, rfl⟩ := key_cell hx
    exact mem_keys (T.kept hq h)
  refine ⟨fun x hx => ?_, fun x hx => ?_, fun q hq p hp => ?_, fun q hq _ _ p hp => ?_, fun x hx => ?_, fun r hr x hx => ?_, ?_, fun q hq => ?_, ?_, fun r hr => ?_⟩
  · rw [T.ys] at hx; cases hx
  · rw [T.rs] at hx; cases hx
  · rw [T.cs] at hq
    obtain ⟨h1, h2⟩ := List.mem_filter.mp hq
    refine hk2 p (I.clo q h1 p hp) fun hy => ?_
    by_cases e : q.1 ∈ ks
    · exact T.closed q h1 e p hp hy
    · have e2 : q.1 ∉ X.ys := by simpa [e] using h2
      by_cases e3 : q.1 ∈ X.rs
      · exact T.rem q h1 e3 p hp hy
      · exact absurd hy (I.bar q h1 e2 e3 p hp)
  · rw [T.ys]; exact List.not_mem_nil
  · rw [T.next]; exact I.nxt x (hk x hx)
  · rw [T.rows] at hr
    exact hk2 x (I.root r hr x hx) fun hy => T.root r hr x hx hy
  · rw [T.cs]; exact Nat.lt_of_le_of_lt (List.length_filter_le _ _) I.z1
  · rw [T.cs] at hq; exact I.z2 q (List.mem_filter.mp hq).1
  · rw [T.rows]; exact I.z3
  · rw [T.rows] at hr; exact I.z4 r hr

/-- what the parts lead to -/
inductive Lead (cs : CS) (from_ : List Int) : Int → Prop
  | root {x : Int} : x ∈ from_ → Lead cs from_ x
  | step {q : Int × Addr × List Int} {p : Int} : Lead cs from_ q.1 → q ∈ cs → p ∈ q.2.2 → Lead cs from_ p

theorem FullTo.lead {X X' : AR} {ks : List Int} (T : FullTo X X' ks) (x : Int) : x ∈ ks ↔ Lead X.cs (X.rows.flatMap (·.2)) x := by
  constructor
  · exact T.reach.least (Lead X.cs (X.rows.flatMap (·.2))) (fun x hx => .root hx) (fun q hq h p hp => .step h hq hp) x
  · intro h
    induction h with
    | root h => exact T.reach.start _ h
    | step _ hq hp ih => exact T.reach.closed _ hq ih _ hp
/-- a cell that a way leads to outlives a minor collection -/
theorem MinorTo.lead {X X' : AR} {ks : List Int} (I : Inv X) (T : MinorTo X X' ks) {x : Int} (h : Lead X.cs (X.rows.flatMap (·.2)) x) : x ∈ X.ys → x ∈ ks := by
  induction h with
  | root h =>
    obtain ⟨r, hr, hx⟩ := mem_flat.mp h
    exact T.root r hr _ hx
  | @step q p _ hq hp ih =>
    intro hy
    by_cases e : q.1 ∈ X.ys
    · exact T.closed q hq (ih e) p hp hy
    · by_cases e3 : q.1 ∈ X.rs
      · exact T.rem q hq e3 p hp hy
      · exact absurd hy (I.bar q hq e e3 p hp)

/-! cells written -/
def setCell (cs : CS) (n : Int) (f : List Int → List Int) : CS := cs.map fun r => if r.1 = n then (r.1, r.2.1, f r.2.2) else r
theorem keys_setCell (cs : CS) (n : Int) (f : List Int → List Int) : keys (setCell cs n f) = keys cs := by
  unfold keys setCell; rw [List.map_map]; apply List.map_congr_left; intro r _; simp only [Function.comp]; split <;> rfl
theorem cd_setCell (cs : CS) (n : Int) (f : List Int → List Int) : cd (setCell cs n f) = cd cs := by
  unfold cd setCell; rw [List.map_map]; apply List.map_congr_left; intro r _; simp only [Function.comp]; split <;> rfl
theorem setCell_id {cs : CS} {n : Int} {f : List Int → List Int} (h : n ∉ keys cs) : setCell cs n f = cs := by
  induction cs with
  | nil => rfl
  | cons r l ih =>
    unfold keys at h
    rw [List.map_cons, List.mem_cons, not_or] at h
    have h1 : ¬ r.1 = n := fun e => h.1 e.symm
    have := ih h.2
    unfold setCell at this ⊢
    rw [List.map_cons, this, if_neg h1]
theorem up_cell {f : List Int → List Int} : ∀ {cs : CS} {q : Int × Addr × List Int}, (keys cs).Nodup → q ∈ cs → Up q.2.1 (.ints q.2.2) (.ints (f q.2.2)) (cellsL cs) (cellsL (setCell cs q.1 f))
  | x :: r, q, nd, h => by
    unfold keys at nd
    rw [List.map_cons, List.nodup_cons] at nd
    cases h with
    | head =>
      have e := setCell_id (f := f) (cs := r) (n := x.1) nd.1
      have : cellsL (setCell (x :: r) x.1 f) = (x.2.1, Sp.ints (f x.2.2)) :: cellsL r := by
        conv => rhs; rw [← e]
        unfold setCell cellsL
        simp
      rw [this]
      exact .head
    | tail _ h =>
      have hne : ¬ x.1 = q.1 := fun e => nd.1 (e ▸ List.mem_map_of_mem (f := (·.1)) h)
      have : cellsL (setCell (x :: r) q.1 f) = (x.2.1, Sp.ints x.2.2) :: cellsL (setCell r q.1 f) := by
        unfold setCell cellsL
        simp [hne]
      rw [this]
      exact .tail (up_cell (cs := r) nd.2 h)
theorem mem_setCell {cs : CS} {n : Int} {f : List Int → List Int} {q : Int × Addr × List Int} (h : q ∈ setCell cs n f) : ∃ r ∈ cs, q.1 = r.1 ∧ q.2.1 = r.2.1 ∧ q.2.2 = if r.1 = n then f r.2.2 else r.2.2 := by
  obtain ⟨r, hr, rfl⟩ := List.mem_map.mp h
  refine ⟨r, hr, ?_⟩
  split <;> simp
theorem setCell_mem {cs : CS} {n : Int} {f : List Int → List Int} {r : Int × Addr × List Int} (h : r ∈ cs) : (r.1, r.2.1, if r.1 = n then f r.2.2 else r.2.2) ∈ setCell cs n f := by
  refine List.mem_map.mpr ⟨r, h, ?_⟩
  split <;> rfl
theorem setCell_length (cs : CS) (n : Int) (f : List Int → List Int) : (setCell cs n f).length = cs.length := by simp [setCell]

structure WroteTo (X X' : AR) (n : Int) (k : Nat) (part : Int) : Prop where
  rows : X'.rows = X.rows
  young : X'.young = X.young
  old : X'.old = X.old
  next : X'.next = X.next
  ys : X'.ys = X.ys
  cs : X'.cs = setCell X.cs n fun l => l.set k part
  rs : (X'.rs = X.rs ∧ (n ∈ X.ys ∨ part ∉ X.ys ∨ n ∈ X.rs)) ∨ (X'.rs = X.rs ++ [n] ∧ n ∉ X.ys)

theorem WroteTo.inv {X X' : AR} {n part : Int} {k : Nat} (I : Inv X) (T : WroteTo X X' n k part) (hp : part ∈ keys X.cs) (hn : n ∈ keys X.cs) : Inv X' := by
  have hk : keys X'.cs = keys X.cs := by rw [T.cs, keys_setCell]
  have hset : ∀ {l : List Int} {p : Int}, p ∈ l.set k part → p ∈ l ∨ p = part := fun h => List.mem_or_eq_of_mem_set h
  have hrs : ∀ x ∈ X'.rs, x ∈ X.rs ∨ (x = n ∧ n ∉ X.ys) := fun x hx => by
    rcases T.rs with ⟨h1, _⟩ | ⟨h1, h2⟩
    · rw [h1] at hx; exact .inl hx
    · rw [h1] at hx
      rcases List.mem_append.mp hx with hx | hx
      · exact .inl hx
      · exact .inr ⟨List.mem_singleton.mp hx, h2⟩
  refine ⟨fun x hx => ?_, fun x hx => ?_, fun q hq p hp' => ?_, fun q hq h1 h2 p hp' => ?_, fun x hx => ?_, fun r hr x hx => ?_, ?_, fun q hq => ?_, ?_, fun r hr => ?_⟩
  · rw [hk]; rw [T.ys] at hx; exact I.ysub x hx
  · rw [hk, T.ys]
    rcases hrs x hx with h | ⟨rfl, h⟩
    · exact I.rsub x h
    · exact ⟨hn, h⟩
  · rw [hk]
    rw [T.cs] at hq
    obtain ⟨r, hr, e1, _, e3⟩ := mem_setCell hq
    rw [e3] at hp'
    split at hp'
    · rcases hset hp' with h | h
      · exact I.clo r hr p h
      · rw [h]; exact hp
    · exact I.clo r hr p hp'
  · rw [T.ys] at h1 ⊢
    rw [T.cs] at hq
    obtain ⟨r, hr, e1, _, e3⟩ := mem_setCell hq
    have hr2 : r.1 ∉ X.rs := fun h => h2 (by
      rw [e1]
      rcases T.rs with ⟨a, _⟩ | ⟨a, _⟩
      · rw [a]; exact h
      · rw [a]; exact List.mem_append_left _ h)
    rw [e1] at h1
    rw [e3] at hp'
    split at hp'
    · rename_i en
      rcases hset hp' with h | h
      · exact I.bar r hr h1 hr2 p h
      · rw [h]
        rcases T.rs with ⟨_, a | a | a⟩ | ⟨a, _⟩
        · exact absurd a (en ▸ h1)
        · exact a
        · exact absurd a (en ▸ hr2)
        · exact absurd (by rw [a, e1, en]; exact List.mem_append_right _ (List.mem_singleton.mpr rfl)) h2
    · exact I.bar r hr h1 hr2 p hp'
  · rw [T.next]; rw [hk] at hx; exact I.nxt x hx
  · rw [hk]; rw [T.rows] at hr; exact I.root r hr x hx
  · rw [T.cs, setCell_length]; exact I.z1
  · rw [T.cs] at hq
    obtain ⟨r, hr, e1, _, e3⟩ := mem_setCell hq
    rw [e3]
    split
    · rw [List.length_set]; exact I.z2 r hr
    · exact I.z2 r hr
  · rw [T.rows]; exact I.z3
  · rw [T.rows] at hr; exact I.z4 r hr

/-- room made, if any -/
structure RoomTo (X X1 : AR) (ps : List Int) : Prop where
  rows : X1.rows = X.rows
  young : X1.young = X.young
  old : X1.old = X.old
  next : X1.next = X.next
  inv : Inv X1
  psub : ∀ x ∈ ps, x ∈ keys X1.cs
  sub : ∀ q ∈ X1.cs, q ∈ X.cs
  lead : ∀ q ∈ X.cs, Lead X.cs (X.rows.flatMap (·.2) ++ ps) q.1 → q ∈ X1.cs

theorem RoomTo.none {X : AR} {ps : List Int} (I : Inv X) (h : ∀ x ∈ ps, x ∈ keys X.cs) : RoomTo X X ps := ⟨rfl, rfl, rfl, rfl, I, h, fun _ h => h, fun _ h _ => h⟩
theorem Inv.addRow {X : AR} {pa : Addr} {ps : List Int} (I : Inv X) (h : ∀ x ∈ ps, x ∈ keys X.cs) (hz : ps.length ≤ 1000) (hz2 : X.rows.length < 999) : Inv { X with rows := X.rows ++ [(pa, ps)] } :=
  ⟨I.ysub, I.rsub, I.clo, I.bar, I.nxt, fun r hr x hx => by
    rcases List.mem_append.mp hr with hr | hr
    · exact I.root r hr x hx
    · rw [List.mem_singleton.mp hr] at hx; exact h x hx, I.z1, I.z2, by rw [List.length_append]; exact Nat.succ_lt_succ hz2, fun r hr => by
    rcases List.mem_append.mp hr with hr | hr
    · exact I.z4 r hr
    · rw [List.mem_singleton.mp hr]; exact hz⟩
theorem Inv.lessRows {X : AR} {R : List (Addr × List Int)} (I : Inv X) (h : ∀ r ∈ R, r ∈ X.rows) (hz : R.length < 1000) : Inv { X with rows := R } :=
  ⟨I.ysub, I.rsub, I.clo, I.bar, I.nxt, fun r hr x hx => I.root r (h r hr) x hx, I.z1, I.z2, hz, fun r hr => I.z4 r (h r hr)⟩
theorem RoomTo.minor {X X2 : AR} {pa : Addr} {ps ks : List Int} (I : Inv X) (h : ∀ x ∈ ps, x ∈ keys X.cs) (hz : ps.length ≤ 1000) (hz2 : X.rows.length < 999) (T : MinorTo { X with rows := X.rows ++ [(pa, ps)] } X2 ks) : RoomTo X { X2 with rows := X.rows } ps := by
  have I1 := I.addRow (pa := pa) h hz hz2
  have I2 := T.inv I1
  have fl : (X.rows ++ [(pa, ps)]).flatMap (·.2) = X.rows.flatMap (·.2) ++ ps := by simp
  refine ⟨rfl, T.young, T.old, T.next, I2.lessRows (fun r hr => by rw [T.rows]; exact List.mem_append_left _ hr) (by omega), fun x hx => ?_, fun q hq => ?_, fun q hq hl => ?_⟩
  · exact I2.root (pa, ps) (by rw [T.rows]; exact List.mem_append_right _ (List.mem_singleton.mpr rfl)) x hx
  · have : q ∈ X2.cs := hq
    rw [T.cs] at this
    exact (List.mem_filter.mp this).1
  · exact T.kept hq (T.lead I1 (by rw [fl]; exact hl))

structure AllocTo (X X' : AR) (ps : List Int) : Prop where
  inv : Inv X'
  rows : X'.rows = X.rows
  young : X'.young = X.young
  old : X'.old = X.old
  next : X'.next = X.next + 1
  cs : ∃ X1 D, RoomTo X X1 ps ∧ X'.cs = X1.cs ++ [(X.next, D, ps)]

theorem Inv.alloc {X1 : AR} {D : Addr} {ps : List Int} (I : Inv X1) (h : ∀ x ∈ ps, x ∈ keys X1.cs) (hz : ps.length ≤ 1000) (hz2 : X1.cs.length < 59) {t3 : Tok} : Inv { X1 with next := X1.next + 1, t3 := t3, cs := X1.cs ++ [(X1.next, D, ps)], ys := X1.ys ++ [X1.next] } := by
  have hk : keys (X1.cs ++ [(X1.next, D, ps)]) = keys X1.cs ++ [X1.next] := by simp [keys]
  have hnew : X1.next ∉ keys X1.cs := fun h => absurd (I.nxt _ h) (Int.lt_irrefl _)
  refine ⟨fun x hx => ?_, fun x hx => ?_, fun q hq p hp => ?_, fun q hq h1 h2 p hp => ?_, fun x hx => ?_, fun r hr x hx => ?_, ?_, fun q hq => ?_, I.z3, I.z4⟩
  · show x ∈ keys (X1.cs ++ [(X1.next, D, ps)])
    rw [hk]
    rcases List.mem_append.mp hx with hx | hx
    · exact List.mem_append_left _ (I.ysub x hx)
    · exact List.mem_append_right _ hx
  · show x ∈ keys (X1.cs ++ [(X1.next, D, ps)]) ∧ x ∉ X1.ys ++ [X1.next]
    rw [hk]
    obtain ⟨a, b⟩ := I.rsub x hx
    refine ⟨List.mem_append_left _ a, fun h => ?_⟩
    rcases List.mem_append.mp h with h | h
    · exact b h
    · exact hnew (List.mem_singleton.mp h ▸ a)
  · show p ∈ keys (X1.cs ++ [(X1.next, D, ps)])
    rw [hk]
    rcases List.mem_append.mp hq with hq | hq
    · exact List.mem_append_left _ (I.clo q hq p hp)
    · rw [List.mem_singleton.mp hq] at hp; exact List.mem_append_left _ (h p hp)
  · show p ∉ X1.ys ++ [X1.next]
    rcases List.mem_append.mp hq with hq | hq
    · intro h3
      rcases List.mem_append.mp h3 with h3 | h3
      · exact I.bar q hq (fun h => h1 (List.mem_append_left _ h)) h2 p hp h3
      · exact hnew (List.mem_singleton.mp h3 ▸ I.clo q hq p hp)
    · rw [List.mem_singleton.mp hq] at h1
      exact absurd (List.mem_append_right _ (List.mem_singleton.mpr rfl)) h1
  · have hx' : x ∈ keys (X1.cs ++ [(X1.next, D, ps)]) := hx
    rw [hk] at hx'
    show x < X1.next + 1
    rcases List.mem_append.mp hx' with hx | hx
    · have := I.nxt x hx; omega
    · rw [List.mem_singleton.mp hx]; omega
  · show x ∈ keys (X1.cs ++ [(X1.next, D, ps)])
    rw [hk]; exact List.mem_append_left _ (I.root r hr x hx)
  · show (X1.cs ++ [(X1.next, D, ps)]).length < 60
    rw [List.length_append]; exact Nat.succ_lt_succ hz2
  · rcases List.mem_append.mp hq with hq | hq
    · exact I.z2 q hq
    · rw [List.mem_singleton.mp hq]; exact hz
end Mine
namespace Mine

structure RList (T : CS) (rs rl : List Int) (k : Nat) : Prop where
  nd : rl.Nodup
  sub : ∀ x ∈ rl, x ∈ keys T
  start : ∀ x ∈ rs, x ∈ rl
  le : k ≤ rl.length
  done : ∀ i, i < k → ∀ q ∈ T, some q.1 = rl[i]? → ∀ p ∈ q.2.2, p ∈ rl
  lead : ∀ x ∈ rl, Lead T rs x

theorem RList.init {T : CS} {rs : List Int} (nd : rs.Nodup) (h : ∀ x ∈ rs, x ∈ keys T) : RList T rs rs 0 :=
  ⟨nd, h, fun _ h => h, Nat.zero_le _, fun i h => absurd h (Nat.not_lt_zero _), fun _ h => .root h⟩
theorem RList.fin {T : CS} {rs rl : List Int} {k : Nat} (J : RList T rs rl k) (h : rl.length ≤ k) (x : Int) : x ∈ rl ↔ Lead T rs x := by
  refine ⟨J.lead x, fun hl => ?_⟩
  induction hl with
  | root h => exact J.start _ h
  | @step q p _ hq hp ih =>
    obtain ⟨i, hi, e⟩ := List.mem_iff_getElem.mp ih
    exact J.done i (by omega) q hq (by rw [List.getElem?_eq_getElem hi, e]) p hp
/-- within a turn: the parts seen so far -/
structure RTurn (T : CS) (rs rl : List Int) (k : Nat) (q : Int × Addr × List Int) (j : Nat) : Prop where
  base : RList T rs rl k
  here : rl[k]? = some q.1
  seen : ∀ p ∈ q.2.2.take j, p ∈ rl

theorem RTurn.skip {T : CS} {rs rl : List Int} {k j : Nat} {q : Int × Addr × List Int} (J : RTurn T rs rl k q j) (hj : j < q.2.2.length) (h : q.2.2[j] ∈ rl) : RTurn T rs rl k q (j + 1) :=
  ⟨J.base, J.here, fun p hp => by
    rw [List.take_succ_eq_append_getElem hj] at hp
    rcases List.mem_append.mp hp with hp | hp
    · exact J.seen p hp
    · rw [List.mem_singleton.mp hp]; exact h⟩
theorem RTurn.add {T : CS} {rs rl : List Int} {k j : Nat} {q : Int × Addr × List Int} (clo : ∀ q ∈ T, ∀ p ∈ q.2.2, p ∈ keys T) (hq : q ∈ T) (J : RTurn T rs rl k q j) (hj : j < q.2.2.length) (h : q.2.2[j] ∉ rl) : RTurn T rs (rl ++ [q.2.2[j]]) k q (j + 1) := by
  have hk : k < rl.length := (List.getElem?_eq_some_iff.mp J.here).1
  refine ⟨⟨?_, fun x hx => ?_, fun x hx => List.mem_append_left _ (J.base.start x hx), by rw [List.length_append]; omega, fun i hi q' hq' e p hp => ?_, fun x hx => ?_⟩, ?_, fun p hp => ?_⟩
  · rw [List.nodup_append]
    exact ⟨J.base.nd, by simp, fun a ha b hb e => h (by rw [List.mem_singleton.mp hb] at e; exact e ▸ ha)⟩
  · rcases List.mem_append.mp hx with hx | hx
    · exact J.base.sub x hx
    · rw [List.mem_singleton.mp hx]; exact clo q hq _ (List.getElem_mem hj)
  · rw [List.getElem?_append_left (by omega)] at e
    exact List.mem_append_left _ (J.base.done i hi q' hq' e p hp)
  · rcases List.mem_append.mp hx with hx | hx
    · exact J.base.lead x hx
    · rw [List.mem_singleton.mp hx]
      exact .step (J.base.lead q.1 (List.mem_of_getElem? J.here)) hq (List.getElem_mem hj)
  · rw [List.getElem?_append_left hk]; exact J.here
  · rw [List.take_succ_eq_append_getElem hj] at hp
    rcases List.mem_append.mp hp with hp | hp
    · exact List.mem_append_left _ (J.seen p hp)
    · exact List.mem_append_right _ hp
theorem RTurn.fin {T : CS} {rs rl : List Int} {k j : Nat} {q : Int × Addr × List Int} (ndk : (keys T).Nodup) (hq : q ∈ T) (J : RTurn T rs rl k q j) (hj : q.2.2.length ≤ j) : RList T rs rl (k + 1) := by
  have hk : k < rl.length := (List.getElem?_eq_some_iff.mp J.here).1
  refine ⟨J.base.nd, J.base.sub, J.base.start, hk, fun i hi q' hq' e p hp => ?_, J.base.lead⟩
  rcases Nat.lt_or_ge i k with h | h
  · exact J.base.done i h q' hq' e p hp
  · have : i = k := by omega
    subst this
    rw [J.here] at e
    have := cell_uniq ndk hq' hq (Option.some.inj e)
    subst this
    exact J.seen p (by rw [List.take_of_length_le hj]; exact hp)
theorem RList.len {T : CS} {rs rl : List Int} {k : Nat} (J : RList T rs rl k) : rl.length ≤ T.length := by
  have := nodup_len J.nd J.sub
  rwa [length_keys] at this
theorem any_eq_mem (l : List Int) (k : Int) : l.any (· == k) = decide (k ∈ l) := by
  induction l with
  | nil => simp
  | cons a r ih =>
    rw [List.any_cons, ih]
    by_cases h : a = k
    · subst h; simp
    · have h' : ¬ k = a := fun e => h e.symm
      simp [h, h']

theorem Lead.inKeys {T : CS} {rs : List Int} (hr : ∀ x ∈ rs, x ∈ keys T) (clo : ∀ q ∈ T, ∀ p ∈ q.2.2, p ∈ keys T) {x : Int} (h : Lead T rs x) : x ∈ keys T := by
  cases h with
  | root h => exact hr x h
  | step _ hq hp => exact clo _ hq x hp
theorem Lead.mono {T : CS} {rs rs' : List Int} (h : ∀ x ∈ rs, x ∈ rs') {x : Int} (hl : Lead T rs x) : Lead T rs' x := by
  induction hl with
  | root h1 => exact .root (h _ h1)
  | step _ hq hp ih => exact .step ih hq hp

/-! the table and an arena say the same of what can be reached -/
def Same (T cs : CS) (rs : List Int) : Prop := ∀ q ∈ T, Lead T rs q.1 → ∃ q' ∈ cs, q'.1 = q.1 ∧ q'.2.2 = q.2.2

theorem Same.to {T cs : CS} {rs : List Int} (S : Same T cs rs) {x : Int} (h : Lead T rs x) : Lead cs rs x := by
  induction h with
  | root h => exact .root h
  | @step q p hl hq hp ih =>
    obtain ⟨q', h1, h2, h3⟩ := S q hq hl
    exact .step (q := q') (by rw [h2]; exact ih) h1 (by rw [h3]; exact hp)
theorem Same.of {T cs : CS} {rs : List Int} (S : Same T cs rs) (hr : ∀ x ∈ rs, x ∈ keys T) (clo : ∀ q ∈ T, ∀ p ∈ q.2.2, p ∈ keys T) (nd : (keys cs).Nodup) {x : Int} (h : Lead cs rs x) : Lead T rs x := by
  induction h with
  | root h => exact .root h
  | @step q p hl hq hp ih =>
    obtain ⟨r, hr', e⟩ := key_cell (ih.inKeys hr clo)
    rw [← e] at ih
    obtain ⟨q', h1, h2, h3⟩ := S r hr' ih
    have : q' = q := cell_uniq nd h1 hq (h2.trans e)
    subst this
    exact .step ih hr' (by rw [← h3]; exact hp)
theorem Same.sub {T cs cs' : CS} {rs : List Int} (S : Same T cs rs) (h : ∀ q ∈ cs, Lead cs rs q.1 → q ∈ cs') : Same T cs' rs := fun q hq hl => by
  obtain ⟨q', h1, h2, h3⟩ := S q hq hl
  exact ⟨q', h q' h1 (by rw [h2]; exact S.to hl), h2, h3⟩
theorem Same.less {T cs : CS} {rs rs' : List Int} (S : Same T cs rs) (h : ∀ x ∈ rs', x ∈ rs) : Same T cs rs' := fun q hq hl => S q hq (hl.mono h)

theorem lead_set {T : CS} {rs : List Int} {n part : Int} {k : Nat} (hp : Lead T rs part) {x : Int} (h : Lead (setCell T n fun l => l.set k part) rs x) : Lead T rs x := by
  induction h with
  | root h => exact .root h
  | @step q p hl hq hp' ih =>
    obtain ⟨r, hr, e1, _, e3⟩ := mem_setCell hq
    rw [e3] at hp'
    rw [e1] at ih
    split at hp'
    · rcases List.mem_or_eq_of_mem_set hp' with h | h
      · exact .step ih hr h
      · rw [h]; exact hp
    · exact .step ih hr hp'
theorem Same.set {T cs : CS} {rs : List Int} {n part : Int} {k : Nat} (S : Same T cs rs) (hp : Lead T rs part) : Same (setCell T n fun l => l.set k part) (setCell cs n fun l => l.set k part) rs := fun q hq hl => by
  obtain ⟨r, hr, e1, e2, e3⟩ := mem_setCell hq
  have hl' := lead_set hp hl
  rw [e1] at hl'
  obtain ⟨q', h1, h2, h3⟩ := S r hr hl'
  refine ⟨_, setCell_mem h1, by rw [e1]; exact h2, ?_⟩
  rw [e3, h2, h3]

theorem lead_add {T : CS} {rs ps : List Int} {n : Int} {D : Addr} (hr : ∀ x ∈ rs, x ∈ keys T) (clo : ∀ q ∈ T, ∀ p ∈ q.2.2, p ∈ keys T) (hn : n ∉ keys T) (hp : ∀ x ∈ ps, Lead T rs x) {x : Int} (h : Lead (T ++ [(n, D, ps)]) (rs ++ [n]) x) : x = n ∨ Lead T rs x := by
  induction h with
  | root h =>
    rcases List.mem_append.mp h with h | h
    · exact .inr (.root h)
    · exact .inl (List.mem_singleton.mp h)
  | @step q p hl hq hp' ih =>
    right
    rcases List.mem_append.mp hq with hq | hq
    · rcases ih with ih | ih
      · exact absurd (ih ▸ mem_keys hq) hn
      · exact .step ih hq hp'
    · rw [List.mem_singleton.mp hq] at hp'
      exact hp p hp'

/-- an arena and the law's table -/
structure Agree (T : CS) (rs : List Int) (X : AR) : Prop where
  inv : Inv X
  old : X.old = 500
  rows : X.rows.map (·.2) = rs.map fun x => [x]
  next : X.next = (T.length : Int)
  same : Same T X.cs rs
  len : X.cs.length ≤ T.length

theorem flat_single (l : List Int) : (l.map fun x => [x]).flatten = l := by
  induction l with
  | nil => rfl
  | cons a r ih => rw [List.map_cons, List.flatten_cons, ih]; rfl
theorem Agree.flat {T : CS} {rs : List Int} {X : AR} (G : Agree T rs X) : X.rows.flatMap (·.2) = rs := by
  have h : X.rows.flatMap (·.2) = (X.rows.map (·.2)).flatten := by rw [List.flatMap]
  rw [h, G.rows, flat_single]
end Mine
namespace Mine

structure Fit (T : CS) (rs : List Int) : Prop where
  ndr : rs.Nodup
  rsub : ∀ x ∈ rs, x ∈ keys T
  clo : ∀ q ∈ T, ∀ p ∈ q.2.2, p ∈ keys T
  num : ∀ x ∈ keys T, x < (T.length : Int)
  sz : ∀ q ∈ T, q.2.2.length ≤ 1000

theorem keys_snoc (T : CS) (q : Int × Addr × List Int) : keys (T ++ [q]) = keys T ++ [q.1] := by simp [keys]
theorem Fit.fresh {T : CS} {rs : List Int} (F : Fit T rs) : (T.length : Int) ∉ keys T := fun h => absurd (F.num _ h) (Int.lt_irrefl _)
theorem Fit.lead {T : CS} {rs : List Int} (F : Fit T rs) {x : Int} (h : Lead T rs x) : x ∈ keys T := h.inKeys F.rsub F.clo
theorem Fit.rlen {T : CS} {rs : List Int} (F : Fit T rs) : rs.length ≤ T.length := by
  have := nodup_len F.ndr F.rsub
  rwa [length_keys] at this

theorem Fit.make {T : CS} {rs ps : List Int} {D : Addr} (F : Fit T rs) (h : ∀ p ∈ ps, p ∈ keys T) (hz : ps.length ≤ 1000) : Fit (T ++ [((T.length : Int), D, ps)]) (rs ++ [(T.length : Int)]) := by
  refine ⟨?_, fun x hx => ?_, fun q hq p hp => ?_, fun x hx => ?_, fun q hq => ?_⟩
  · rw [List.nodup_append]
    exact ⟨F.ndr, by simp, fun a ha b hb e => F.fresh (by rw [List.mem_singleton.mp hb] at e; rw [← e]; exact F.rsub a ha)⟩
  · rw [keys_snoc]
    rcases List.mem_append.mp hx with hx | hx
    · exact List.mem_append_left _ (F.rsub x hx)
    · exact List.mem_append_right _ hx
  · rw [keys_snoc]
    rcases List.mem_append.mp hq with hq | hq
    · exact List.mem_append_left _ (F.clo q hq p hp)
    · rw [List.mem_singleton.mp hq] at hp; exact List.mem_append_left _ (h p hp)
  · rw [keys_snoc] at hx
    rw [List.length_append, List.length_singleton]
    rcases List.mem_append.mp hx with hx | hx
    · have := F.num x hx; omega
    · rw [List.mem_singleton.mp hx]; omega
  · rcases List.mem_append.mp hq with hq | hq
    · exact F.sz q hq
    · rw [List.mem_singleton.mp hq]; exact hz

theorem Agree.make {T : CS} {rs ps : List Int} {X X' : AR} {D pa : Addr} (F : Fit T rs) (G : Agree T rs X) (AT : AllocTo X X' ps) (nd : (keys X'.cs).Nodup) (hl : ∀ p ∈ ps, Lead T rs p) (hz : T.length < 59) :
    Agree (T ++ [((T.length : Int), D, ps)]) (rs ++ [(T.length : Int)]) { X' with rows := X'.rows ++ [(pa, [(T.length : Int)])] } := by
  obtain ⟨X1, D', RT, hcs⟩ := AT.cs
  have hn := G.next
  have rl := F.rlen
  have hrl : X'.rows.length = rs.length := by
    have := congrArg List.length G.rows
    rw [List.length_map, List.length_map] at this
    rw [AT.rows, this]
  have hin : (T.length : Int) ∈ keys X'.cs := by rw [hcs, keys_snoc, hn]; exact List.mem_append_right _ (List.mem_singleton.mpr rfl)
  refine ⟨AT.inv.addRow (fun x hx => by rw [List.mem_singleton.mp hx]; exact hin) (by simp) (by omega), ?_, ?_, ?_, ?_, ?_⟩
  · show X'.old = 500
    rw [AT.old, G.old]
  · show (X'.rows ++ [(pa, [(T.length : Int)])]).map (·.2) = _
    rw [AT.rows, List.map_append, G.rows, List.map_append]; rfl
  · show X'.next = _
    rw [AT.next, hn, List.length_append, List.length_singleton]; omega
  · intro q hq hlq
    show ∃ q' ∈ X'.cs, _
    rw [hcs]
    rcases List.mem_append.mp hq with hq | hq
    · have hne : q.1 ≠ (T.length : Int) := fun e => F.fresh (e ▸ mem_keys hq)
      rcases lead_add F.rsub F.clo F.fresh hl hlq with h | h
      · exact absurd h hne
      · obtain ⟨q', h1, h2, h3⟩ := G.same q hq h
        refine ⟨q', List.mem_append_left _ (RT.lead q' h1 ?_), h2, h3⟩
        rw [G.flat, h2]
        exact (G.same.to h).mono fun x hx => List.mem_append_left _ hx
    · rw [List.mem_singleton.mp hq]
      exact ⟨_, List.mem_append_right _ (List.mem_singleton.mpr rfl), hn, rfl⟩
  · show X'.cs.length ≤ _
    rw [hcs, keys_snoc] at nd
    have n1 := (List.nodup_append.mp nd).1
    have := nodup_len n1 (m := keys X.cs) fun x hx => by
      obtain ⟨q, hq, rfl⟩ := key_cell hx
      exact mem_keys (RT.sub q hq)
    rw [length_keys, length_keys] at this
    have := G.len
    rw [hcs, List.length_append, List.length_append, List.length_singleton, List.length_singleton]; omega

theorem Fit.write {T : CS} {rs : List Int} {n part : Int} {k : Nat} (F : Fit T rs) (hp : part ∈ keys T) : Fit (setCell T n fun l => l.set k part) rs := by
  refine ⟨F.ndr, fun x hx => by rw [keys_setCell]; exact F.rsub x hx, fun q hq p hp' => ?_, fun x hx => by rw [keys_setCell] at hx; rw [setCell_length]; exact F.num x hx, fun q hq => ?_⟩
  · rw [keys_setCell]
    obtain ⟨r, hr, e1, _, e3⟩ := mem_setCell hq
    rw [e3] at hp'
    split at hp'
    · rcases List.mem_or_eq_of_mem_set hp' with h | h
      · exact F.clo r hr p h
      · rw [h]; exact hp
    · exact F.clo r hr p hp'
  · obtain ⟨r, hr, e1, _, e3⟩ := mem_setCell hq
    rw [e3]
    split
    · rw [List.length_set]; exact F.sz r hr
    · exact F.sz r hr

theorem Same.keys {T cs : CS} {rs : List Int} (F : Fit T rs) (S : Same T cs rs) {x : Int} (h : Lead T rs x) : x ∈ keys cs := by
  obtain ⟨q, hq, rfl⟩ := key_cell (F.lead h)
  obtain ⟨q', h1, h2, _⟩ := S q hq h
  rw [← h2]; exact mem_keys h1

theorem Agree.write {T : CS} {rs : List Int} {X X' : AR} {n part : Int} {k : Nat} (F : Fit T rs) (G : Agree T rs X) (WT : WroteTo X X' n k part) (hn : Lead T rs n) (hp : Lead T rs part) : Agree (setCell T n fun l => l.set k part) rs X' := by
  refine ⟨WT.inv G.inv (G.same.keys F hp) (G.same.keys F hn), by rw [WT.old, G.old], by rw [WT.rows, G.rows], by rw [WT.next, G.next, setCell_length], ?_, ?_⟩
  · rw [WT.cs]; exact G.same.set hp
  · rw [WT.cs, setCell_length, setCell_length]; exact G.len

theorem Fit.pop {T : CS} {rs : List Int} {x : Int} (F : Fit T (rs ++ [x])) : Fit T rs :=
  ⟨(List.nodup_append.mp F.ndr).1, fun y hy => F.rsub y (List.mem_append_left _ hy), F.clo, F.num, F.sz⟩
theorem Agree.pop {T : CS} {rs : List Int} {x : Int} {X : AR} (F : Fit T (rs ++ [x])) (G : Agree T (rs ++ [x]) X) : ∃ R r, X.rows = R ++ [r] ∧ Agree T rs { X with rows := R } := by
  have h := G.rows
  rw [List.map_append] at h
  rcases List.eq_nil_or_concat X.rows with e | ⟨R, r, e⟩
  · rw [e] at h; simp at h
  · rw [List.concat_eq_append] at e
    refine ⟨R, r, e, ?_⟩
    rw [e, List.map_append, List.map_cons, List.map_nil, List.map_cons, List.map_nil] at h
    have h1 := (List.append_inj' h rfl).1
    have hz := G.inv.z3
    rw [e, List.length_append] at hz
    exact ⟨G.inv.lessRows (fun q hq => by rw [e]; exact List.mem_append_left _ hq) (by omega), G.old, h1, G.next, G.same.less fun y hy => List.mem_append_left _ hy, G.len⟩

theorem Agree.minor {T : CS} {rs ks : List Int} {X X' : AR} (G : Agree T rs X) (M : MinorTo X X' ks) : Agree T rs X' := by
  refine ⟨M.inv G.inv, by rw [M.old, G.old], by rw [M.rows, G.rows], by rw [M.next, G.next], G.same.sub fun q hq hl => ?_, ?_⟩
  · exact M.kept hq (M.lead G.inv (by rw [G.flat]; exact hl))
  · rw [M.cs]; exact Nat.le_trans (List.length_filter_le _ _) G.len
theorem Agree.full {T : CS} {rs ks : List Int} {X X' : AR} (G : Agree T rs X) (M : FullTo X X' ks) : Agree T rs X' := by
  refine ⟨M.inv G.inv, by rw [M.old, G.old], by rw [M.rows, G.rows], by rw [M.next, G.next], G.same.sub fun q hq hl => ?_, ?_⟩
  · rw [M.cs]
    exact List.mem_filter.mpr ⟨hq, decide_eq_true ((M.lead q.1).mpr (by rw [G.flat]; exact hl))⟩
  · rw [M.cs]; exact Nat.le_trans (List.length_filter_le _ _) G.len
theorem Agree.fullKeys {T : CS} {rs ks : List Int} {X X' : AR} (F : Fit T rs) (G : Agree T rs X) (nd : (keys X.cs).Nodup) (M : FullTo X X' ks) (x : Int) : x ∈ keys X'.cs ↔ Lead T rs x := by
  constructor
  · intro h
    rw [M.cs] at h
    obtain ⟨q, hq, rfl⟩ := key_cell h
    have h1 := (M.lead q.1).mp (of_decide_eq_true (List.mem_filter.mp hq).2)
    rw [G.flat] at h1
    exact G.same.of F.rsub F.clo nd h1
  · intro h
    exact (G.full M).same.keys F h

theorem Agree.rlen {T : CS} {rs : List Int} {X : AR} (G : Agree T rs X) : X.rows.length = rs.length := by
  have := congrArg List.length G.rows
  rwa [List.length_map, List.length_map] at this

theorem sorted_eq : ∀ {l m : List Int}, l.Pairwise (· ≤ ·) → m.Pairwise (· ≤ ·) → l.Nodup → m.Nodup → (∀ x, x ∈ l ↔ x ∈ m) → l = m
  | [], [], _, _, _, _, _ => rfl
  | [], b :: m, _, _, _, _, h => absurd ((h b).mpr (.head _)) List.not_mem_nil
  | a :: l, [], _, _, _, _, h => absurd ((h a).mp (.head _)) List.not_mem_nil
  | a :: l, b :: m, h1, h2, n1, n2, h => by
    rw [List.pairwise_cons] at h1 h2
    rw [List.nodup_cons] at n1 n2
    have e : a = b := by
      have hab : a ≤ b := by
        rcases List.mem_cons.mp ((h b).mpr (.head _)) with e | e
        · exact Int.le_of_eq e.symm
        · exact h1.1 b e
      have hba : b ≤ a := by
        rcases List.mem_cons.mp ((h a).mp (.head _)) with e | e
        · exact Int.le_of_eq e.symm
        · exact h2.1 a e
      exact Int.le_antisymm hab hba
    subst e
    have ht : ∀ x, x ∈ l ↔ x ∈ m := fun x => by
      constructor
      · intro hx
        rcases List.mem_cons.mp ((h x).mp (.tail _ hx)) with e | e
        · exact absurd (e ▸ hx) n1.1
        · exact e
      · intro hx
        rcases List.mem_cons.mp ((h x).mpr (.tail _ hx)) with e | e
        · exact absurd (e ▸ hx) n2.1
        · exact e
    rw [sorted_eq h1.2 h2.2 n1.2 n2.2 ht]
end Mine
namespace Mine
abbrev PP : Program := Challenge.rw_ov0046_01.row.prog
abbrev AtL (w : World) (O : OsState) := At PP w (Mine.hd.heap_39 w.params) Mine.hd.view_39 (looseW Mine.hd.view_39 []) O
structure Ok (A : Around) (n : Nat) : Prop where
  hh : A.handled = none
  dep : A.depth + n < 900
  uni : A.units + 3 * n < 9000
theorem Ok.mono {A : Around} {n m : Nat} (h : Ok A n) (hm : m ≤ n) : Ok A m := ⟨h.hh, by have := h.dep; omega, by have := h.uni; omega⟩
theorem Ok.deeper {A : Around} {n : Nat} (h : Ok A (n + 1)) (env : Env) : Ok (A.deeper env) n := ⟨h.hh, by have := h.dep; rw [depth_deeper]; omega, by have := h.uni; rw [Around.deeper_units]; omega⟩

section
variable {A : Around}
theorem ok_make {n : Nat} {C : Addr} {pos : List Value} (h : Ok A (n + 1)) : Ok (A.under (.builtin "type.__call__" ⟨.ref C :: pos, []⟩)) n := by
  have h1 := h.dep
  have h2 := h.uni
  refine ⟨h.hh, ?_, ?_⟩
  · have : (A.under (.builtin "type.__call__" ⟨.ref C :: pos, []⟩)).depth = A.depth + 1 := by first | rfl | simp [Around.under, Code.weight, Code.frames, Code.isFrame, Code.isCreation, Code.isGuard, guardIds, Code.isCaller]
    omega
  · have : (A.under (.builtin "type.__call__" ⟨.ref C :: pos, []⟩)).units = A.units + 1 := by first | rfl | simp [Around.under, Code.cUnits, Code.frames, Code.isFrame]
    omega

theorem ok_room {n : Nat} (h : Ok A n) : A.depth < recursionLimit := by have := h.dep; show A.depth < 1000; omega
theorem flatMap_take_succ {α β : Type} (l : List α) (f : α → List β) (i : Nat) (hi : i < l.length) : (l.take (i + 1)).flatMap f = (l.take i).flatMap f ++ f l[i] := by
  rw [List.take_succ_eq_append_getElem hi, List.flatMap_append]; simp
theorem flatMap_take_le {α β : Type} (l : List α) (f : α → List β) (i : Nat) : ((l.take i).flatMap f).length ≤ (l.flatMap f).length := by
  have : l.flatMap f = (l.take i).flatMap f ++ (l.drop i).flatMap f := by rw [← List.flatMap_append, List.take_append_drop]
  rw [this, List.length_append]; omega

end
end Mine
namespace Mine
set_option compiler.extract_closed false
local macro_rules | `(tactic| walk_at "H") => `(tactic| first | assumption | exact At.toks (by assumption))
local macro_rules | `(tactic| walk_at "mem") => `(tactic| first | exact List.Mem.head _ | assumption | (refine List.Mem.tail _ ?_; walk_at "mem") | (refine List.mem_append_left _ ?_; walk_at "mem") | (refine List.mem_append_right _ ?_; walk_at "mem"))
local macro_rules | `(tactic| walk_at "up") => `(tactic| first | exact Up.head | (refine' Up.tail ?a; (case a => walk_at "up")) | (refine' Up.left ?a; (case a => walk_at "up")) | (refine' Up.right ?a; (case a => walk_at "up")))
local macro_rules | `(tactic| walk_at "room") => `(tactic| first | omega | (simp only [Around.deeper_units, depth_deeper]; omega) | assumption | (simp only [length_tt, length_cd, List.length_nil, List.length_append, List.length_map]; omega) | (simp only [length_cd]; refine Nat.lt_of_le_of_lt (cut_len _ _ _) ?_; omega))
local macro_rules | `(tactic| walk_at "eval Name") => `(tactic| first
  | (refine' r_loc (hL := ?hL) ?H ?v ?_; (case H => walk_at "H"); (case hL => rfl); (case v => rfl))
  | (refine' r_cell ?H ?c ?m ?_; (case H => walk_at "H"); (case c => rfl); (case m => walk_at "mem"))
  | (refine' r_cloc (hL := ?hL) ?H ?m ?v ?_; (case H => walk_at "H"); (case m => walk_at "mem"); (case hL => rfl); (case v => rfl))
  | (refine' r_glob ?H ?e ?_; (case H => walk_at "H"); (case e => k_is))
  | (refine' r_bltn ?H ?e ?v ?n ?_; (case H => walk_at "H"); (case e => k_is); (case v => boot_fast); (case n => decide)))
local macro_rules | `(tactic| walk_at "storeName") => `(tactic| first
  | (refine' r_st (hL := ?hL) ?H ?_; (case H => walk_at "H"); (case hL => rfl); intro _ _)
  | (refine' r_stCell ?H ?c ?U ?_; (case H => walk_at "H"); (case c => rfl); (case U => walk_at "up"); intro _ _))
local macro_rules | `(tactic| walk_at "newList") => `(tactic| (refine' r_newList_ints ?H ?i ?z ?_; (case H => walk_at "H"); (case i => first | exact .nil | exact .cons _ _ .nil | exact .cons _ _ (.cons _ _ (.cons _ _ .nil))); (case z => first | decide | omega | simp); intro _ _ _))
local macro_rules | `(tactic| walk_at "eval Dict nil nil") => `(tactic| (refine' r_newDict ?H ?_; (case H => walk_at "H"); intro _ _ _))
local macro_rules | `(tactic| walk_at "getAttr ref") => `(tactic| (refine' r_get ?H ?a ?b ?c ?d ?e ?f ?g ?h ?_; (case H => walk_at "H"); (case a => walk_at "mem"); (case b => walk_at "mem"); (case c => k_is); (case d => k_is); (case e => k_is); (case f => k_is); (case g => first | rfl | assumption); (case h => rfl); intro _ _))
local macro_rules | `(tactic| walk_at "getMethod ref") => `(tactic| first
  | (refine' r_meth ?H ?a ?b ?c ?d ?e ?f ?_; (case H => walk_at "H"); (case a => walk_at "mem"); (case b => walk_at "mem"); (case c => k_is); (case d => k_is); (case e => k_is); (case f => rfl))
  | (refine' r_meth_ints ?H ?a PySem.F.slot_list_append PySem.F.type_list_append ?_; (case H => walk_at "H"); (case a => walk_at "mem"))
  | (refine' r_meth_refs ?H ?a PySem.F.slot_list_append PySem.F.type_list_append ?_; (case H => walk_at "H"); (case a => walk_at "mem"))
  | (refine' r_meth_ints ?H ?a PySem.F.slot_list_pop PySem.F.type_list_pop ?_; (case H => walk_at "H"); (case a => walk_at "mem"))
  | (refine' r_meth_refs ?H ?a PySem.F.slot_list_pop PySem.F.type_list_pop ?_; (case H => walk_at "H"); (case a => walk_at "mem"))
  | (refine' r_meth_dict ?H ?a PySem.F.slot_dict_get PySem.F.type_dict_get ?_; (case H => walk_at "H"); (case a => walk_at "mem")))
local macro_rules | `(tactic| walk_at "call builtin:list.append") => `(tactic| first
  | (refine' r_append_ints ?H ?U ?z ?_; (case H => walk_at "H"); (case U => walk_at "up"); (case z => walk_at "room"); intro _ _)
  | (refine' r_append_refs ?H ?U ?z ?_; (case H => walk_at "H"); (case U => walk_at "up"); (case z => walk_at "room"); intro _ _))
local macro_rules | `(tactic| walk_at "lsub") => `(tactic| first | exact LSub.nil | (refine' LSub.cons ?h ?_; (case h => rfl); walk_at "lsub"))
local macro_rules | `(tactic| walk_at "pick") => `(tactic| first | exact Pick.here | (refine' Pick.there ?a; (case a => walk_at "pick")) | (refine' Pick.skip ?a; (case a => walk_at "pick")))
local macro_rules | `(tactic| walk_at "pickB") => `(tactic| first | exact PickB.here | (refine' PickB.there ?a; (case a => walk_at "pickB")) | (refine' PickB.skip ?a; (case a => walk_at "pickB")))
local macro_rules | `(tactic| walk_at "subp") => `(tactic| first | exact Sub.refl | exact Sub.nil | (refine' Sub.pick ?a ?_; (case a => walk_at "pick"); walk_at "subp") | (refine' Sub.pickB ?a ?_; (case a => walk_at "pickB"); walk_at "subp"))
local macro_rules | `(tactic| walk_at "sub") => `(tactic| first | (with_reducible walk_at "subp") | (intro x; simp only [List.count_append, List.count_cons, List.count_nil]; omega))
local macro_rules | `(tactic| walk_at "exec Expr") => `(tactic| refine wpAny_Expr_any ?_)
local macro_rules | `(tactic| walk_at "go") => `(tactic| repeat (first | walk1 | (dsimp only; walk1)))
local macro_rules | `(tactic| walk_at "one") => `(tactic| (first | walk1 | (dsimp only; walk1)))
local macro_rules | `(tactic| walk_at "compareOp NotIn int ref") => `(tactic| first
  | (refine' r_notin_dict ?H ?m ?_; (case H => walk_at "H"); (case m => walk_at "mem"); intro _ _)
  | (refine' r_notin_ints ?H ?m ?_; (case H => walk_at "H"); (case m => walk_at "mem")))
local macro_rules | `(tactic| walk_at "compareOp In int ref") => `(tactic| first
  | (refine' r_in_dict ?H ?m ?_; (case H => walk_at "H"); (case m => walk_at "mem"); intro _ _)
  | (refine' r_in_ints ?H ?m ?_; (case H => walk_at "H"); (case m => walk_at "mem")))
local macro_rules | `(tactic| walk_at "call builtin:len") => `(tactic| first
  | (refine' r_len_ints ?H ?m ?z ?_; (case H => walk_at "H"); (case m => walk_at "mem"); (case z => walk_at "room"); intro _ _ _)
  | (refine' r_len_dict ?H ?m ?z ?_; (case H => walk_at "H"); (case m => walk_at "mem"); (case z => walk_at "room"); intro _ _ _)
  | (refine' r_len_refs ?H ?m ?z ?_; (case H => walk_at "H"); (case m => walk_at "mem"); (case z => walk_at "room"); intro _ _ _))
local macro_rules | `(tactic| walk_at "call builtin:list.pop") => `(tactic| first
  | (refine' r_pop_ints ?H ?U ?z ?_; (case H => walk_at "H"); (case U => walk_at "up"); (case z => walk_at "room"); intro _ _ _)
  | (refine' r_pop_refs ?H ?U ?z ?_; (case H => walk_at "H"); (case U => walk_at "up"); (case z => walk_at "room"); intro _ _)
  | (refine' r_pop0_ints ?H ?U ?z ?_; (case H => walk_at "H"); (case U => walk_at "up"); (case z => walk_at "room"); intro _ _ _))
local macro_rules | `(tactic| walk_at "call type:list") => `(tactic| (refine' r_copy_ints ?H ?m ?z ?_; (case H => walk_at "H"); (case m => walk_at "mem"); (case z => walk_at "room"); intro _ _ _))
local macro_rules | `(tactic| walk_at "subscriptTail") => `(tactic| first
  | (refine' r_item_dict ?H ?m ?x ?_; (case H => walk_at "H"); (case m => walk_at "mem"); (case x => assumption); intro _ _)
  | (refine' r_item_ints ?H ?m ?a ?b ?c ?_; (case H => walk_at "H"); (case m => walk_at "mem"); (case a => walk_at "room"); (case b => walk_at "room"); (case c => walk_at "room"); intro _)
  | (refine' r_item_refs ?H ?m ?a ?b ?c ?_; (case H => walk_at "H"); (case m => walk_at "mem"); (case a => walk_at "room"); (case b => walk_at "room"); (case c => first | assumption | rfl)))
local macro_rules | `(tactic| walk_at "setItem ref int") => `(tactic| first
  | (refine' r_set_dict ?H ?U ?z ?_; (case H => walk_at "H"); (case U => walk_at "up"); (case z => walk_at "room"); intro _ _)
  | (refine' r_set_ints ?H ?U ?a ?b ?z ?_; (case H => walk_at "H"); (case U => walk_at "up"); (case a => walk_at "room"); (case b => walk_at "room"); (case z => walk_at "room"); intro _ _))
local macro_rules | `(tactic| walk_at "delItem ref int") => `(tactic| (refine' r_del_dict ?H ?U ?l ?z ?_; (case H => walk_at "H"); (case U => walk_at "up"); (case l => assumption); (case z => walk_at "room"); intro _ _))
local macro_rules | `(tactic| walk_at "exec For") => `(tactic| refine wpAny_For ?_)
local macro_rules | `(tactic| walk_at "callWith ref") => `(tactic| first
  | (refine' callWith_any ?H ?k ?_; (case H => walk_at "H"); (case k => k_is))
  | (refine' callWith_none ?H ?k ?_; (case H => walk_at "H"); (case k => k_is)))
local macro_rules | `(tactic| walk_at "And") => `(tactic| ((with_reducible show Frag.In _ _ ∧ _); refine ⟨At.X (by walk_at "H"), ?_⟩; (try dsimp only [List.nil_append, List.cons_append])))
local macro_rules | `(tactic| walk_at "exec Assign Attribute") => `(tactic| fail)
local macro_rules | `(tactic| walk_at "exec Assign") => `(tactic| (with_reducible refine plainObj_wpAny_Assign_Attribute ?_ ?_; rotate_left; with_unfolding_all rfl))
local macro_rules | `(tactic| walk_at "setAttr ref") => `(tactic| (refine' r_setA ?H ?a ?U ?c ?d ?e ?f ?g ?_; (case H => walk_at "H"); (case a => walk_at "mem"); (case U => walk_at "up"); (case c => k_is); (case d => k_is); (case e => k_is); (case f => k_is); (case g => exact Nat.le_of_ble_eq_true rfl); intro _ _))
local macro_rules | `(tactic| walk_at "call builtin:sorted") => `(tactic| first
  | (refine' r_sorted_dict ?H ?m ?h ?z ?_; (case H => walk_at "H"); (case m => walk_at "mem"); (case h => assumption); (case z => walk_at "room"); intro _ _ _ _ _ _)
  | (refine' r_sorted_ints ?H ?m ?z ?_; (case H => walk_at "H"); (case m => walk_at "mem"); (case z => walk_at "room"); intro _ _ _ _ _ _))
local macro_rules | `(tactic| walk_at "units") => `(tactic| ((have uni9 := Ok.uni (by assumption)); (simp only [Around.deeper_units]); exact Nat.lt_of_lt_of_le (m := 9900) (by omega) (Nat.le_refl _)))
local macro_rules | `(tactic| walk_at "compareOp Eq ref ref") => `(tactic| (refine' r_eq_ints ?H ?a ?b ?u ?_; (case H => walk_at "H"); (case a => walk_at "mem"); (case b => walk_at "mem"); (case u => walk_at "units")))
local macro_rules | `(tactic| walk_at "compareOp NotEq ref ref") => `(tactic| (refine' r_ne_ints ?H ?a ?b ?u ?_; (case H => walk_at "H"); (case a => walk_at "mem"); (case b => walk_at "mem"); (case u => walk_at "units")))
local macro_rules | `(tactic| walk_at "binaryOp Mod int int") => `(tactic| (refine' mod_int' ?b ?_; (case b => first | assumption | decide)))
local macro_rules | `(tactic| walk_at "binaryOp FloorDiv int int") => `(tactic| (refine' floordiv_int ?b ?_ (Or.inl (PyProof.noPylong_of_log2 (by decide +kernel))); (case b => first | assumption | decide)))
local macro_rules | `(tactic| walk_at "loadName") => `(tactic| (refine' r_locN (hL := ?hL) ?H ?v ?_; (case H => walk_at "H"); (case hL => rfl); (case v => rfl)))
local macro_rules | `(tactic| walk_at "call builtin:dict.get") => `(tactic| (refine' r_get1s ?H ?m ?x ?_; (case H => walk_at "H"); (case m => walk_at "mem"); (case x => assumption); intro _ _))
local macro_rules | `(tactic| walk_at "call type:range") => `(tactic| (refine' r_range ?H ?_; (case H => walk_at "H"); intro _ _ _ _ _))

section
variable {w : World} {O : OsState} {g : Heap} {L : Addr} {ρ : Locs} {σ : Ledger} {s : Shared} {A : Around}
set_option maxHeartbeats 2000000
theorem fill : (Mine.hd.heap_39 w.params = Mine.hd.heap_39 w.params ∧ Challenge.rw_ov0046_01 = Challenge.rw_ov0046_01) ∨ True := by k_fill; exact .inr trivial

theorem c_root_numbers {ro : Addr} {R : List (Addr × List Int)} (ok : Ok A 1) (H : AtL w O g L ρ σ s) (hm : (ro, Sp.refs (R.map (·.1))) ∈ σ) (hr : ∀ q ∈ R, (q.1, Sp.ints q.2) ∈ σ) (hz : (R.flatMap (·.2)).length < 9000000) :
    codeAny (model PP w) A (.call (.ref 137) ⟨[.ref ro], []⟩) (Ret fun v s' => ∃ D, v = .ref D ∧ AtL w O g L ρ ((D, .ints (R.flatMap (·.2))) :: σ) s') s := by
  refine' call_fn (binds := [("roots", .ref ro)]) H ?ho ?hcd (ok_room ok) ?hbind ?hloc ?_ ?c1 ?c2 ?c3 ?c4
  case ho => k_is
  case hcd => k_is
  case hbind => exact BindsTo.of_eq rfl
  case hloc => exact locs rfl
  case c1 => rfl
  case c2 => rfl
  case c3 => rfl
  case c4 => decide
  intro g' L' s' H'
  replace H' : AtL w O g' L' [("roots", .ref ro)] σ s' := H'
  walk_at "go"
  rename_i D s1 H1 s2 H2
  replace H2 := H2.loc (ρ' := [("numbers", .ref D)]) (by walk_at "lsub")
  refine for_refs H2 (.tail _ hm) ok.hh (fun i (ρ' : Locs) (σ' : Ledger) => ρ' = ([("numbers", .ref D)] : Locs) ∧ σ' = (D, .ints ((R.take i).flatMap (·.2))) :: σ) ⟨rfl, rfl⟩ ?_ ?_ ?_
  · rintro i ρ' σ' ⟨rfl, rfl⟩; exact .tail _ hm
  · rintro it i ρ' σ' s3 hi ⟨rfl, rfl⟩ H3
    have hi' : i < R.length := by simpa using hi
    have eR : (R.map (·.1))[i] = R[i].1 := by simp
    rw [eR] at H3
    walk_at "go"
    have hq := hr R[i] (List.getElem_mem hi')
    replace H3 := H3.loc (ρ' := [("numbers", .ref D)]) (by walk_at "lsub")
    refine for_ints H3 (.tail _ (.tail _ hq)) ok.hh (fun j (ρ' : Locs) (σ' : Ledger) => ρ' = ([("numbers", .ref D)] : Locs) ∧ σ' = (it, listIt ro (i + 1)) :: (D, .ints ((R.take i).flatMap (·.2) ++ R[i].2.take j)) :: σ) ⟨rfl, by simp⟩ ?_ ?_ ?_
    · rintro j ρ' σ' ⟨rfl, rfl⟩; exact .tail _ (.tail _ hq)
    · rintro it2 j ρ' σ' s4 tk hj ⟨rfl, rfl⟩ H4
      have hz1 : ((R.take i).flatMap (·.2) ++ R[i].2.take j).length < 9000000 := by
        have h1 := flatMap_take_le R (·.2) (i + 1)
        rw [flatMap_take_succ _ _ _ hi', List.length_append] at h1
        have h2 : (R[i].2.take j).length ≤ R[i].2.length := by rw [List.length_take]; omega
        rw [List.length_append]; omega
      walk_at "go"
      rename_i s5 H5
      refine hold ⟨_, _, H5.loc (ρ' := [("numbers", .ref D)]) (by walk_at "lsub"), rfl, ?_⟩
      rw [List.take_succ_eq_append_getElem hj, List.append_assoc]
    · rintro ρ' σ' s4 ⟨rfl, rfl⟩ H4
      walk1
      refine hold ⟨_, _, H4.loc (ρ' := [("numbers", .ref D)]) (by walk_at "lsub"), rfl, ?_⟩
      rw [flatMap_take_succ _ _ _ hi', List.take_length]
  · rintro ρ' σ' s3 ⟨rfl, rfl⟩ H3
    walk1
    walk1
    walk1
    rw [List.length_map, List.take_length] at H3
    exact back H3 fun H4 => ⟨D, rfl, H4⟩

theorem c_reached_cells {c st : Addr} {cs : CS} {starts : List Int} (ok : Ok A 1) (H : AtL w O g L ρ σ s) (hc : (c, Sp.idict (cd cs)) ∈ σ) (hcs : ∀ q ∈ cs, (q.2.1, Sp.ints q.2.2) ∈ σ) (hst : (st, Sp.ints starts) ∈ σ)
    (hs : ∀ x ∈ starts, x ∈ keys cs) (hcl : ∀ q ∈ cs, ∀ p ∈ q.2.2, p ∈ keys cs) (hz : starts.length + total cs < 8000000) (hz2 : cs.length < 1000) :
    codeAny (model PP w) A (.call (.ref 151) ⟨[.ref c, .ref st], []⟩) (Ret fun v s' => ∃ D ks, v = .ref D ∧ AtL w O g L ρ ((D, .idict (tt ks)) :: σ) s' ∧ ReachC cs starts ks) s := by
  have ndk : (keys cs).Nodup := by
    obtain ⟨o, es, ep, _, _, _, _, _, nd⟩ := H.dict hc
    rwa [keys_cd] at nd
  refine' call_fn (binds := [("cells", .ref c), ("starts", .ref st)]) H ?ho ?hcd (ok_room ok) ?hbind ?hloc ?_ ?c1 ?c2 ?c3 ?c4
  case ho => k_is
  case hcd => k_is
  case hbind => exact BindsTo.of_eq rfl
  case hloc => exact locs rfl
  case c1 => rfl
  case c2 => rfl
  case c3 => rfl
  case c4 => decide
  intro g' L' s' H'
  replace H' : AtL w O g' L' [("starts", .ref st), ("cells", .ref c)] σ s' := H'
  have hz3 : starts.length < 9000000 := by omega
  walk_at "go"
  rename_i D s1 H1 s2 H2 P s3 H3 s4 H4
  replace H4 := H4.loc (ρ' := [("cells", .ref c), ("reached", .ref D), ("pending", .ref P)]) (by walk_at "lsub")
  refine while_rule (fun n (ρ' : Locs) (σ' : Ledger) => n < 8000000 ∧ ρ' = ([("cells", .ref c), ("reached", .ref D), ("pending", .ref P)] : Locs) ∧ ∃ ks pend, σ' = (P, .ints pend) :: (D, .idict (tt ks)) :: σ ∧ PileC cs starts ks pend n) _ H4 ⟨hz, rfl, [], starts, rfl, PileC.init hs⟩ ?_
  rintro n ρ' σ' s5 ⟨hn, rfl, ks, pend, rfl, J⟩ H5
  have hp : pend.length ≤ n := by have := J.size; omega
  have hks : ks.length < 9000000 := by
    have h1 := nodup_len J.nd J.sub
    rw [length_keys] at h1; omega
  rcases List.eq_nil_or_concat pend with rfl | ⟨pend', k, rfl⟩
  · walk_at "go"
    rename At _ _ _ _ _ _ _ _ _ _ _ => H6
    exact back H6.toks.drop fun H7 => ⟨D, ks, rfl, H7, J.done⟩
  · rw [List.concat_eq_append] at *
    have hp' : pend'.length < n := by rw [List.length_append] at hp; simp at hp; omega
    walk_at "go"
    · rename_i H7 hk
      have hk' : k ∈ ks := by simpa [valueAt_tt] using hk
      obtain ⟨J2, h2⟩ := J.skip hk'
      exact hold ⟨n - 1, _, _, h2, H7.loc (ρ' := [("cells", .ref c), ("reached", .ref D), ("pending", .ref P)]) (by walk_at "lsub"), by omega, rfl, ks, pend', rfl, J2⟩
    · rename_i H7 hk
      have hk' : k ∉ ks := by simpa [valueAt_tt] using hk
      obtain ⟨q, hq, rfl⟩ := key_cell (J.psub k (List.mem_append_right _ (.head _)))
      have hv := valueAt_cd ndk hq
      have hqm := hcs q hq
      walk_at "go"
      rename At _ _ _ _ _ _ _ _ _ _ _ => H8
      rw [stored_tt hk'] at H8
      replace H8 := H8.loc (ρ' := [("cells", .ref c), ("reached", .ref D), ("pending", .ref P)]) (by walk_at "lsub")
      obtain ⟨J2, h2⟩ := J.take ndk hcl hq hk'
      have hz4 : (pend' ++ q.2.2).length < 8000000 := by have := J2.size; omega
      refine for_ints H8 (.tail _ (.tail _ hqm)) ok.hh (fun j (ρ' : Locs) (σ' : Ledger) => ρ' = ([("cells", .ref c), ("reached", .ref D), ("pending", .ref P)] : Locs) ∧ σ' = (P, .ints (pend' ++ q.2.2.take j)) :: (D, .idict (tt (ks ++ [q.1]))) :: σ) ⟨rfl, by simp⟩ ?_ ?_ ?_
      · rintro j ρ' σ' ⟨rfl, rfl⟩; exact .tail _ (.tail _ hqm)
      · rintro it j ρ' σ' s9 tk hj ⟨rfl, rfl⟩ H9
        have hz5 : (pend' ++ q.2.2.take j).length < 9000000 := by rw [List.length_append, List.length_take] at *; omega
        walk_at "go"
        rename At _ _ _ _ _ _ _ _ _ _ _ => HA
        refine hold ⟨_, _, HA.loc (ρ' := [("cells", .ref c), ("reached", .ref D), ("pending", .ref P)]) (by walk_at "lsub"), rfl, ?_⟩
        rw [List.take_succ_eq_append_getElem hj, List.append_assoc]
      · rintro ρ' σ' s9 ⟨rfl, rfl⟩ H9
        walk_at "go"
        rw [List.take_length] at H9
        exact hold ⟨n - 1, _, _, h2, H9, by omega, rfl, ks ++ [q.1], pend' ++ q.2.2, rfl, J2⟩
    · rename_i h0
      exact absurd (by rw [List.length_append]; simp) h0

theorem c_reached_young {a d c y st : Addr} {kvs : List (Str × Value)} {cs : CS} {ys starts : List Int} (ok : Ok A 1) (H : AtL w O g L ρ σ s) (h1 : (a, Sp.inst 126 d) ∈ σ) (h2 : (d, Sp.attrs kvs) ∈ σ) (hay : kvs.lookup (Str.ofString "is_young") = some (Value.ref y)) (hac : kvs.lookup (Str.ofString "cells") = some (Value.ref c))
    (hc : (c, Sp.idict (cd cs)) ∈ σ) (hy : (y, Sp.idict (tt ys)) ∈ σ) (hcs : ∀ q ∈ cs, (q.2.1, Sp.ints q.2.2) ∈ σ) (hst : (st, Sp.ints starts) ∈ σ)
    (hs : ∀ x ∈ ys, x ∈ keys cs) (hz : starts.length + total cs < 8000000) (hz2 : cs.length < 1000) :
    codeAny (model PP w) A (.call (.ref 144) ⟨[.ref a, .ref st], []⟩) (Ret fun v s' => ∃ D ks, v = .ref D ∧ AtL w O g L ρ ((D, .idict (tt ks)) :: σ) s' ∧ ReachY cs ys starts ks) s := by
  have ndk : (keys cs).Nodup := by
    obtain ⟨o, es, ep, _, _, _, _, _, nd⟩ := H.dict hc
    rwa [keys_cd] at nd
  refine' call_fn (binds := [("arena", .ref a), ("starts", .ref st)]) H ?ho ?hcd (ok_room ok) ?hbind ?hloc ?_ ?c1 ?c2 ?c3 ?c4
  case ho => k_is
  case hcd => k_is
  case hbind => exact BindsTo.of_eq rfl
  case hloc => exact locs rfl
  case c1 => rfl
  case c2 => rfl
  case c3 => rfl
  case c4 => decide
  intro g' L' s' H'
  replace H' : AtL w O g' L' [("starts", .ref st), ("arena", .ref a)] σ s' := H'
  have hz3 : starts.length < 9000000 := by omega
  walk_at "go"
  rename_i D s1 H1 s2 H2 P s3 H3 s4 H4
  replace H4 := H4.loc (ρ' := [("arena", .ref a), ("reached", .ref D), ("pending", .ref P)]) (by walk_at "lsub")
  refine while_rule (fun n (ρ' : Locs) (σ' : Ledger) => n < 8000000 ∧ ρ' = ([("arena", .ref a), ("reached", .ref D), ("pending", .ref P)] : Locs) ∧ ∃ ks pend, σ' = (P, .ints pend) :: (D, .idict (tt ks)) :: σ ∧ PileY cs ys starts ks pend n) _ H4 ⟨hz, rfl, [], starts, rfl, PileY.init⟩ ?_
  rintro n ρ' σ' s5 ⟨hn, rfl, ks, pend, rfl, J⟩ H5
  have hp : pend.length ≤ n := by have := J.size; omega
  have hks : ks.length < 9000000 := by
    have h1 := nodup_len (m := keys cs) J.nd fun x hx => hs x (J.sub x hx)
    rw [length_keys] at h1; omega
  rcases List.eq_nil_or_concat pend with rfl | ⟨pend', k, rfl⟩
  · walk_at "go"
    rename At _ _ _ _ _ _ _ _ _ _ _ => H6
    exact back H6.toks.drop fun H7 => ⟨D, ks, rfl, H7, J.done⟩
  · rw [List.concat_eq_append] at *
    have hp' : pend'.length < n := by rw [List.length_append] at hp; simp at hp; omega
    walk_at "go"
    · rename_i hy2 _ H7 hk
      have hk' : k ∈ ks := by simpa [valueAt_tt] using hk
      obtain ⟨J2, h2'⟩ := J.skip fun _ => hk'
      exact hold ⟨n - 1, _, _, h2', H7.loc (ρ' := [("arena", .ref a), ("reached", .ref D), ("pending", .ref P)]) (by walk_at "lsub"), by omega, rfl, ks, pend', rfl, J2⟩
    · rename_i hy2 _ H7 hk
      have hk' : k ∉ ks := by simpa [valueAt_tt] using hk
      have hy3 : k ∈ ys := by simpa [valueAt_tt] using hy2
      obtain ⟨q, hq, rfl⟩ := key_cell (hs k hy3)
      have hv := valueAt_cd ndk hq
      have hqm := hcs q hq
      walk_at "go"
      rename At _ _ _ _ _ _ _ _ _ _ _ => H8
      rw [stored_tt hk'] at H8
      replace H8 := H8.loc (ρ' := [("arena", .ref a), ("reached", .ref D), ("pending", .ref P)]) (by walk_at "lsub")
      obtain ⟨J2, h2'⟩ := J.take ndk hq hk' hy3
      have hz4 : (pend' ++ q.2.2).length < 8000000 := by have := J2.size; omega
      refine for_ints H8 (.tail _ (.tail _ hqm)) ok.hh (fun j (ρ' : Locs) (σ' : Ledger) => ρ' = ([("arena", .ref a), ("reached", .ref D), ("pending", .ref P)] : Locs) ∧ σ' = (P, .ints (pend' ++ q.2.2.take j)) :: (D, .idict (tt (ks ++ [q.1]))) :: σ) ⟨rfl, by simp⟩ ?_ ?_ ?_
      · rintro j ρ' σ' ⟨rfl, rfl⟩; exact .tail _ (.tail _ hqm)
      · rintro it j ρ' σ' s9 tk hj ⟨rfl, rfl⟩ H9
        have hz5 : (pend' ++ q.2.2.take j).length < 9000000 := by rw [List.length_append, List.length_take] at *; omega
        walk_at "go"
        rename At _ _ _ _ _ _ _ _ _ _ _ => HA
        refine hold ⟨_, _, HA.loc (ρ' := [("arena", .ref a), ("reached", .ref D), ("pending", .ref P)]) (by walk_at "lsub"), rfl, ?_⟩
        rw [List.take_succ_eq_append_getElem hj, List.append_assoc]
      · rintro ρ' σ' s9 ⟨rfl, rfl⟩ H9
        walk_at "go"
        rw [List.take_length] at H9
        exact hold ⟨n - 1, _, _, h2', H9, by omega, rfl, ks ++ [q.1], pend' ++ q.2.2, rfl, J2⟩
    · rename_i H7 hk
      have hk' : k ∉ ys := by simpa [valueAt_tt] using hk
      obtain ⟨J2, h2'⟩ := J.skip fun h => absurd h hk'
      walk_at "go"
      exact hold ⟨n - 1, _, _, h2', H7.loc (ρ' := [("arena", .ref a), ("reached", .ref D), ("pending", .ref P)]) (by walk_at "lsub"), by omega, rfl, ks, pend', rfl, J2⟩
    · rename_i h0
      exact absurd (by rw [List.length_append]; simp) h0

theorem c_full {a : Addr} {X : AR} {rest : Ledger} (ok : Ok A 2) (H : AtL w O g L ρ (arL a X rest) s) (I : Inv X) :
    codeAny (model PP w) A (.call (.ref 123) ⟨[.ref a], []⟩) (Ret fun v s' => ∃ X' ks, v = .none ∧ AtL w O g L ρ (arL a X' rest) s' ∧ FullTo X X' ks) s := by
  have ndk : (keys X.cs).Nodup := by
    obtain ⟨o, es, ep, _, _, _, _, _, nd⟩ := H.dict (.tail _ (.tail _ (.head _)))
    rwa [keys_cd] at nd
  have hh := ok.hh
  have l1 := I.z1
  have l2 := total_le I.z2 I.z1
  have l3 := flat_le I.z4 I.z3
  refine' call_fn (binds := [("self", .ref a)]) H ?ho ?hcd (ok_room ok) ?hbind ?hloc ?_ ?c1 ?c2 ?c3 ?c4
  case ho => k_is
  case hcd => k_is
  case hbind => exact BindsTo.of_eq rfl
  case hloc => exact locs rfl
  case c1 => rfl
  case c2 => rfl
  case c3 => rfl
  case c4 => decide
  intro g' L' s' H'
  replace H' : AtL w O g' L' [("self", .ref a)] (arL a X rest) s' := H'
  walk_at "go"
  rename At _ _ _ _ _ _ _ _ _ _ _ => H1
  obtain ⟨t5, H2⟩ : ∃ t, AtL w O g' L' [("self", .ref a)] (arL a { X with full := X.full + 1, t5 := t } rest) _ := ⟨_, H1⟩
  clear H1
  refine use_call (c_root_numbers (R := X.rows) (ok.deeper _) H2 (by walk_at "mem") (fun q hq => ?_) (by omega)) ?_
  · exact .tail _ (.tail _ (.tail _ (.tail _ (.tail _ (.tail _ (List.mem_append_left _ (mem_rowsL hq)))))))
  rintro _ s3 ⟨S, rfl, H3⟩
  walk_at "go"
  refine use_call (c_reached_cells (cs := X.cs) (starts := X.rows.flatMap (·.2)) (ok.deeper _) H3 (by walk_at "mem") (fun q hq => ?_) (by walk_at "mem") (fun x hx => ?_) I.clo (by omega) (by omega)) ?_
  · exact .tail _ (.tail _ (.tail _ (.tail _ (.tail _ (.tail _ (.tail _ (List.mem_append_right _ (List.mem_append_left _ (mem_cellsL hq)))))))))
  · obtain ⟨r, hr, hxr⟩ := mem_flat.mp hx
    exact I.root r hr x hxr
  rintro _ s4 ⟨D, ks, rfl, H4, RC⟩
  walk_at "go"
  rename At _ _ _ _ _ _ _ _ _ _ _ => H5
  rename List.Perm _ _ => hp
  rename_i M ms _ _
  have hp' : ms.Perm (keys X.cs) := by rw [← keys_cd]; exact hp
  have ndm : ms.Nodup := hp'.nodup_iff.mpr ndk
  refine for_ints H5 (.head _) ok.hh (fun i (ρ' : Locs) (σ' : Ledger) => ρ' = ([("reached", .ref D), ("self", .ref a)] : Locs) ∧ σ' = (M, .ints ms) :: (D, .idict (tt ks)) :: (S, .ints (X.rows.flatMap (·.2))) :: arT a { X with full := X.full + 1, t5 := t5, cs := cut X.cs ks (ms.take i) } (rowsL X.rows ++ (cellsL X.cs ++ rest))) ⟨rfl, by rw [List.take_zero, cut_nil]⟩ ?_ ?_ ?_
  · rintro i ρ' σ' ⟨rfl, rfl⟩; exact .head _
  · rintro it i ρ' σ' s6 tk hi ⟨rfl, rfl⟩ H6
    have hl := cut_mem (ks := ks) (hp'.mem_iff.mp (List.getElem_mem hi)) (not_mem_take ndm hi)
    walk_at "go"
    · rename At _ _ _ _ _ _ _ _ _ _ _ => H7
      rename_i hk
      have hk' : ms[i] ∈ ks := by simpa [valueAt_tt] using hk
      refine hold ⟨_, _, H7.loc (ρ' := [("reached", .ref D), ("self", .ref a)]) (by walk_at "lsub"), rfl, ?_⟩
      rw [List.take_succ_eq_append_getElem hi, cut_in hk']
    · rename_i hk
      have hk' : ms[i] ∉ ks := by simpa [valueAt_tt] using hk
      walk_at "go"
      rename At _ _ _ _ _ _ _ _ _ _ _ => H7
      rw [without_cd, cut_out hk'] at H7
      refine hold ⟨_, _, H7.loc (ρ' := [("reached", .ref D), ("self", .ref a)]) (by walk_at "lsub"), rfl, ?_⟩
      rw [List.take_succ_eq_append_getElem hi]
  · rintro ρ' σ' s6 ⟨rfl, rfl⟩ H6
    rw [List.take_length] at H6
    walk_at "go"
    rename_i Y2 _ _ _ _ R2 _ _ s9 H9
    replace H9 : AtL w O g' L' [("reached", .ref D), ("self", .ref a)] ((R2, .idict (tt [])) :: (Y2, .idict (tt [])) :: (M, .ints ms) :: (D, .idict (tt ks)) :: (S, .ints (X.rows.flatMap (·.2))) ::
      (a, .inst 126 X.d) :: (X.d, .attrs (AR.attrs { X with full := X.full + 1, t5 := t5, y := Y2, r := R2, ys := [], rs := [], cs := cut X.cs ks ms })) :: (X.c, .idict (cd (cut X.cs ks ms))) :: (X.y, .idict (tt X.ys)) :: (X.r, .idict (tt X.rs)) :: (X.ro, .refs (X.rows.map (·.1))) :: (rowsL X.rows ++ (cellsL X.cs ++ rest))) s9 := H9
    refine back (H9.sub (σ' := arL a { X with full := X.full + 1, t5 := t5, y := Y2, r := R2, ys := [], rs := [], cs := cut X.cs ks ms } rest) ?_) fun HB => ⟨_, ks, rfl, HB, ⟨rfl, rfl, rfl, rfl, rfl, rfl, ?_, RC⟩⟩
    · intro x
      have hx := cellsL_filter (fun q => decide (q.1 ∈ ks) || decide (q.1 ∉ ms)) X.cs x
      unfold cut
      simp only [List.count_append, List.count_cons]
      omega
    · exact cut_all fun x hx => hp'.mem_iff.mpr hx

theorem c_minor {a : Addr} {X : AR} {rest : Ledger} (ok : Ok A 2) (H : AtL w O g L ρ (arL a X rest) s) (I : Inv X) :
    codeAny (model PP w) A (.call (.ref 116) ⟨[.ref a], []⟩) (Ret fun v s' => ∃ X' ks, v = .none ∧ AtL w O g L ρ (arL a X' rest) s' ∧ MinorTo X X' ks) s := by
  have ndk : (keys X.cs).Nodup := by
    obtain ⟨o, es, ep, _, _, _, _, _, nd⟩ := H.dict (.tail _ (.tail _ (.head _)))
    rwa [keys_cd] at nd
  have ndy : X.ys.Nodup := by
    obtain ⟨o, es, ep, _, _, _, _, _, nd⟩ := H.dict (.tail _ (.tail _ (.tail _ (.head _))))
    rwa [keys_tt] at nd
  have ndr : X.rs.Nodup := by
    obtain ⟨o, es, ep, _, _, _, _, _, nd⟩ := H.dict (.tail _ (.tail _ (.tail _ (.tail _ (.head _)))))
    rwa [keys_tt] at nd
  have hh := ok.hh
  have l1 := I.z1
  have l2 := total_le I.z2 I.z1
  have l3 := flat_le I.z4 I.z3
  have l4 := nodup_len ndy I.ysub
  have l5 := nodup_len ndr fun x hx => (I.rsub x hx).1
  rw [length_keys] at l4 l5
  refine' call_fn (binds := [("self", .ref a)]) H ?ho ?hcd (ok_room ok) ?hbind ?hloc ?_ ?c1 ?c2 ?c3 ?c4
  case ho => k_is
  case hcd => k_is
  case hbind => exact BindsTo.of_eq rfl
  case hloc => exact locs rfl
  case c1 => rfl
  case c2 => rfl
  case c3 => rfl
  case c4 => decide
  intro g' L' s' H'
  replace H' : AtL w O g' L' [("self", .ref a)] (arL a X rest) s' := H'
  walk_at "go"
  rename At _ _ _ _ _ _ _ _ _ _ _ => H1
  obtain ⟨t4, H2⟩ : ∃ t, AtL w O g' L' [("self", .ref a)] (arL a { X with mino := X.mino + 1, t4 := t } rest) _ := ⟨_, H1⟩
  clear H1
  refine use_call (c_root_numbers (R := X.rows) (ok.deeper _) H2 (by walk_at "mem") (fun q hq => ?_) (by omega)) ?_
  · exact .tail _ (.tail _ (.tail _ (.tail _ (.tail _ (.tail _ (List.mem_append_left _ (mem_rowsL hq)))))))
  rintro _ s3 ⟨S, rfl, H3⟩
  walk_at "go"
  rename At _ _ _ _ _ _ _ _ _ _ _ => H5
  rename List.Perm _ _ => hp
  rename_i M ms _ _
  have hp' : ms.Perm X.rs := by rw [← keys_tt X.rs]; exact hp
  have lm : ms.length < 60 := by rw [hp'.length_eq]; omega
  have cell : ∀ q ∈ X.cs, (q.2.1, Sp.ints q.2.2) ∈ rowsL X.rows ++ (cellsL X.cs ++ rest) := fun q hq => List.mem_append_right _ (List.mem_append_left _ (mem_cellsL hq))
  replace H5 := H5.loc (ρ' := [("starts", .ref S), ("self", .ref a)]) (by walk_at "lsub")
  refine for_ints H5 (.head _) ok.hh (fun i (ρ' : Locs) (σ' : Ledger) => ρ' = ([("starts", .ref S), ("self", .ref a)] : Locs) ∧ ∃ pl : List Int, σ' = (M, .ints ms) :: (S, .ints pl) :: arL a { X with mino := X.mino + 1, t4 := t4 } rest ∧
    (∀ x ∈ X.rows.flatMap (·.2), x ∈ pl) ∧ (∀ j, j < i → ∀ q ∈ X.cs, some q.1 = ms[j]? → ∀ p ∈ q.2.2, p ∈ pl) ∧ pl.length ≤ 1000000 + 1000 * i) ⟨rfl, X.rows.flatMap (·.2), rfl, fun x h => h, fun j h => absurd h (Nat.not_lt_zero _), by omega⟩ ?_ ?_ ?_
  · rintro i ρ' σ' ⟨rfl, pl, rfl, _⟩; exact .head _
  · rintro it i ρ' σ' s6 tk hi ⟨rfl, pl, rfl, p1, p2, p3⟩ H6
    obtain ⟨q, hq, hqe⟩ := key_cell (I.rsub _ (hp'.mem_iff.mp (List.getElem_mem hi))).1
    have hv := valueAt_cd ndk hq
    rw [hqe] at hv
    walk_at "go"
    rename At _ _ _ _ _ _ _ _ _ _ _ => H7
    have zq := I.z2 q hq
    replace H7 := H7.loc (ρ' := [("starts", .ref S), ("self", .ref a)]) (by walk_at "lsub")
    refine for_ints H7 (.tail _ (.tail _ (.tail _ (.tail _ (.tail _ (.tail _ (.tail _ (.tail _ (.tail _ (cell q hq)))))))))) ok.hh (fun j (ρ' : Locs) (σ' : Ledger) => ρ' = ([("starts", .ref S), ("self", .ref a)] : Locs) ∧ σ' = (it, listIt M (i + 1)) :: (M, .ints ms) :: (S, .ints (pl ++ q.2.2.take j)) :: arL a { X with mino := X.mino + 1, t4 := t4 } rest) ⟨rfl, by simp⟩ ?_ ?_ ?_
    · rintro j ρ' σ' ⟨rfl, rfl⟩; exact .tail _ (.tail _ (.tail _ (.tail _ (.tail _ (.tail _ (.tail _ (.tail _ (.tail _ (cell q hq)))))))))
    · rintro it2 j ρ' σ' s8 tk2 hj ⟨rfl, rfl⟩ H8
      have hz5 : (pl ++ q.2.2.take j).length < 9000000 := by rw [List.length_append, List.length_take]; omega
      walk_at "go"
      rename At _ _ _ _ _ _ _ _ _ _ _ => H9
      refine hold ⟨_, _, H9.loc (ρ' := [("starts", .ref S), ("self", .ref a)]) (by walk_at "lsub"), rfl, ?_⟩
      rw [List.take_succ_eq_append_getElem hj, List.append_assoc]
    · rintro ρ' σ' s8 ⟨rfl, rfl⟩ H8
      walk_at "go"
      rw [List.take_length] at H8
      refine hold ⟨_, _, H8, rfl, pl ++ q.2.2, rfl, fun x hx => List.mem_append_left _ (p1 x hx), fun j hj q' hq' e p hp => ?_, by rw [List.length_append]; omega⟩
      rcases Nat.lt_or_ge j i with h | h
      · exact List.mem_append_left _ (p2 j h q' hq' e p hp)
      · have e2 : j = i := by omega
        subst e2
        rw [List.getElem?_eq_getElem hi] at e
        have : q' = q := cell_uniq ndk hq' hq (by rw [hqe]; exact Option.some.inj e)
        subst this
        exact List.mem_append_right _ hp
  · rintro ρ' σ' s6 ⟨rfl, pl, rfl, p1, p2, p3⟩ H6
    walk_at "go"
    refine use_call (c_reached_young (cs := X.cs) (ys := X.ys) (starts := pl) (ok.deeper _) H6 (by walk_at "mem") (by walk_at "mem") rfl rfl (by walk_at "mem") (by walk_at "mem") (fun q hq => .tail _ (.tail _ (.tail _ (.tail _ (.tail _ (.tail _ (.tail _ (.tail _ (cell q hq))))))))) (by walk_at "mem") I.ysub (by omega) (by omega)) ?_
    rintro _ s7 ⟨D, ks, rfl, H7, RY⟩
    walk_at "go"
    rename At _ _ _ _ _ _ _ _ _ _ _ => H8
    rename List.Perm _ _ => hp2
    rename_i M2 ms2 _ _
    have hp2' : ms2.Perm X.ys := by rw [← keys_tt X.ys]; exact hp2
    have ndm : ms2.Nodup := hp2'.nodup_iff.mpr ndy
    have hroot : ∀ r ∈ X.rows, ∀ x ∈ r.2, x ∈ X.ys → x ∈ ks := fun r hr x hx hy => RY.start x (p1 x (mem_flat.mpr ⟨r, hr, hx⟩)) hy
    have hrem : ∀ q ∈ X.cs, q.1 ∈ X.rs → ∀ p ∈ q.2.2, p ∈ X.ys → p ∈ ks := fun q hq hr p hp hy => by
      obtain ⟨j, hj, e⟩ := List.mem_iff_getElem.mp (hp'.mem_iff.mpr hr)
      exact RY.start p (p2 j hj q hq (by rw [List.getElem?_eq_getElem hj, e]) p hp) hy
    replace H8 := (H8.loc (ρ' := [("reached", .ref D), ("self", .ref a)]) (by walk_at "lsub")).sub (σ' := (M2, .ints ms2) :: (D, .idict (tt ks)) :: arT a { X with mino := X.mino + 1, t4 := t4, cs := cut X.cs ks [] } (rowsL X.rows ++ (cellsL X.cs ++ rest))) (by rw [cut_nil]; walk_at "sub")
    refine for_ints H8 (.head _) ok.hh (fun i (ρ' : Locs) (σ' : Ledger) => ρ' = ([("reached", .ref D), ("self", .ref a)] : Locs) ∧ σ' = (M2, .ints ms2) :: (D, .idict (tt ks)) :: arT a { X with mino := X.mino + 1, t4 := t4, cs := cut X.cs ks (ms2.take i) } (rowsL X.rows ++ (cellsL X.cs ++ rest))) ⟨rfl, rfl⟩ ?_ ?_ ?_
    · rintro i ρ' σ' ⟨rfl, rfl⟩; exact .head _
    · rintro it i ρ' σ' s9 tk hi ⟨rfl, rfl⟩ H9
      have hl := cut_mem (ks := ks) (I.ysub _ (hp2'.mem_iff.mp (List.getElem_mem hi))) (not_mem_take ndm hi)
      walk_at "go"
      · rename At _ _ _ _ _ _ _ _ _ _ _ => HA
        rename_i hk
        have hk' : ms2[i] ∈ ks := by simpa [valueAt_tt] using hk
        refine hold ⟨_, _, HA.loc (ρ' := [("reached", .ref D), ("self", .ref a)]) (by walk_at "lsub"), rfl, ?_⟩
        rw [List.take_succ_eq_append_getElem hi, cut_in hk']
      · rename_i hk
        have hk' : ms2[i] ∉ ks := by simpa [valueAt_tt] using hk
        walk_at "go"
        rename At _ _ _ _ _ _ _ _ _ _ _ => HA
        rw [without_cd, cut_out hk'] at HA
        refine hold ⟨_, _, HA.loc (ρ' := [("reached", .ref D), ("self", .ref a)]) (by walk_at "lsub"), rfl, ?_⟩
        rw [List.take_succ_eq_append_getElem hi]
    · rintro ρ' σ' s9 ⟨rfl, rfl⟩ H9
      rw [List.take_length] at H9
      walk_at "go"
      rename_i Y2 _ _ _ _ R2 _ _ sA HA
      replace HA : AtL w O g' L' [("reached", .ref D), ("self", .ref a)] ((R2, .idict (tt [])) :: (Y2, .idict (tt [])) :: (M2, .ints ms2) :: (D, .idict (tt ks)) ::
        (a, .inst 126 X.d) :: (X.d, .attrs (AR.attrs { X with mino := X.mino + 1, t4 := t4, y := Y2, r := R2, ys := [], rs := [], cs := cut X.cs ks ms2 })) :: (X.c, .idict (cd (cut X.cs ks ms2))) :: (X.y, .idict (tt X.ys)) :: (X.r, .idict (tt X.rs)) :: (X.ro, .refs (X.rows.map (·.1))) :: (rowsL X.rows ++ (cellsL X.cs ++ rest))) sA := HA
      refine back (HA.sub (σ' := arL a { X with mino := X.mino + 1, t4 := t4, y := Y2, r := R2, ys := [], rs := [], cs := cut X.cs ks ms2 } rest) ?_) fun HB => ⟨_, ks, rfl, HB, ⟨rfl, rfl, rfl, rfl, rfl, rfl, cut_perm fun x => hp2'.mem_iff, hroot, hrem, RY.closed, RY.sub⟩⟩
      intro x
      have hx := cellsL_filter (fun q => decide (q.1 ∈ ks) || decide (q.1 ∉ ms2)) X.cs x
      unfold cut
      simp only [List.count_append, List.count_cons]
      omega

theorem nd_cs {a : Addr} {X : AR} {rest : Ledger} (H : AtL w O g L ρ (arL a X rest) s) : (keys X.cs).Nodup := by
  obtain ⟨o, es, ep, _, _, _, _, _, nd⟩ := H.dict (.tail _ (.tail _ (.head _)))
  rwa [keys_cd] at nd
theorem nd_ys {a : Addr} {X : AR} {rest : Ledger} (H : AtL w O g L ρ (arL a X rest) s) : X.ys.Nodup := by
  obtain ⟨o, es, ep, _, _, _, _, _, nd⟩ := H.dict (.tail _ (.tail _ (.tail _ (.head _))))
  rwa [keys_tt] at nd
theorem nd_rs {a : Addr} {X : AR} {rest : Ledger} (H : AtL w O g L ρ (arL a X rest) s) : X.rs.Nodup := by
  obtain ⟨o, es, ep, _, _, _, _, _, nd⟩ := H.dict (.tail _ (.tail _ (.tail _ (.tail _ (.head _)))))
  rwa [keys_tt] at nd
theorem rowsL_snoc (R : List (Addr × List Int)) (q : Addr × List Int) : rowsL (R ++ [q]) = rowsL R ++ [(q.1, Sp.ints q.2)] := by simp [rowsL]
theorem cellsL_snoc (cs : CS) (q : Int × Addr × List Int) : cellsL (cs ++ [q]) = cellsL cs ++ [(q.2.1, Sp.ints q.2.2)] := by simp [cellsL]

theorem c_old_count {a : Addr} {X : AR} {rest : Ledger} (ok : Ok A 1) (H : AtL w O g L ρ (arL a X rest) s) (I : Inv X) :
    codeAny (model PP w) A (.call (.ref 81) ⟨[.ref a], []⟩) (Ret fun v s' => (∃ t, v = .int ((X.cs.length : Int) - (X.ys.length : Int)) t) ∧ AtL w O g L ρ (arL a X rest) s') s := by
  have l1 := I.z1
  have l4 := nodup_len (nd_ys H) I.ysub
  rw [length_keys] at l4
  refine' call_fn (binds := [("self", .ref a)]) H ?ho ?hcd (ok_room ok) ?hbind ?hloc ?_ ?c1 ?c2 ?c3 ?c4
  case ho => k_is
  case hcd => k_is
  case hbind => exact BindsTo.of_eq rfl
  case hloc => exact locs rfl
  case c1 => rfl
  case c2 => rfl
  case c3 => rfl
  case c4 => decide
  intro g' L' s' H'
  replace H' : AtL w O g' L' [("self", .ref a)] _ s' := H'
  walk_at "go"
  rename At _ _ _ _ _ _ _ _ _ _ _ => H1
  rw [length_cd, length_tt]
  exact back H1.toks fun HB => ⟨⟨_, rfl⟩, HB⟩

theorem c_push {a : Addr} {X : AR} {rest : Ledger} {pt : Addr} {ps : List Int} (ok : Ok A 1) (H : AtL w O g L ρ (arL a X rest) s) (I : Inv X) (hp : (pt, Sp.ints ps) ∈ rest) (hz : ps.length ≤ 1000) :
    codeAny (model PP w) A (.call (.ref 102) ⟨[.ref a, .ref pt], []⟩) (Ret fun v s' => ∃ pa, v = .none ∧ AtL w O g L ρ (arL a { X with rows := X.rows ++ [(pa, ps)] } rest) s') s := by
  have l1 := I.z3
  have hp' : (pt, Sp.ints ps) ∈ rowsL X.rows ++ (cellsL X.cs ++ rest) := List.mem_append_right _ (List.mem_append_right _ hp)
  have hz' : ps.length < 9000000 := by omega
  refine' call_fn (binds := [("self", .ref a), ("numbers", .ref pt)]) H ?ho ?hcd (ok_room ok) ?hbind ?hloc ?_ ?c1 ?c2 ?c3 ?c4
  case ho => k_is
  case hcd => k_is
  case hbind => exact BindsTo.of_eq rfl
  case hloc => exact locs rfl
  case c1 => rfl
  case c2 => rfl
  case c3 => rfl
  case c4 => decide
  intro g' L' s' H'
  replace H' : AtL w O g' L' [("numbers", .ref pt), ("self", .ref a)] _ s' := H'
  walk_at "go"
  rename_i D _ _ s1 H1
  refine back (H1.sub (σ' := (a, .inst 126 X.d) :: (X.d, .attrs X.attrs) :: (X.c, .idict (cd X.cs)) :: (X.y, .idict (tt X.ys)) :: (X.r, .idict (tt X.rs)) :: (X.ro, .refs ((X.rows ++ [(D, ps)]).map (·.1))) :: (rowsL (X.rows ++ [(D, ps)]) ++ (cellsL X.cs ++ rest))) ?_) fun HB => ⟨D, rfl, HB⟩
  rw [rowsL_snoc, List.map_append, List.map_cons, List.map_nil]
  walk_at "sub"

theorem c_pop {a : Addr} {X : AR} {rest : Ledger} {R : List (Addr × List Int)} {r : Addr × List Int} (ok : Ok A 1) (H : AtL w O g L ρ (arL a X rest) s) (I : Inv X) (hr : X.rows = R ++ [r]) :
    codeAny (model PP w) A (.call (.ref 109) ⟨[.ref a], []⟩) (Ret fun v s' => v = .none ∧ AtL w O g L ρ (arL a { X with rows := R } ((r.1, .ints r.2) :: rest)) s') s := by
  have l1 := I.z3
  have lR : R.length < 1000 := by rw [hr, List.length_append] at l1; omega
  replace H : AtL w O g L ρ ((a, .inst 126 X.d) :: (X.d, .attrs X.attrs) :: (X.c, .idict (cd X.cs)) :: (X.y, .idict (tt X.ys)) :: (X.r, .idict (tt X.rs)) :: (X.ro, .refs (R.map (·.1) ++ [r.1])) :: (rowsL (R ++ [r]) ++ (cellsL X.cs ++ rest))) s := by
    have : X.rows.map (·.1) = R.map (·.1) ++ [r.1] := by rw [hr]; simp
    unfold arL arT at H
    rw [this, hr] at H
    exact H
  refine' call_fn (binds := [("self", .ref a)]) H ?ho ?hcd (ok_room ok) ?hbind ?hloc ?_ ?c1 ?c2 ?c3 ?c4
  case ho => k_is
  case hcd => k_is
  case hbind => exact BindsTo.of_eq rfl
  case hloc => exact locs rfl
  case c1 => rfl
  case c2 => rfl
  case c3 => rfl
  case c4 => decide
  intro g' L' s' H'
  replace H' : AtL w O g' L' [("self", .ref a)] _ s' := H'
  walk_at "go"
  rename_i s1 H1
  refine back (H1.sub (σ' := (a, .inst 126 X.d) :: (X.d, .attrs X.attrs) :: (X.c, .idict (cd X.cs)) :: (X.y, .idict (tt X.ys)) :: (X.r, .idict (tt X.rs)) :: (X.ro, .refs (R.map (·.1))) :: (rowsL R ++ (cellsL X.cs ++ ((r.1, .ints r.2) :: rest)))) ?_) fun HB => ⟨rfl, HB⟩
  rw [rowsL_snoc]
  walk_at "sub"

theorem c_write {a : Addr} {X : AR} {rest : Ledger} {q : Int × Addr × List Int} {k : Nat} {part : Int} {t1 t2 t3 : Tok} (ok : Ok A 1) (H : AtL w O g L ρ (arL a X rest) s) (I : Inv X) (hq : q ∈ X.cs) (hk : k < q.2.2.length) :
    codeAny (model PP w) A (.call (.ref 95) ⟨[.ref a, .int q.1 t1, .int (k : Int) t2, .int part t3], []⟩) (Ret fun v s' => ∃ X', v = .none ∧ AtL w O g L ρ (arL a X' rest) s' ∧ WroteTo X X' q.1 k part) s := by
  have ndk := nd_cs H
  have l1 := I.z1
  have l2 := I.z2 q hq
  have l4 := nodup_len (nd_ys H) I.ysub
  have l5 := nodup_len (nd_rs H) fun x hx => (I.rsub x hx).1
  rw [length_keys] at l4 l5
  have hv := valueAt_cd ndk hq
  have hm : (q.2.1, Sp.ints q.2.2) ∈ rowsL X.rows ++ (cellsL X.cs ++ rest) := List.mem_append_right _ (List.mem_append_left _ (mem_cellsL hq))
  refine' call_fn (binds := [("self", .ref a), ("number", .int q.1 t1), ("place", .int (k : Int) t2), ("part", .int part t3)]) H ?ho ?hcd (ok_room ok) ?hbind ?hloc ?_ ?c1 ?c2 ?c3 ?c4
  case ho => k_is
  case hcd => k_is
  case hbind => exact BindsTo.of_eq rfl
  case hloc => exact locs rfl
  case c1 => rfl
  case c2 => rfl
  case c3 => rfl
  case c4 => decide
  intro g' L' s' H'
  replace H' : AtL w O g' L' [("part", .int part t3), ("place", .int (k : Int) t2), ("number", .int q.1 t1), ("self", .ref a)] _ s' := H'
  walk_at "go"
  rename At _ _ _ _ _ _ _ _ _ _ _ => H1
  refine r_set_ints (ns := q.2.2) H1 (.tail (.tail (.tail (.tail (.tail (.tail (.right (.left (up_cell (f := fun l => l.set (k : Int).toNat part) ndk hq)))))))) ) (by omega) (by omega) (by omega) ?_
  intro s2 H2
  walk_at "go"
  · rename_i H3 hy
    have hy' : q.1 ∈ X.ys := by simpa [valueAt_tt] using hy
    refine back (H3.sub (σ' := (a, .inst 126 X.d) :: (X.d, .attrs X.attrs) :: (X.c, .idict (cd (setCell X.cs q.1 fun l => l.set k part))) :: (X.y, .idict (tt X.ys)) :: (X.r, .idict (tt X.rs)) :: (X.ro, .refs (X.rows.map (·.1))) :: (rowsL X.rows ++ (cellsL (setCell X.cs q.1 fun l => l.set k part) ++ rest))) ?_) fun HB => ⟨{ X with cs := setCell X.cs q.1 fun l => l.set k part }, rfl, HB, ⟨rfl, rfl, rfl, rfl, rfl, rfl, .inl ⟨rfl, .inl hy'⟩⟩⟩
    rw [cd_setCell, Int.toNat_natCast]
    walk_at "sub"
  · rename_i hy
    have hy' : q.1 ∉ X.ys := by simpa [valueAt_tt] using hy
    walk_at "go"
    · rename_i H3 hp
      have hp' : part ∉ X.ys := by simpa [valueAt_tt] using hp
      refine back (H3.sub (σ' := (a, .inst 126 X.d) :: (X.d, .attrs X.attrs) :: (X.c, .idict (cd (setCell X.cs q.1 fun l => l.set k part))) :: (X.y, .idict (tt X.ys)) :: (X.r, .idict (tt X.rs)) :: (X.ro, .refs (X.rows.map (·.1))) :: (rowsL X.rows ++ (cellsL (setCell X.cs q.1 fun l => l.set k part) ++ rest))) ?_) fun HB => ⟨{ X with cs := setCell X.cs q.1 fun l => l.set k part }, rfl, HB, ⟨rfl, rfl, rfl, rfl, rfl, rfl, .inl ⟨rfl, .inr (.inl hp')⟩⟩⟩
      rw [cd_setCell, Int.toNat_natCast]
      walk_at "sub"
    · walk_at "go"
      by_cases hr : q.1 ∈ X.rs
      · rename At _ _ _ _ _ _ _ _ _ _ _ => H4
        rw [stored_tt' hr] at H4
        refine back (H4.sub (σ' := (a, .inst 126 X.d) :: (X.d, .attrs X.attrs) :: (X.c, .idict (cd (setCell X.cs q.1 fun l => l.set k part))) :: (X.y, .idict (tt X.ys)) :: (X.r, .idict (tt X.rs)) :: (X.ro, .refs (X.rows.map (·.1))) :: (rowsL X.rows ++ (cellsL (setCell X.cs q.1 fun l => l.set k part) ++ rest))) ?_) fun HB => ⟨{ X with cs := setCell X.cs q.1 fun l => l.set k part }, rfl, HB, ⟨rfl, rfl, rfl, rfl, rfl, rfl, .inl ⟨rfl, .inr (.inr hr)⟩⟩⟩
        rw [cd_setCell, Int.toNat_natCast]
        walk_at "sub"
      · rename At _ _ _ _ _ _ _ _ _ _ _ => H4
        rw [stored_tt hr] at H4
        refine back (H4.sub (σ' := (a, .inst 126 X.d) :: (X.d, .attrs X.attrs) :: (X.c, .idict (cd (setCell X.cs q.1 fun l => l.set k part))) :: (X.y, .idict (tt X.ys)) :: (X.r, .idict (tt (X.rs ++ [q.1]))) :: (X.ro, .refs (X.rows.map (·.1))) :: (rowsL X.rows ++ (cellsL (setCell X.cs q.1 fun l => l.set k part) ++ rest))) ?_) fun HB => ⟨{ X with cs := setCell X.cs q.1 fun l => l.set k part, rs := X.rs ++ [q.1] }, rfl, HB, ⟨rfl, rfl, rfl, rfl, rfl, rfl, .inr ⟨rfl, hy'⟩⟩⟩
        rw [cd_setCell, Int.toNat_natCast]
        walk_at "sub"

theorem c_make_room {a : Addr} {X : AR} {rest : Ledger} {pt : Addr} {ps : List Int} (ok : Ok A 3) (H : AtL w O g L ρ (arL a X rest) s) (I : Inv X) (hp : (pt, Sp.ints ps) ∈ rest) (hps : ∀ x ∈ ps, x ∈ keys X.cs) (hz : ps.length ≤ 1000) (hz2 : X.rows.length < 999) (ho : 60 ≤ X.old) :
    codeAny (model PP w) A (.call (.ref 74) ⟨[.ref a, .ref pt], []⟩) (Ret fun v s' => ∃ X1, v = .none ∧ AtL w O g L ρ (arL a X1 rest) s' ∧ RoomTo X X1 ps) s := by
  have l1 := I.z3
  have hp' : (pt, Sp.ints ps) ∈ rowsL X.rows ++ (cellsL X.cs ++ rest) := List.mem_append_right _ (List.mem_append_right _ hp)
  have hz' : ps.length < 9000000 := by omega
  refine' call_fn (binds := [("self", .ref a), ("parts", .ref pt)]) H ?ho ?hcd (ok_room ok) ?hbind ?hloc ?_ ?c1 ?c2 ?c3 ?c4
  case ho => k_is
  case hcd => k_is
  case hbind => exact BindsTo.of_eq rfl
  case hloc => exact locs rfl
  case c1 => rfl
  case c2 => rfl
  case c3 => rfl
  case c4 => decide
  intro g' L' s' H'
  replace H' : AtL w O g' L' [("parts", .ref pt), ("self", .ref a)] _ s' := H'
  walk_at "go"
  rename_i D _ _ s1 H1
  replace H1 := H1.sub (σ' := (a, .inst 126 X.d) :: (X.d, .attrs X.attrs) :: (X.c, .idict (cd X.cs)) :: (X.y, .idict (tt X.ys)) :: (X.r, .idict (tt X.rs)) :: (X.ro, .refs ((X.rows ++ [(D, ps)]).map (·.1))) :: (rowsL (X.rows ++ [(D, ps)]) ++ (cellsL X.cs ++ rest))) (by
    rw [rowsL_snoc, List.map_append, List.map_cons, List.map_nil]
    walk_at "sub")
  replace H1 : AtL w O g' L' [("parts", .ref pt), ("self", .ref a)] (arL a { X with rows := X.rows ++ [(D, ps)] } rest) s1 := H1
  have I1 := I.addRow (pa := D) hps hz hz2
  refine use_call (c_minor (ok.deeper _) H1 I1) ?_
  rintro _ s2 ⟨X2, ks, rfl, H2, T⟩
  have RT := RoomTo.minor I hps hz hz2 T
  have I2 := T.inv I1
  have r2 : X2.rows = X.rows ++ [(D, ps)] := T.rows
  have o2 : X2.old = X.old := T.old
  have y2 : X2.ys = [] := T.ys
  have z2 := I2.z1
  walk_at "go"
  rename_i f1
  refine use_call (c_old_count (Ok.mono (ok.deeper _) (by decide)) H2 I2) ?_
  rintro _ s3 ⟨⟨t, rfl⟩, H3⟩
  walk_at "go"
  · exfalso; rename_i h; omega
  rename_i s4 H4 _
  replace H4 : AtL w O g' L' [("parts", .ref pt), ("self", .ref a)] ((a, .inst 126 X2.d) :: (X2.d, .attrs X2.attrs) :: (X2.c, .idict (cd X2.cs)) :: (X2.y, .idict (tt X2.ys)) :: (X2.r, .idict (tt X2.rs)) :: (X2.ro, .refs (X.rows.map (·.1) ++ [D])) :: (rowsL (X.rows ++ [(D, ps)]) ++ (cellsL X2.cs ++ rest))) s4 := by
    have e : X2.rows.map (·.1) = X.rows.map (·.1) ++ [D] := by rw [r2]; simp
    unfold arL arT at H4
    rw [e, r2] at H4
    exact H4
  walk_at "go"
  rename_i s5 H5
  replace H5 := H5.sub (σ' := (a, .inst 126 X2.d) :: (X2.d, .attrs X2.attrs) :: (X2.c, .idict (cd X2.cs)) :: (X2.y, .idict (tt X2.ys)) :: (X2.r, .idict (tt X2.rs)) :: (X2.ro, .refs (X.rows.map (·.1))) :: (rowsL X.rows ++ (cellsL X2.cs ++ rest))) (by
    rw [rowsL_snoc]
    walk_at "sub")
  replace H5 : AtL w O g' L' [("parts", .ref pt), ("self", .ref a)] (arL a { X2 with rows := X.rows } rest) s5 := H5
  refine use_call (c_old_count (X := { X2 with rows := X.rows }) (Ok.mono (ok.deeper _) (by decide)) H5 RT.inv) ?_
  rintro _ s6 ⟨⟨t, rfl⟩, H6⟩
  walk_at "go"
  · exfalso; rename_i h; replace h : X2.old < (X2.cs.length : Int) - (X2.ys.length : Int) := h; omega
  rename At _ _ _ _ _ _ _ _ _ _ _ => H7
  walk_at "go"
  exact back H7.toks fun HB => ⟨_, rfl, HB, RT⟩

theorem cd_snoc (cs : CS) (q : Int × Addr × List Int) : cd (cs ++ [q]) = cd cs ++ [(q.1, .ref q.2.1)] := by simp [cd]
theorem stored_new {cs : CS} {k : Int} {v : Value} (h : k ∉ keys cs) : stored (cd cs) k v = cd cs ++ [(k, v)] := by
  unfold stored
  rw [if_neg]
  rw [List.any_eq_true]
  rintro ⟨x, hx, e⟩
  have e' : x.1 = k := by simpa using e
  have hx' : x.1 ∈ (cd cs).map (·.1) := List.mem_map_of_mem hx
  rw [keys_cd, e'] at hx'
  exact h hx'

theorem c_alloc {a : Addr} {X : AR} {rest : Ledger} {pt : Addr} {ps : List Int} (ok : Ok A 4) (H : AtL w O g L ρ (arL a X rest) s) (I : Inv X) (hp : (pt, Sp.ints ps) ∈ rest) (hps : ∀ x ∈ ps, x ∈ keys X.cs) (hz : ps.length ≤ 1000) (hz2 : X.rows.length < 999) (hz3 : X.cs.length < 59) (ho : 60 ≤ X.old) :
    codeAny (model PP w) A (.call (.ref 67) ⟨[.ref a, .ref pt], []⟩) (Ret fun v s' => (∃ t, v = .int X.next t) ∧ ∃ X', AtL w O g L ρ (arL a X' rest) s' ∧ AllocTo X X' ps) s := by
  have l4 := nodup_len (nd_ys H) I.ysub
  rw [length_keys] at l4
  have hz' : ps.length < 9000000 := by omega
  refine' call_fn (binds := [("self", .ref a), ("parts", .ref pt)]) H ?ho ?hcd (ok_room ok) ?hbind ?hloc ?_ ?c1 ?c2 ?c3 ?c4
  case ho => k_is
  case hcd => k_is
  case hbind => exact BindsTo.of_eq rfl
  case hloc => exact locs rfl
  case c1 => rfl
  case c2 => rfl
  case c3 => rfl
  case c4 => decide
  intro g' L' s' H'
  replace H' : AtL w O g' L' [("parts", .ref pt), ("self", .ref a)] _ s' := H'
  walk_at "go"
  · refine use_call (c_make_room (ok.deeper _) (by walk_at "H") I hp hps hz hz2 ho) ?_
    rintro _ s1 ⟨X1, rfl, H1, RT⟩
    walk_at "go"
    have hnew : X1.next ∉ keys X1.cs := fun h => absurd (RT.inv.nxt _ h) (Int.lt_irrefl _)
    have hnewy : X1.next ∉ X1.ys := fun h => hnew (RT.inv.ysub _ h)
    have y1 := nodup_len (nd_ys H1) RT.inv.ysub
    rw [length_keys] at y1
    have c1 : X1.cs.length ≤ X.cs.length := by
      have n1 := nd_cs H1
      have := nodup_len n1 (m := keys X.cs) fun x hx => by
        obtain ⟨q, hq, rfl⟩ := key_cell hx
        exact mem_keys (RT.sub q hq)
      rwa [length_keys, length_keys] at this
    have hp1 : (pt, Sp.ints ps) ∈ rowsL X1.rows ++ (cellsL X1.cs ++ rest) := List.mem_append_right _ (List.mem_append_right _ hp)
    walk_at "go"
    rename_i D _ _ _ _ _ _ _ _ sF HF
    rw [stored_new hnew, stored_tt hnewy] at HF
    obtain ⟨T, HG⟩ : ∃ T, AtL w O g' L' [] ((D, .ints ps) :: (a, .inst 126 X1.d) :: (X1.d, .attrs (putA "next_number" (.int (X1.next + 1) T) X1.attrs)) :: (X1.c, .idict (cd X1.cs ++ [(X1.next, .ref D)])) :: (X1.y, .idict (tt (X1.ys ++ [X1.next]))) :: (X1.r, .idict (tt X1.rs)) :: (X1.ro, .refs (X1.rows.map (·.1))) :: (rowsL X1.rows ++ (cellsL X1.cs ++ rest))) sF := ⟨_, HF.loc LSub.nil⟩
    refine back (HG.sub (σ' := (a, .inst 126 X1.d) :: (X1.d, .attrs (putA "next_number" (.int (X1.next + 1) T) X1.attrs)) :: (X1.c, .idict (cd (X1.cs ++ [(X1.next, D, ps)]))) :: (X1.y, .idict (tt (X1.ys ++ [X1.next]))) :: (X1.r, .idict (tt X1.rs)) :: (X1.ro, .refs (X1.rows.map (·.1))) :: (rowsL X1.rows ++ (cellsL (X1.cs ++ [(X1.next, D, ps)]) ++ rest))) (by
      rw [cellsL_snoc, cd_snoc]
      walk_at "sub")) fun HB => ⟨⟨_, by rw [← RT.next]⟩, { X1 with next := X1.next + 1, t3 := T, cs := X1.cs ++ [(X1.next, D, ps)], ys := X1.ys ++ [X1.next] }, HB, ⟨RT.inv.alloc RT.psub hz (by omega), RT.rows, RT.young, RT.old, by rw [← RT.next], X1, D, RT, by rw [← RT.next]⟩⟩
  · rename At _ _ _ _ _ _ _ _ _ _ _ => H1
    have RT := RoomTo.none I hps
    obtain ⟨X1, hX⟩ : ∃ X1, X1 = X := ⟨X, rfl⟩
    rw [← hX] at H1
    replace RT : RoomTo X X1 ps := by rw [hX]; exact RT
    clear hX
    walk_at "go"
    have hnew : X1.next ∉ keys X1.cs := fun h => absurd (RT.inv.nxt _ h) (Int.lt_irrefl _)
    have hnewy : X1.next ∉ X1.ys := fun h => hnew (RT.inv.ysub _ h)
    have y1 := nodup_len (nd_ys H1) RT.inv.ysub
    rw [length_keys] at y1
    have c1 : X1.cs.length ≤ X.cs.length := by
      have n1 := nd_cs H1
      have := nodup_len n1 (m := keys X.cs) fun x hx => by
        obtain ⟨q, hq, rfl⟩ := key_cell hx
        exact mem_keys (RT.sub q hq)
      rwa [length_keys, length_keys] at this
    have hp1 : (pt, Sp.ints ps) ∈ rowsL X1.rows ++ (cellsL X1.cs ++ rest) := List.mem_append_right _ (List.mem_append_right _ hp)
    walk_at "go"
    rename_i D _ _ _ _ _ _ _ _ sF HF
    rw [stored_new hnew, stored_tt hnewy] at HF
    obtain ⟨T, HG⟩ : ∃ T, AtL w O g' L' [] ((D, .ints ps) :: (a, .inst 126 X1.d) :: (X1.d, .attrs (putA "next_number" (.int (X1.next + 1) T) X1.attrs)) :: (X1.c, .idict (cd X1.cs ++ [(X1.next, .ref D)])) :: (X1.y, .idict (tt (X1.ys ++ [X1.next]))) :: (X1.r, .idict (tt X1.rs)) :: (X1.ro, .refs (X1.rows.map (·.1))) :: (rowsL X1.rows ++ (cellsL X1.cs ++ rest))) sF := ⟨_, HF.loc LSub.nil⟩
    refine back (HG.sub (σ' := (a, .inst 126 X1.d) :: (X1.d, .attrs (putA "next_number" (.int (X1.next + 1) T) X1.attrs)) :: (X1.c, .idict (cd (X1.cs ++ [(X1.next, D, ps)]))) :: (X1.y, .idict (tt (X1.ys ++ [X1.next]))) :: (X1.r, .idict (tt X1.rs)) :: (X1.ro, .refs (X1.rows.map (·.1))) :: (rowsL X1.rows ++ (cellsL (X1.cs ++ [(X1.next, D, ps)]) ++ rest))) (by
      rw [cellsL_snoc, cd_snoc]
      walk_at "sub")) fun HB => ⟨⟨_, by rw [← RT.next]⟩, { X1 with next := X1.next + 1, t3 := T, cs := X1.cs ++ [(X1.next, D, ps)], ys := X1.ys ++ [X1.next] }, HB, ⟨RT.inv.alloc RT.psub hz (by omega), RT.rows, RT.young, RT.old, by rw [← RT.next], X1, D, RT, by rw [← RT.next]⟩⟩

abbrev AR.new (X : AR) (y o : Int) : Prop := X.young = y ∧ X.old = o ∧ X.next = 0 ∧ X.cs = [] ∧ X.ys = [] ∧ X.rs = [] ∧ X.rows = []

theorem c_init {x d : Addr} {y o : Int} {t1 t2 : Tok} (ok : Ok A 1) (H : AtL w O g L ρ ((x, .inst 126 d) :: (d, .attrs []) :: σ) s) :
    codeAny (model PP w) A (.call (.ref 60) ⟨[.ref x, .int y t1, .int o t2], []⟩) (Ret fun v s' => v = .none ∧ ∃ X, AtL w O g L ρ (arL x X σ) s' ∧ X.new y o) s := by
  refine' call_fn (binds := [("self", .ref x), ("young", .int y t1), ("old", .int o t2)]) H ?ho ?hcd (ok_room ok) ?hbind ?hloc ?_ ?c1 ?c2 ?c3 ?c4
  case ho => k_is
  case hcd => k_is
  case hbind => exact BindsTo.of_eq rfl
  case hloc => exact locs rfl
  case c1 => rfl
  case c2 => rfl
  case c3 => rfl
  case c4 => decide
  intro g' L' s' H'
  replace H' : AtL w O g' L' [("old", .int o t2), ("young", .int y t1), ("self", .ref x)] _ s' := H'
  walk_at "go"
  rename At _ _ _ _ _ _ _ _ _ _ _ => HF
  obtain ⟨c, y', r, ro, u3, u4, u5, HG⟩ : ∃ c y' r ro u3 u4 u5, AtL w O g' L' [] ((ro, .ints []) :: (r, .idict []) :: (y', .idict []) :: (c, .idict []) :: (x, .inst 126 d) :: (d, .attrs (AR.attrs ⟨d, c, y', r, ro, y, o, 0, 0, 0, t1, t2, u3, u4, u5, [], [], [], []⟩)) :: σ) _ := ⟨_, _, _, _, _, _, _, HF.loc LSub.nil⟩
  refine back ((HG.recast .head nil_refs).sub (σ' := (x, .inst 126 d) :: (d, .attrs (AR.attrs ⟨d, c, y', r, ro, y, o, 0, 0, 0, t1, t2, u3, u4, u5, [], [], [], []⟩)) :: (c, .idict []) :: (y', .idict []) :: (r, .idict []) :: (ro, .refs []) :: σ) (by walk_at "sub")) fun HB => ⟨rfl, ⟨d, c, y', r, ro, y, o, 0, 0, 0, t1, t2, u3, u4, u5, [], [], [], []⟩, HB, rfl, rfl, rfl, rfl, rfl, rfl, rfl⟩

theorem c_take {gt : Addr} {got : List Int} {most : Int} {t : Tok} (ok : Ok A 1) (H : AtL w O g L ρ ((gt, .ints got) :: σ) s) (hz : got.length < 1000) (hm : 0 < most) :
    codeAny (model PP w) A (.call (.ref 165) ⟨[.ref gt, .int most t], []⟩) (Ret fun v s' => ∃ r t got', v = .int r t ∧ 0 ≤ r ∧ r < most ∧ got'.length ≤ got.length ∧ AtL w O g L ρ ((gt, .ints got') :: σ) s') s := by
  have hm0 : most ≠ 0 := by omega
  refine' call_fn (binds := [("got", .ref gt), ("most", .int most t)]) H ?ho ?hcd (ok_room ok) ?hbind ?hloc ?_ ?c1 ?c2 ?c3 ?c4
  case ho => k_is
  case hcd => k_is
  case hbind => exact BindsTo.of_eq rfl
  case hloc => exact locs rfl
  case c1 => rfl
  case c2 => rfl
  case c3 => rfl
  case c4 => decide
  intro g' L' s' H'
  replace H' : AtL w O g' L' [("most", .int most t), ("got", .ref gt)] _ s' := H'
  cases got with
  | nil =>
    walk_at "go"
    rename At _ _ _ _ _ _ _ _ _ _ _ => H1
    exact back (H1.drop.toks) fun HB => ⟨0, _, [], rfl, Int.le_refl _, hm, Nat.le_refl _, HB⟩
  | cons x r =>
    have hz' : r.length < 9000000 := by rw [List.length_cons] at hz; omega
    walk_at "go"
    · rename_i h; exact absurd h (by simp)
    walk_at "go"
    rename At _ _ _ _ _ _ _ _ _ _ _ => H1
    exact back (H1.drop.toks) fun HB => ⟨_, _, r, rfl, Int.fmod_nonneg_of_pos _ hm, Int.fmod_lt_of_pos _ hm, by rw [List.length_cons]; omega, HB⟩

/-- the numbers that the script is spread into: their number is all that counts -/
theorem c_spread {sc : Addr} {vs : List Value} {ns : List Int} (ok : Ok A 1) (H : AtL w O g L ρ σ s) (hsc : g.IsList sc vs.toArray) (hi : IntsAre vs ns) (hz0 : ns.length < 9000000) :
    codeAny (model PP w) A (.call (.ref 158) ⟨[.ref sc], []⟩) (Ret fun v s' => ∃ D got, v = .ref D ∧ got.length < 300 ∧ AtL w O g L ρ ((D, .ints got) :: σ) s') s := by
  refine' call_fnS (binds := [("script", .ref sc)]) H ?ho ?hcd (ok_room ok) ?hbind ?hloc ?_ ?c1 ?c2 ?c3 ?c4
  case ho => k_is
  case hcd => k_is
  case hbind => exact BindsTo.of_eq rfl
  case hloc => exact locs rfl
  case c1 => rfl
  case c2 => rfl
  case c3 => rfl
  case c4 => decide
  intro g' L' s' st H'
  replace H' : AtL w O g' L' [("script", .ref sc)] _ s' := H'
  walk_at "go"
  rename_i D _ _ s2 H2
  have l0 : ns.length < 9000000 := hz0
  have hl2 : s2.heap.IsList sc vs.toArray := by
    obtain ⟨m, F, _⟩ := H2.fr
    exact let ⟨o, ho, r⟩ := hsc; ⟨o, F.keep _ _ (st _ _ ho), r⟩
  refine r_slice_upto H2.toks hl2 hi (by decide) l0 ?_
  intro SL s3 H3
  walk_at "go"
  have l50 : (ns.take (50 : Int).toNat).length ≤ 50 := by rw [List.length_take]; exact Nat.min_le_left _ _
  replace H3 := H3.loc (ρ' := [("got", .ref D)]) (by walk_at "lsub")
  refine for_ints H3 (.head _) ok.hh (fun i (ρ' : Locs) (σ' : Ledger) => ρ' = ([("got", .ref D)] : Locs) ∧ ∃ got, σ' = (SL, .ints (ns.take (50 : Int).toNat)) :: (D, .ints got) :: σ ∧ got.length ≤ 131 + i) ⟨rfl, [], rfl, by simp⟩ ?_ ?_ ?_
  · rintro i ρ' σ' ⟨rfl, got, rfl, _⟩; exact .head _
  · rintro it i ρ' σ' s4 tk hi4 ⟨rfl, got, rfl, hg⟩ H4
    have lg : got.length < 9000000 := by omega
    walk_at "go"
    · rename_i s5 H5
      obtain ⟨z, tz, gz, hgz, H6⟩ : ∃ z tz gz, gz.length = got.length + 1 ∧ AtL w O g' L' [("size", .int z tz), ("got", .ref D)] ((it, listIt SL (i + 1)) :: (SL, .ints (ns.take (50 : Int).toNat)) :: (D, .ints gz) :: σ) s5 := ⟨_, _, _, by rw [List.length_append]; rfl, H5.loc (by walk_at "lsub")⟩
      refine while_rule (fun n (ρ' : Locs) (σ' : Ledger) => ∃ z tz, ρ' = ([("size", .int z tz), ("got", .ref D)] : Locs) ∧ ∃ gz, σ' = (it, listIt SL (i + 1)) :: (SL, .ints (ns.take (50 : Int).toNat)) :: (D, .ints gz) :: σ ∧ gz.length ≤ 132 + i ∧ n = 500 - gz.length) (500 - gz.length) (by first | exact H6 | exact H6.toks) ⟨z, tz, rfl, gz, rfl, by omega, rfl⟩ ?_
      rintro n ρ' σ' s6 ⟨z, tz, rfl, gz, rfl, hz6, rfl⟩ H6
      have lg6 : gz.length < 9000000 := by omega
      walk_at "go"
      · rename_i s8 H8
        exact hold ⟨500 - (gz.length + 1), _, _, by omega, H8.loc (ρ' := [("size", .int (z.fdiv 24) _), ("got", .ref D)]) (by walk_at "lsub"), _, _, rfl, _, rfl, by rw [List.length_append, List.length_singleton]; omega, by rw [List.length_append]; rfl⟩
      · walk_at "go"
        rename At _ _ _ _ _ _ _ _ _ _ _ => H8
        exact hold ⟨_, _, (by walk_at "H" : AtL w O g' L' _ _ _).loc (ρ' := [("got", .ref D)]) (by walk_at "lsub"), rfl, gz, rfl, by omega⟩
      · walk_at "go"
        exact hold ⟨_, _, (by walk_at "H" : AtL w O g' L' _ _ _).loc (ρ' := [("got", .ref D)]) (by walk_at "lsub"), rfl, gz, rfl, by omega⟩
    · walk_at "go"
      rename_i s5 H5
      obtain ⟨z, tz, gz, hgz, H6⟩ : ∃ z tz gz, gz.length = got.length + 1 ∧ AtL w O g' L' [("size", .int z tz), ("got", .ref D)] ((it, listIt SL (i + 1)) :: (SL, .ints (ns.take (50 : Int).toNat)) :: (D, .ints gz) :: σ) s5 := ⟨_, _, _, by rw [List.length_append]; rfl, H5.loc (by walk_at "lsub")⟩
      refine while_rule (fun n (ρ' : Locs) (σ' : Ledger) => ∃ z tz, ρ' = ([("size", .int z tz), ("got", .ref D)] : Locs) ∧ ∃ gz, σ' = (it, listIt SL (i + 1)) :: (SL, .ints (ns.take (50 : Int).toNat)) :: (D, .ints gz) :: σ ∧ gz.length ≤ 132 + i ∧ n = 500 - gz.length) (500 - gz.length) (by first | exact H6 | exact H6.toks) ⟨z, tz, rfl, gz, rfl, by omega, rfl⟩ ?_
      rintro n ρ' σ' s6 ⟨z, tz, rfl, gz, rfl, hz6, rfl⟩ H6
      have lg6 : gz.length < 9000000 := by omega
      walk_at "go"
      · rename_i s8 H8
        exact hold ⟨500 - (gz.length + 1), _, _, by omega, H8.loc (ρ' := [("size", .int (z.fdiv 24) _), ("got", .ref D)]) (by walk_at "lsub"), _, _, rfl, _, rfl, by rw [List.length_append, List.length_singleton]; omega, by rw [List.length_append]; rfl⟩
      · walk_at "go"
        rename At _ _ _ _ _ _ _ _ _ _ _ => H8
        exact hold ⟨_, _, (by walk_at "H" : AtL w O g' L' _ _ _).loc (ρ' := [("got", .ref D)]) (by walk_at "lsub"), rfl, gz, rfl, by omega⟩
      · walk_at "go"
        exact hold ⟨_, _, (by walk_at "H" : AtL w O g' L' _ _ _).loc (ρ' := [("got", .ref D)]) (by walk_at "lsub"), rfl, gz, rfl, by omega⟩
  · rintro ρ' σ' s4 ⟨rfl, got, rfl, hg⟩ H4
    walk_at "go"
    exact back H4.drop fun HB => ⟨D, got, rfl, by omega, HB⟩

theorem c_reached {tb rt : Addr} {T : CS} {rs : List Int} (ok : Ok A 1) (H : AtL w O g L ρ σ s) (hc : (tb, Sp.idict (cd T)) ∈ σ) (hcs : ∀ q ∈ T, (q.2.1, Sp.ints q.2.2) ∈ σ) (hrt : (rt, Sp.ints rs) ∈ σ)
    (nd : rs.Nodup) (hr : ∀ x ∈ rs, x ∈ keys T) (clo : ∀ q ∈ T, ∀ p ∈ q.2.2, p ∈ keys T) (hz : T.length < 60) :
    codeAny (model PP w) A (.call (.ref 172) ⟨[.ref tb, .ref rt], []⟩) (Ret fun v s' => ∃ D ms, v = .ref D ∧ AtL w O g L ρ ((D, .ints ms) :: σ) s' ∧ ms.Pairwise (· ≤ ·) ∧ ms.Nodup ∧ ∀ x, x ∈ ms ↔ Lead T rs x) s := by
  have ndk : (keys T).Nodup := by
    obtain ⟨o, es, ep, _, _, _, _, _, nd⟩ := H.dict hc
    rwa [keys_cd] at nd
  have hz3 : rs.length < 9000000 := by
    have := nodup_len nd hr
    rw [length_keys] at this; omega
  have hh := ok.hh
  refine' call_fn (binds := [("table", .ref tb), ("roots", .ref rt)]) H ?ho ?hcd (ok_room ok) ?hbind ?hloc ?_ ?c1 ?c2 ?c3 ?c4
  case ho => k_is
  case hcd => k_is
  case hbind => exact BindsTo.of_eq rfl
  case hloc => exact locs rfl
  case c1 => rfl
  case c2 => rfl
  case c3 => rfl
  case c4 => decide
  intro g' L' s' H'
  replace H' : AtL w O g' L' [("roots", .ref rt), ("table", .ref tb)] _ s' := H'
  walk_at "go"
  rename At _ _ _ _ _ _ _ _ _ _ _ => H2
  rename_i D _ _ _ _ s2
  obtain ⟨tk0, H3⟩ : ∃ tk, AtL w O g' L' [("at", .int ((0 : Nat) : Int) tk), ("reached", .ref D), ("table", .ref tb)] ((D, .ints rs) :: σ) _ := ⟨_, H2.loc (by walk_at "lsub")⟩
  refine while_rule (fun n (ρ' : Locs) (σ' : Ledger) => ∃ k tk rl, n = 60 - k ∧ ρ' = ([("at", .int ((k : Nat) : Int) tk), ("reached", .ref D), ("table", .ref tb)] : Locs) ∧ σ' = (D, .ints rl) :: σ ∧ RList T rs rl k) 60 (by first | exact H3 | exact H3.toks) ⟨0, tk0, rs, rfl, rfl, rfl, RList.init nd hr⟩ ?_
  rintro n ρ' σ' s5 ⟨k, tk, rl, rfl, rfl, rfl, J⟩ H5
  have lrl := J.len
  have hle := J.le
  have lz : rl.length < 9000000 := by omega
  rcases Nat.lt_or_ge k rl.length with hk | hk
  · obtain ⟨q, hq, hqe⟩ := key_cell (J.sub _ (List.getElem_mem hk))
    have e0 : rl.getD ((k : Int)).toNat 0 = q.1 := by
      rw [Int.toNat_natCast, List.getD_eq_getElem?_getD, List.getElem?_eq_getElem hk, hqe]; rfl
    have hv := valueAt_cd ndk hq
    rw [← e0] at hv
    have hqm := hcs q hq
    walk_at "go"
    · rename At _ _ _ _ _ _ _ _ _ _ _ => H6
      replace H6 := H6.loc (ρ' := [("at", .int ((k : Nat) : Int) tk), ("reached", .ref D), ("table", .ref tb)]) (by walk_at "lsub")
      refine for_ints H6 (.tail _ hqm) hh (fun j (ρ' : Locs) (σ' : Ledger) => ρ' = ([("at", .int ((k : Nat) : Int) tk), ("reached", .ref D), ("table", .ref tb)] : Locs) ∧ ∃ rl, σ' = (D, .ints rl) :: σ ∧ RTurn T rs rl k q j) ⟨rfl, rl, rfl, J, by rw [List.getElem?_eq_getElem hk, hqe], by simp⟩ ?_ ?_ ?_
      · rintro j ρ' σ' ⟨rfl, rl, rfl, _⟩; exact .tail _ hqm
      · rintro it j ρ' σ' s9 tk2 hj ⟨rfl, rl, rfl, RT⟩ H9
        have lz2 : rl.length < 9000000 := by have := RT.base.len; omega
        walk_at "go"
        · rename_i hx
          have hx' : q.2.2[j] ∈ rl := by simpa [any_eq_mem] using hx
          exact hold ⟨_, _, H9.loc (ρ' := [("at", .int ((k : Nat) : Int) tk), ("reached", .ref D), ("table", .ref tb)]) (by walk_at "lsub"), rfl, rl, rfl, RT.skip hj hx'⟩
        · rename_i hx
          have hx' : q.2.2[j] ∉ rl := by simpa [any_eq_mem] using hx
          walk_at "go"
          rename At _ _ _ _ _ _ _ _ _ _ _ => H7
          exact hold ⟨_, _, H7.loc (ρ' := [("at", .int ((k : Nat) : Int) tk), ("reached", .ref D), ("table", .ref tb)]) (by walk_at "lsub"), rfl, _, rfl, RT.add clo hq hj hx'⟩
      · rintro ρ' σ' s9 ⟨rfl, rl, rfl, RT⟩ H9
        walk_at "go"
        rename At _ _ _ _ _ _ _ _ _ _ _ => H7
        have J2 := RT.fin ndk hq (Nat.le_refl _)
        have := J2.len
        have := J2.le
        obtain ⟨tk9, H8⟩ : ∃ tk, AtL w O g' L' [("at", .int ((k + 1 : Nat) : Int) tk), ("reached", .ref D), ("table", .ref tb)] ((D, .ints rl) :: σ) _ := ⟨_, H7.loc (by walk_at "lsub")⟩
        exact hold ⟨60 - (k + 1), _, _, by omega, by first | exact H8 | exact H8.toks, k + 1, tk9, rl, rfl, rfl, rfl, J2⟩
    · rename_i h; exact absurd (by omega) h
  · walk_at "go"
    · exfalso; rename_i h; omega
    have l64 : rl.length < 64 := by omega
    walk_at "go"
    rename At _ _ _ _ _ _ _ _ _ _ _ => H6
    rename List.Perm _ _ => hp
    rename List.Pairwise _ _ => hpw
    rename_i D2 ms _
    exact back (H6.sub (σ' := (D2, .ints ms) :: σ) (by walk_at "sub")) fun HB => ⟨D2, ms, rfl, HB, hpw, hp.nodup_iff.mpr J.nd, fun x => hp.mem_iff.trans (J.fin hk x)⟩

theorem c_alike {tb rt ars : Addr} {T : CS} {rs : List Int} {Zs : List (Addr × AR)} (ok : Ok A 2) (H : AtL w O g L ρ σ s) (hc : (tb, Sp.idict (cd T)) ∈ σ) (hcs : ∀ q ∈ T, (q.2.1, Sp.ints q.2.2) ∈ σ) (hrt : (rt, Sp.ints rs) ∈ σ)
    (har : (ars, Sp.refs (Zs.map (·.1))) ∈ σ) (hz : ∀ z ∈ Zs, (z.1, Sp.inst 126 z.2.d) ∈ σ ∧ (z.2.d, Sp.attrs z.2.attrs) ∈ σ ∧ (z.2.c, Sp.idict (cd z.2.cs)) ∈ σ ∧ (∀ q ∈ z.2.cs, (q.2.1, Sp.ints q.2.2) ∈ σ) ∧ Same T z.2.cs rs)
    (F : Fit T rs) (hT : T.length < 60) :
    codeAny (model PP w) A (.call (.ref 191) ⟨[.ref tb, .ref rt, .ref ars], []⟩) (Ret fun v s' => v = .bool true ∧ AtL w O g L ρ σ s') s := by
  have ndk : (keys T).Nodup := by
    obtain ⟨o, es, ep, _, _, _, _, _, nd⟩ := H.dict hc
    rwa [keys_cd] at nd
  have ndz : ∀ z ∈ Zs, (keys z.2.cs).Nodup := fun z h => by
    obtain ⟨o, es, ep, _, _, _, _, _, nd⟩ := H.dict (hz z h).2.2.1
    rwa [keys_cd] at nd
  have hh := ok.hh
  refine' call_fn (binds := [("table", .ref tb), ("roots", .ref rt), ("arenas", .ref ars)]) H ?ho ?hcd (ok_room ok) ?hbind ?hloc ?_ ?c1 ?c2 ?c3 ?c4
  case ho => k_is
  case hcd => k_is
  case hbind => exact BindsTo.of_eq rfl
  case hloc => exact locs rfl
  case c1 => rfl
  case c2 => rfl
  case c3 => rfl
  case c4 => decide
  intro g' L' s' H'
  replace H' : AtL w O g' L' [("arenas", .ref ars), ("roots", .ref rt), ("table", .ref tb)] _ s' := H'
  walk_at "go"
  refine use_call (c_reached (T := T) (rs := rs) (ok.deeper _) H' hc hcs hrt F.ndr F.rsub F.clo hT) ?_
  rintro _ s2 ⟨D, ms, rfl, H2, pw, nd, hl⟩
  walk_at "go"
  replace H2 := H2.loc (ρ' := [("arenas", .ref ars), ("table", .ref tb)]) (by walk_at "lsub")
  refine for_ints H2 (.head _) hh (fun i (ρ' : Locs) (σ' : Ledger) => ρ' = ([("arenas", .ref ars), ("table", .ref tb)] : Locs) ∧ σ' = (D, .ints ms) :: σ) ⟨rfl, rfl⟩ ?_ ?_ ?_
  · rintro i ρ' σ' ⟨rfl, rfl⟩; exact .head _
  · rintro it i ρ' σ' s3 tk hi ⟨rfl, rfl⟩ H3
    have lead := (hl _).mp (List.getElem_mem hi)
    obtain ⟨q, hq, hqe⟩ := key_cell (F.lead lead)
    have hv := valueAt_cd ndk hq
    rw [hqe] at hv
    rw [← hqe] at lead
    have hqm := hcs q hq
    walk_at "go"
    replace H3 := H3.loc (ρ' := [("one", .int ms[i] tk), ("arenas", .ref ars), ("table", .ref tb)]) (by walk_at "lsub")
    refine for_refs H3 (.tail _ (.tail _ har)) hh (fun j (ρ' : Locs) (σ' : Ledger) => ρ' = ([("one", .int ms[i] tk), ("arenas", .ref ars), ("table", .ref tb)] : Locs) ∧ σ' = (it, listIt D (i + 1)) :: (D, .ints ms) :: σ) ⟨rfl, rfl⟩ ?_ ?_ ?_
    · rintro j ρ' σ' ⟨rfl, rfl⟩; exact .tail _ (.tail _ har)
    · rintro it2 j ρ' σ' s4 hj ⟨rfl, rfl⟩ H4
      have hj' : j < Zs.length := by simpa using hj
      have eZ : (Zs.map (·.1))[j] = Zs[j].1 := by simp
      rw [eZ] at H4
      obtain ⟨m1, m2, m3, m4, S⟩ := hz _ (List.getElem_mem hj')
      obtain ⟨q', hq', e1, e2⟩ := S q hq lead
      have hv2 := valueAt_cd (ndz _ (List.getElem_mem hj')) hq'
      rw [e1, hqe] at hv2
      have hqm2 := m4 q' hq'
      rw [e2] at hqm2
      walk_at "go"
      · rename At _ _ _ _ _ _ _ _ _ _ _ => H5
        walk_at "go"
        exact hold ⟨_, _, H5.loc (ρ' := [("one", .int ms[i] tk), ("arenas", .ref ars), ("table", .ref tb)]) (by walk_at "lsub"), rfl, rfl⟩
      · rename_i hx
        exact absurd rfl hx
    · rintro ρ' σ' s4 ⟨rfl, rfl⟩ H4
      walk_at "go"
      exact hold ⟨_, _, H4.loc (ρ' := [("arenas", .ref ars), ("table", .ref tb)]) (by walk_at "lsub"), rfl, rfl⟩
  · rintro ρ' σ' s3 ⟨rfl, rfl⟩ H3
    walk_at "go"
    exact back H3.toks.drop fun HB => ⟨rfl, HB⟩

/-- a loop over two arenas: one turn for both -/
theorem for_two {prog : Program} {K : Frag} {p : Program} {lo : List Str} {l a1 a2 : Addr} {Y1 Y2 : AR} {x : Str} {xp : Pos} {body : List Stmt} {env : Env} {Q : Flow → Shared → Prop} {Er E : Value → Shared → Prop} (LED : Addr → AR → Addr → AR → Ledger) (G G' : AR → Prop)
    (H : At prog w K p lo O g L ρ (LED a1 Y1 a2 Y2) s) (hh : A.handled = none) (hl : ∀ b Z b' Z', (l, Sp.refs [a1, a2]) ∈ LED b Z b' Z') (swap : ∀ b Z b' Z', Sub (LED b' Z' b Z) (LED b Z b' Z')) (g1 : G Y1) (g2 : G Y2)
    (turn : ∀ it k a a' Y Y' s, G Y → At prog w K p lo O g L ((x, .ref a) :: ρ) ((it, listIt l k) :: LED a Y a' Y') s →
      wpAny (model prog w) A (execs body env) (fun f s' => match f with
        | .next => Hold (∃ Z, At prog w K p lo O g L ρ ((it, listIt l k) :: LED a Z a' Y') s' ∧ G' Z)
        | _ => False) (fun _ _ => False) s)
    (fin : ∀ Z1 Z2 s, G' Z1 → G' Z2 → At prog w K p lo O g L ρ (LED a1 Z1 a2 Z2) s → Q .next s)
    (hL : env.locals = L := by rfl) (hk : env.scope.kind = .function := by rfl) (hx : env.kindOf x = some .local := by rfl) :
    wpAny (model prog w) A (pyIter (.ref l)) (fun it s₂ => codeAny (model prog w) A (.forLoop (.Name x xp) it body [] env) (fun r s' => match r with | .ok f => Q f s' | .error e => Er e s') s₂) E s := by
  refine for_refs H (hl ..) hh (fun i (ρ' : Locs) (σ' : Ledger) => ρ' = ρ ∧ ∃ Z1 Z2, σ' = LED a1 Z1 a2 Z2 ∧ (i = 0 → G Z1) ∧ (0 < i → G' Z1) ∧ (i ≤ 1 → G Z2) ∧ (1 < i → G' Z2)) ⟨rfl, Y1, Y2, rfl, fun _ => g1, fun h => absurd h (by decide), fun _ => g2, fun h => absurd h (by decide)⟩ ?_ ?_ ?_ hL hk hx
  · rintro i ρ' σ' ⟨rfl, Z1, Z2, rfl, _⟩; exact hl ..
  · rintro it i ρ' σ' s1 hi ⟨rfl, Z1, Z2, rfl, h1, h2, h3, h4⟩ H1
    rcases i with _ | _ | i
    · refine wpAny_mono (turn it _ a1 a2 Z1 Z2 s1 (h1 rfl) H1) (fun f s2 hf => ?_) fun _ _ e => e
      cases f with
      | next => obtain ⟨Z, H2, g⟩ := hf; exact ⟨_, _, H2, rfl, Z, Z2, rfl, fun h => absurd h (by decide), fun _ => g, fun _ => h3 (by decide), fun h => absurd h (by decide)⟩
      | _ => exact hf
    · refine wpAny_mono (turn it _ a2 a1 Z2 Z1 s1 (h3 (by decide)) (H1.sub (Sub.pick .here (swap a1 Z1 a2 Z2)))) (fun f s2 hf => ?_) fun _ _ e => e
      cases f with
      | next => obtain ⟨Z, H2, g⟩ := hf; exact ⟨_, _, H2.sub (Sub.pick .here (swap a2 Z a1 Z1)), rfl, Z1, Z, rfl, fun h => absurd h (by decide), fun _ => h2 (by decide), fun h => absurd h (by decide), fun _ => g⟩
      | _ => exact hf
    · exact absurd hi (by simp)
  · rintro ρ' σ' s1 ⟨rfl, Z1, Z2, rfl, h1, h2, h3, h4⟩ H1
    exact fin Z1 Z2 s1 (h2 (by simp)) (h4 (by simp)) H1

theorem c_make {gt rt tb ars a1 a2 : Addr} {got rs : List Int} {T : CS} {X1 X2 : AR} (ok : Ok A 6) (H : AtL w O g L ρ ((gt, .ints got) :: (rt, .ints (rs)) :: (tb, .idict (cd (T))) :: (ars, .refs [a1, a2]) :: (cellsL (T) ++ arL a1 (X1) (arL a2 (X2) σ))) s) (hg : got.length < 300)
    (F : Fit T rs) (G1 : Agree T rs X1) (G2 : Agree T rs X2) (hT : T.length < 50) :
    codeAny (model PP w) A (.call (.ref 179) ⟨[.ref tb, .ref rt, .ref ars, .ref gt], []⟩) (Ret fun v s' => v = .bool true ∧ ∃ got' rs' T' X1' X2', AtL w O g L ρ ((gt, .ints got') :: (rt, .ints (rs')) :: (tb, .idict (cd (T'))) :: (ars, .refs [a1, a2]) :: (cellsL (T') ++ arL a1 (X1') (arL a2 (X2') σ))) s' ∧ got'.length ≤ got.length ∧ T'.length = T.length + 1 ∧ Fit T' rs' ∧ Agree T' rs' X1' ∧ Agree T' rs' X2') s := by
  have hh := ok.hh
  have hcs : ∀ q ∈ T, (q.2.1, Sp.ints q.2.2) ∈ ((gt, .ints got) :: (rt, .ints (rs)) :: (tb, .idict (cd (T))) :: (ars, .refs [a1, a2]) :: (cellsL (T) ++ arL a1 (X1) (arL a2 (X2) σ))) := fun q hq => .tail _ (.tail _ (.tail _ (.tail _ (List.mem_append_left _ (mem_cellsL hq)))))
  refine' call_fn (binds := [("table", .ref tb), ("roots", .ref rt), ("arenas", .ref ars), ("got", .ref gt)]) H ?ho ?hcd (ok_room ok) ?hbind ?hloc ?_ ?c1 ?c2 ?c3 ?c4
  case ho => k_is
  case hcd => k_is
  case hbind => exact BindsTo.of_eq rfl
  case hloc => exact locs rfl
  case c1 => rfl
  case c2 => rfl
  case c3 => rfl
  case c4 => decide
  intro g' L' s' H'
  replace H' : AtL w O g' L' [("got", .ref gt), ("arenas", .ref ars), ("roots", .ref rt), ("table", .ref tb)] _ s' := H'
  walk_at "go"
  refine use_call (c_reached (T := T) (rs := rs) (Ok.mono (ok.deeper _) (by decide)) H' (by walk_at "mem") hcs (by walk_at "mem") F.ndr F.rsub F.clo (by omega)) ?_
  rintro _ s2 ⟨Rc, ms, rfl, H2, pw, nd, hl⟩
  have lms : ms.length < 60 := by
    have := nodup_len nd (m := keys T) fun x hx => F.lead ((hl x).mp hx)
    rw [length_keys] at this; omega
  walk_at "go"
  rename At _ _ _ _ _ _ _ _ _ _ _ => H3
  rename_i P _ _ _
  replace H3 := H3.sub (σ' := ((gt, .ints got) :: (rt, .ints (rs)) :: (tb, .idict (cd (T))) :: (ars, .refs [a1, a2]) :: (P, .ints []) :: (Rc, .ints ms) :: (cellsL (T) ++ arL a1 (X1) (arL a2 (X2) σ)))) (by walk_at "sub")
  refine use_call (c_take (got := got) (Ok.mono (ok.deeper _) (by decide)) H3.toks (by omega) (by decide)) ?_
  rintro _ s4 ⟨r, t, got1, rfl, h0, h1, hlen, H4⟩
  obtain ⟨n, rfl⟩ := Int.eq_ofNat_of_zero_le h0
  walk_at "go"
  rename At _ _ _ _ _ _ _ _ _ _ _ => H5
  have hn : n < 9000000 := by omega
  replace H5 := H5.loc (ρ' := [("parts", .ref P), ("reached", .ref Rc), ("got", .ref gt), ("arenas", .ref ars), ("roots", .ref rt), ("table", .ref tb)]) (by walk_at "lsub")
  refine for_range H5 hn hh (fun i (ρ' : Locs) (σ' : Ledger) => ρ' = ([("parts", .ref P), ("reached", .ref Rc), ("got", .ref gt), ("arenas", .ref ars), ("roots", .ref rt), ("table", .ref tb)] : Locs) ∧ ∃ got2 ps, σ' = ((gt, .ints got2) :: (rt, .ints (rs)) :: (tb, .idict (cd (T))) :: (ars, .refs [a1, a2]) :: (P, .ints ps) :: (Rc, .ints ms) :: (cellsL (T) ++ arL a1 (X1) (arL a2 (X2) σ))) ∧ got2.length ≤ got.length ∧ ps.length ≤ i ∧ ∀ p ∈ ps, p ∈ ms)
    ⟨rfl, got1, [], rfl, hlen, Nat.le_refl _, fun _ h => nomatch h⟩ ?_ ?_
  · rintro it i ρ' σ' s6 tk hi ⟨rfl, got2, ps, rfl, hl2, lps, hps⟩ H6
    have lz : ms.length < 9000000 := by omega
    have lz2 : ps.length < 9000000 := by omega
    walk_at "go"
    · rename At _ _ _ _ _ _ _ _ _ _ _ => H7
      exact hold ⟨_, _, (H7.loc (ρ' := [("parts", .ref P), ("reached", .ref Rc), ("got", .ref gt), ("arenas", .ref ars), ("roots", .ref rt), ("table", .ref tb)]) (by walk_at "lsub")).drop, rfl, got2, ps, rfl, hl2, by omega, hps⟩
    · walk_at "go"
      rename At _ _ _ _ _ _ _ _ _ _ _ => H7
      rename_i hne _ _
      have hne' : ms ≠ [] := of_decide_eq_false hne
      have hpos : 0 < ms.length := List.length_pos_iff.mpr hne'
      replace H7 := H7.sub (σ' := (gt, .ints got2) :: (it, rangeIt n (i + 1)) :: (rt, .ints (rs)) :: (tb, .idict (cd (T))) :: (ars, .refs [a1, a2]) :: (P, .ints ps) :: (Rc, .ints ms) :: (cellsL (T) ++ arL a1 (X1) (arL a2 (X2) σ))) (by walk_at "sub")
      refine use_call (c_take (got := got2) (Ok.mono (ok.deeper _) (by decide)) (by first | exact H7 | exact H7.toks) (by omega) (by omega)) ?_
      rintro _ s8 ⟨r, t2, got3, rfl, g0, g1, glen, H8⟩
      walk_at "go"
      rename At _ _ _ _ _ _ _ _ _ _ _ => H9
      refine hold ⟨_, _, (H9.loc (ρ' := [("parts", .ref P), ("reached", .ref Rc), ("got", .ref gt), ("arenas", .ref ars), ("roots", .ref rt), ("table", .ref tb)]) (by walk_at "lsub")).sub (σ' := (it, rangeIt n (i + 1)) :: ((gt, .ints got3) :: (rt, .ints (rs)) :: (tb, .idict (cd (T))) :: (ars, .refs [a1, a2]) :: (P, .ints (ps ++ [ms.getD r.toNat 0])) :: (Rc, .ints ms) :: (cellsL (T) ++ arL a1 (X1) (arL a2 (X2) σ)))) (by walk_at "sub"), rfl, got3, _, rfl, by omega, by rw [List.length_append]; exact Nat.succ_le_succ lps, fun p hp => ?_⟩
      rcases List.mem_append.mp hp with hp | hp
      · exact hps p hp
      · rw [List.mem_singleton.mp hp, List.getD_eq_getElem?_getD, List.getElem?_eq_getElem (by omega)]; exact List.getElem_mem _
  · rintro ρ' σ' s6 ⟨rfl, got2, ps, rfl, hl2, lps, hps⟩ H6
    have lz2 : ps.length < 9000000 := by omega
    have lrs := F.rlen
    walk_at "go"
    rename At _ _ _ _ _ _ _ _ _ _ _ => H7
    rename_i D _ _ _ _ _
    rw [length_cd, stored_new F.fresh] at H7
    obtain ⟨tk, H8⟩ : ∃ tk, AtL w O g' L' [("fresh", .int (T.length : Int) tk), ("parts", .ref P), ("arenas", .ref ars)] ((gt, .ints got2) :: (rt, .ints (rs ++ [(T.length : Int)])) :: (tb, .idict (cd (T ++ [((T.length : Int), D, ps)]))) :: (ars, .refs [a1, a2]) :: (P, .ints ps) :: (cellsL (T ++ [((T.length : Int), D, ps)]) ++ arL a1 (X1) (arL a2 (X2) σ))) _ := ⟨_, (H7.loc (by walk_at "lsub")).sub (by rw [cellsL_snoc, cd_snoc]; walk_at "sub")⟩
    refine for_two (fun b Z b' Z' => ((gt, .ints got2) :: (rt, .ints (rs ++ [(T.length : Int)])) :: (tb, .idict (cd (T ++ [((T.length : Int), D, ps)]))) :: (ars, .refs [a1, a2]) :: (P, .ints ps) :: (cellsL (T ++ [((T.length : Int), D, ps)]) ++ arL b Z (arL b' Z' σ)))) (fun Y => Agree T rs Y) (fun Y => Agree (T ++ [((T.length : Int), D, ps)]) (rs ++ [(T.length : Int)]) Y) H8 hh (fun b Z b' Z' => by walk_at "mem") (fun b Z b' Z' => by walk_at "sub") G1 G2 ?_ ?_
    · rintro it k b b' Y Y' s9 G H9
      have hpk : ∀ x ∈ ps, x ∈ keys Y.cs := fun x hx => G.same.keys F ((hl x).mp (hps x hx))
      have r1 := G.rlen
      have r2 := G.len
      have r3 := G.old
      have r4 := G.next
      walk_at "go"
      replace H9 := H9.sub (σ' := arL b Y ((it, listIt ars k) :: (gt, .ints got2) :: (rt, .ints (rs ++ [(T.length : Int)])) :: (tb, .idict (cd (T ++ [((T.length : Int), D, ps)]))) :: (ars, .refs [a1, a2]) :: (P, .ints ps) :: (cellsL (T ++ [((T.length : Int), D, ps)]) ++ arL b' Y' σ))) (by walk_at "sub")
      refine use_call (c_alloc (ps := ps) (X := Y) (Ok.mono (ok.deeper _) (by decide)) (by first | exact H9 | exact H9.toks) G.inv (by walk_at "mem") hpk (by omega) (by omega) (by omega) (by omega)) ?_
      rintro _ sB ⟨⟨t, rfl⟩, X', HB, AT⟩
      walk_at "go"
      rename At _ _ _ _ _ _ _ _ _ _ _ => HC
      rename_i E _
      replace HC := HC.sub (σ' := arL b X' ((E, .ints [(T.length : Int)]) :: ((it, listIt ars k) :: (gt, .ints got2) :: (rt, .ints (rs ++ [(T.length : Int)])) :: (tb, .idict (cd (T ++ [((T.length : Int), D, ps)]))) :: (ars, .refs [a1, a2]) :: (P, .ints ps) :: (cellsL (T ++ [((T.length : Int), D, ps)]) ++ arL b' Y' σ)))) (by walk_at "sub")
      refine use_call (c_push (ps := [(T.length : Int)]) (X := X') (Ok.mono (ok.deeper _) (by decide)) (by first | exact HC | exact HC.toks) AT.inv (by walk_at "mem") (by simp)) ?_
      rintro _ sD ⟨pa, rfl, HD⟩
      walk_at "go"
      have GG := G.make (D := D) (pa := pa) F AT (nd_cs HB) (fun p hp => (hl p).mp (hps p hp)) (by omega)
      exact hold ⟨_, (HD.loc (ρ' := [("fresh", .int (T.length : Int) tk), ("parts", .ref P), ("arenas", .ref ars)]) (by walk_at "lsub")).sub (σ' := (it, listIt ars k) :: ((gt, .ints got2) :: (rt, .ints (rs ++ [(T.length : Int)])) :: (tb, .idict (cd (T ++ [((T.length : Int), D, ps)]))) :: (ars, .refs [a1, a2]) :: (P, .ints ps) :: (cellsL (T ++ [((T.length : Int), D, ps)]) ++ arL b ({ X' with rows := X'.rows ++ [(pa, [(T.length : Int)])] }) (arL b' Y' σ)))) (by walk_at "sub"), GG⟩
    · rintro Z1 Z2 s9 gg1 gg2 H9
      walk_at "go"
      refine back (H9.toks.sub (σ' := ((gt, .ints got2) :: (rt, .ints (rs ++ [(T.length : Int)])) :: (tb, .idict (cd (T ++ [((T.length : Int), D, ps)]))) :: (ars, .refs [a1, a2]) :: (cellsL (T ++ [((T.length : Int), D, ps)]) ++ arL a1 (Z1) (arL a2 (Z2) σ)))) (by walk_at "sub")) fun HB => ⟨rfl, got2, _, _, Z1, Z2, HB, hl2, by rw [List.length_append]; rfl, F.make (fun p hp => F.lead ((hl p).mp (hps p hp))) (by omega), gg1, gg2⟩

theorem c_write' {a : Addr} {X : AR} {rest : Ledger} {q : Int × Addr × List Int} {n : Int} {k : Nat} {part : Int} {t1 t2 t3 : Tok} (hn : q.1 = n) (ok : Ok A 1) (H : AtL w O g L ρ (arL a X rest) s) (I : Inv X) (hq : q ∈ X.cs) (hk : k < q.2.2.length) :
    codeAny (model PP w) A (.call (.ref 95) ⟨[.ref a, .int n t1, .int (k : Int) t2, .int part t3], []⟩) (Ret fun v s' => ∃ X', v = .none ∧ AtL w O g L ρ (arL a X' rest) s' ∧ WroteTo X X' n k part) s := by
  subst hn; exact c_write ok H I hq hk

theorem c_lwrite {gt rt tb ars a1 a2 : Addr} {got rs : List Int} {T : CS} {X1 X2 : AR} (ok : Ok A 6) (H : AtL w O g L ρ ((gt, .ints got) :: (rt, .ints (rs)) :: (tb, .idict (cd (T))) :: (ars, .refs [a1, a2]) :: (cellsL (T) ++ arL a1 (X1) (arL a2 (X2) σ))) s) (hg : got.length < 300)
    (F : Fit T rs) (G1 : Agree T rs X1) (G2 : Agree T rs X2) (hT : T.length < 50) :
    codeAny (model PP w) A (.call (.ref 184) ⟨[.ref tb, .ref rt, .ref ars, .ref gt], []⟩) (Ret fun v s' => v = .none ∧ ∃ got' T' X1' X2', AtL w O g L ρ ((gt, .ints got') :: (rt, .ints (rs)) :: (tb, .idict (cd (T'))) :: (ars, .refs [a1, a2]) :: (cellsL (T') ++ arL a1 (X1') (arL a2 (X2') σ))) s' ∧ got'.length ≤ got.length ∧ T'.length = T.length ∧ Fit T' rs ∧ Agree T' rs X1' ∧ Agree T' rs X2') s := by
  have hh := ok.hh
  have ndk : (keys T).Nodup := by
    obtain ⟨o, es, ep, _, _, _, _, _, nd⟩ := H.dict (kvs := cd T) (by walk_at "mem")
    rwa [keys_cd] at nd
  refine' call_fnC (binds := [("table", .ref tb), ("roots", .ref rt), ("arenas", .ref ars), ("got", .ref gt)]) H ?ho ?hcd (ok_room ok) ?hbind ?hkind ?hnd ?_ ?c1 ?c2 ?c3
  case ho => k_is
  case hcd => k_is
  case hbind => exact BindsTo.of_eq rfl
  case hkind => intro n x hx; simp only [List.mem_cons, List.not_mem_nil, or_false] at hx; rcases hx with rfl | rfl | rfl | rfl <;> first | exact .inl rfl | exact .inr ⟨rfl, rfl⟩
  case hnd => decide
  case c1 => rfl
  case c2 => rfl
  case c3 => rfl
  intro g' L' s' st H'
  replace H' : AtL w O g' L' [("got", .ref gt), ("arenas", .ref ars), ("roots", .ref rt)] (((L' : Nat) + 1, .cell (some (.ref tb))) :: ((gt, .ints got) :: (rt, .ints (rs)) :: (tb, .idict (cd (T))) :: (ars, .refs [a1, a2]) :: (cellsL (T) ++ arL a1 (X1) (arL a2 (X2) σ)))) s' := H'
  have hcs : ∀ q ∈ T, (q.2.1, Sp.ints q.2.2) ∈ (((L' : Nat) + 1, .cell (some (.ref tb))) :: ((gt, .ints got) :: (rt, .ints (rs)) :: (tb, .idict (cd (T))) :: (ars, .refs [a1, a2]) :: (cellsL (T) ++ arL a1 (X1) (arL a2 (X2) σ))) : Ledger) := fun q hq => .tail _ (.tail _ (.tail _ (.tail _ (.tail _ (List.mem_append_left _ (mem_cellsL hq))))))
  walk_at "go"
  refine use_call (c_reached (T := T) (rs := rs) (Ok.mono (ok.deeper _) (by decide)) H' (by walk_at "mem") hcs (by walk_at "mem") F.ndr F.rsub F.clo (by omega)) ?_
  rintro _ s2 ⟨Rc, ms, rfl, H2, pw, nd, hl⟩
  have lms : ms.length < 60 := by
    have := nodup_len nd (m := keys T) fun x hx => F.lead ((hl x).mp hx)
    rw [length_keys] at this; omega
  walk_at "go"
  rename At _ _ _ _ _ _ _ _ _ _ _ => H3
  refine comp_assign (by with_unfolding_all rfl) (cl := [("table", (L' : Nat) + 1)]) (by with_unfolding_all rfl) ?_
  walk_at "go"
  refine comp_ints H3 (.head _) hh (.ints []) (fun _ h => h) (fun D i (ρ' : Locs) (σ' : Ledger) => ρ' = ([("reached", .ref Rc), ("got", .ref gt), ("arenas", .ref ars), ("roots", .ref rt)] : Locs) ∧ ∃ hs, σ' = (D, .ints hs) :: (Rc, .ints ms) :: ((L' : Nat) + 1, .cell (some (.ref tb))) :: ((gt, .ints got) :: (rt, .ints (rs)) :: (tb, .idict (cd (T))) :: (ars, .refs [a1, a2]) :: (cellsL (T) ++ arL a1 (X1) (arL a2 (X2) σ))) ∧ hs.length ≤ i ∧ ∀ x ∈ hs, x ∈ ms ∧ ∀ q ∈ T, q.1 = x → q.2.2 ≠ [])
    (fun D => ⟨rfl, [], rfl, Nat.zero_le _, fun _ h => nomatch h⟩) ?_ ?_ ?_
  · rintro D i ρ' σ' ⟨rfl, hs, rfl, _⟩; exact .tail _ (.head _)
  · rintro it C D i ρ' σ' kvs s4 tk hi ⟨rfl, hs, rfl, lhs, hhs⟩ H4
    refine wpAny_tests_one ?_
    have lead := (hl _).mp (List.getElem_mem hi)
    obtain ⟨q, hq, hqe⟩ := key_cell (F.lead lead)
    have hv := valueAt_cd ndk hq
    rw [hqe] at hv
    have hqm := hcs q hq
    have lz : hs.length < 9000000 := by omega
    walk_at "go"
    · rename At _ _ _ _ _ _ _ _ _ _ _ => H5
      exact hold ⟨_, _, _, H5.drop, rfl, hs, rfl, by omega, hhs⟩
    · rename_i hne
      have hne' : q.2.2 ≠ [] := of_decide_eq_false hne
      walk_at "go"
      rename At _ _ _ _ _ _ _ _ _ _ _ => H5
      refine hold ⟨_, _, _, H5.drop, rfl, _, rfl, by rw [List.length_append]; exact Nat.succ_le_succ lhs, fun x hx => ?_⟩
      rcases List.mem_append.mp hx with hx | hx
      · exact hhs x hx
      · rw [List.mem_singleton.mp hx]
        exact ⟨List.getElem_mem hi, fun q' hq' e' => by rw [cell_uniq ndk hq' hq (e'.trans hqe.symm)]; exact hne'⟩
  · rintro C D ρ' σ' kvs s4 ⟨rfl, hs, rfl, lhs, hhs⟩ H4
    refine compPost_st H4 ?_
    walk_at "one"
    rename At _ _ _ _ _ _ _ _ _ _ _ => H5
    refine ⟨_, _, _, H5, fun s5 H6 => ?_⟩
    have lhs2 : hs.length < 9000000 := by omega
    walk_at "go"
    · rename At _ _ _ _ _ _ _ _ _ _ _ => H7
      refine back (H7.sub (σ' := ((gt, .ints got) :: (rt, .ints (rs)) :: (tb, .idict (cd (T))) :: (ars, .refs [a1, a2]) :: (cellsL (T) ++ arL a1 (X1) (arL a2 (X2) σ)))) (by walk_at "sub")) fun HB => ⟨rfl, got, T, X1, X2, HB, Nat.le_refl _, rfl, F, G1, G2⟩
    · rename_i hne
      have hne' : hs ≠ [] := of_decide_eq_false hne
      have hpos : 0 < hs.length := List.length_pos_iff.mpr hne'
      walk_at "go"
      rename At _ _ _ _ _ _ _ _ _ _ _ => H7
      replace H7 := H7.sub (σ' := (gt, .ints got) :: (D, .ints hs) :: (Rc, .ints ms) :: ((L' : Nat) + 1, .cell (some (.ref tb))) :: (rt, .ints (rs)) :: (tb, .idict (cd (T))) :: (ars, .refs [a1, a2]) :: (cellsL (T) ++ arL a1 (X1) (arL a2 (X2) σ))) (by walk_at "sub")
      refine use_call (c_take (got := got) (most := (hs.length : Int)) (Ok.mono (ok.deeper _) (by decide)) (by first | exact H7 | exact H7.toks) (by omega) (by omega)) ?_
      rintro _ s8 ⟨r, t1, got1, rfl, g0, g1, glen, H8⟩
      have hmem : hs.getD r.toNat 0 ∈ hs := by
        rw [List.getD_eq_getElem?_getD, List.getElem?_eq_getElem (by omega)]; exact List.getElem_mem _
      obtain ⟨hm1, hm2⟩ := hhs _ hmem
      have lead1 := (hl _).mp hm1
      obtain ⟨q, hq, hqe⟩ := key_cell (F.lead lead1)
      have hv := valueAt_cd ndk hq
      rw [hqe] at hv
      have hcb : (q.2.1, Sp.ints q.2.2) ∈ (cellsL T ++ arL a1 X1 (arL a2 X2 σ)) := List.mem_append_left _ (mem_cellsL hq)
      have hq2 : 0 < q.2.2.length := List.length_pos_iff.mpr (hm2 q hq hqe)
      have hq3 := F.sz q hq
      walk_at "go"
      rename At _ _ _ _ _ _ _ _ _ _ _ => H9
      refine use_call (c_take (got := got1) (most := (q.2.2.length : Int)) (Ok.mono (ok.deeper _) (by decide)) (by first | exact H9 | exact H9.toks) (by omega) (by omega)) ?_
      rintro _ sA ⟨r2, t2, got2, rfl, k0, k1, klen, HA⟩
      obtain ⟨k, rfl⟩ := Int.eq_ofNat_of_zero_le k0
      have lms2 : ms.length < 9000000 := by omega
      have hmpos : 0 < ms.length := List.length_pos_of_mem hm1
      walk_at "go"
      rename At _ _ _ _ _ _ _ _ _ _ _ => HB
      refine use_call (c_take (got := got2) (most := (ms.length : Int)) (Ok.mono (ok.deeper _) (by decide)) (by first | exact HB | exact HB.toks) (by omega) (by omega)) ?_
      rintro _ sC ⟨r3, t3, got3, rfl, p0, p1, plen, HC⟩
      walk_at "go"
      rename At _ _ _ _ _ _ _ _ _ _ _ => HD
      have hpm : ms.getD r3.toNat 0 ∈ ms := by
        rw [List.getD_eq_getElem?_getD, List.getElem?_eq_getElem (by omega)]; exact List.getElem_mem _
      obtain ⟨part, hpart⟩ : ∃ x, x = ms.getD r3.toNat 0 := ⟨_, rfl⟩
      rw [← hpart] at HD hpm ⊢
      have lead2 := (hl _).mp hpm
      rw [← hqe] at HD lead1
      refine r_set_ints (ns := q.2.2) HD (.tail (.tail (.tail (.tail (.tail (.tail (.tail (.left (up_cell (f := fun l => l.set (k : Int).toNat part) ndk hq))))))))) (by omega) (by omega) (by omega) ?_
      intro sE HE
      walk_at "go"
      obtain ⟨u1, u3, HE2⟩ : ∃ u1 u3, AtL w O g' L' [("other", .int part u3), ("place", .int (k : Int) t2), ("owned", .int q.1 u1), ("arenas", .ref ars)] _ sE := ⟨_, _, HE.loc (by walk_at "lsub")⟩
      replace HE := HE2.sub (σ' := ((gt, .ints got3) :: (rt, .ints (rs)) :: (tb, .idict (cd (setCell T q.1 fun l => l.set k part))) :: (ars, .refs [a1, a2]) :: (cellsL (setCell T q.1 fun l => l.set k part) ++ arL a1 (X1) (arL a2 (X2) σ)))) (by rw [cd_setCell, Int.toNat_natCast]; walk_at "sub")
      refine for_two (fun b Z b' Z' => ((gt, .ints got3) :: (rt, .ints rs) :: (tb, .idict (cd (setCell T q.1 fun l => l.set k part))) :: (ars, .refs [a1, a2]) :: (cellsL (setCell T q.1 fun l => l.set k part) ++ arL b Z (arL b' Z' σ)))) (fun Y => Agree T rs Y) (fun Y => Agree (setCell T q.1 fun l => l.set k part) rs Y) HE hh (fun b Z b' Z' => by walk_at "mem") (fun b Z b' Z' => by walk_at "sub") G1 G2 ?_ ?_
      · rintro it kk b b' Y Y' s9 G HF
        obtain ⟨q', hq', e1, e2⟩ := G.same q hq lead1
        walk_at "go"
        replace HF := HF.sub (σ' := arL b Y ((it, listIt ars kk) :: (gt, .ints got3) :: (rt, .ints rs) :: (tb, .idict (cd (setCell T q.1 fun l => l.set k part))) :: (ars, .refs [a1, a2]) :: (cellsL (setCell T q.1 fun l => l.set k part) ++ arL b' Y' σ))) (by walk_at "sub")
        refine use_call (c_write' (X := Y) e1 (Ok.mono (ok.deeper _) (by decide)) (by first | exact HF | exact HF.toks) G.inv hq' (by rw [e2]; omega)) ?_
        rintro _ sG ⟨X', rfl, HG, WT⟩
        walk_at "go"
        have GG := G.write F WT lead1 lead2
        exact hold ⟨_, (HG.loc (ρ' := [("other", .int part u3), ("place", .int (k : Int) t2), ("owned", .int q.1 u1), ("arenas", .ref ars)]) (by walk_at "lsub")).sub (σ' := (it, listIt ars kk) :: ((gt, .ints got3) :: (rt, .ints rs) :: (tb, .idict (cd (setCell T q.1 fun l => l.set k part))) :: (ars, .refs [a1, a2]) :: (cellsL (setCell T q.1 fun l => l.set k part) ++ arL b X' (arL b' Y' σ)))) (by walk_at "sub"), GG⟩
      · rintro Z1 Z2 s9 gg1 gg2 HF
        walk_at "go"
        refine back (HF.sub (σ' := ((gt, .ints got3) :: (rt, .ints (rs)) :: (tb, .idict (cd (setCell T q.1 fun l => l.set k part))) :: (ars, .refs [a1, a2]) :: (cellsL (setCell T q.1 fun l => l.set k part) ++ arL a1 (Z1) (arL a2 (Z2) σ)))) (by walk_at "sub")) fun HB => ⟨rfl, got3, _, Z1, Z2, HB, by omega, setCell_length _ _ _, F.write (F.lead lead2), gg1, gg2⟩

theorem cutS {M : Model} {E : Value → Shared → Prop} {st : Stmt} {rest : List Stmt} {env : Env} {Q : Flow → Shared → Prop} (J : Shared → Prop)
    (h1 : wpAny M A (exec st env) (fun f s' => match f with | .next => Hold (J s') | f => Q f s') (fun _ _ => False) s)
    (h2 : ∀ s', J s' → wpAny M A (execs rest env) Q E s') : wpAny M A (execs (st :: rest) env) Q E s :=
  wpAny_execs_cons (wpAny_mono h1 (fun f s' h => by cases f with
    | next => exact h2 s' h
    | cont => exact h
    | brk => exact h
    | ret v => exact h) (fun _ _ e => e.elim))

theorem cutN {M : Model} {E : Value → Shared → Prop} {st : Stmt} {rest : List Stmt} {env : Env} {Q : Flow → Shared → Prop} (J : Shared → Prop)
    (h1 : wpAny M A (exec st env) (fun f s' => match f with | .next => Hold (J s') | _ => False) (fun _ _ => False) s)
    (h2 : ∀ s', J s' → wpAny M A (execs rest env) Q E s') : wpAny M A (execs (st :: rest) env) Q E s :=
  wpAny_execs_cons (wpAny_mono h1 (fun f s' h => by cases f with
    | next => exact h2 s' h
    | _ => exact h.elim) (fun _ _ e => e.elim))

theorem ret_mono {M : Model} {c : Code} {P P' : Value → Shared → Prop} (h : codeAny M A c (Ret P) s) (k : ∀ v s', P v s' → P' v s') : codeAny M A c (Ret P') s :=
  codeAny_mono h fun r s' hr => by
    cases r with
    | error e => exact hr
    | ok f => cases f with
      | ret v => exact k v s' hr
      | _ => exact hr

/-- a range loop that may be left early: one word of the end for both -/
theorem for_range_b {prog : Program} {K : Frag} {p : Program} {lo : List Str} {r : Addr} {t₁ t₂ t₃ : Tok} {n : Nat} {x : Str} {xp : Pos} {body : List Stmt} {env : Env} {Q : Flow → Shared → Prop} {Er E : Value → Shared → Prop}
    (H : At prog w K p lo O g L ρ ((r, .obj { cls := .type "range", data := .fields #[.int 0 t₁, .int n t₂, .int 1 t₃] }) :: σ) s) (hn : n < 9000000) (hh : A.handled = none) (I : Nat → Locs → Ledger → Prop) (I' : Locs → Ledger → Prop) (hI : ∀ ρ σ, I n ρ σ → I' ρ σ) (h0 : I 0 ρ σ)
    (turn : ∀ it i ρ σ s t, i < n → I i ρ σ → At prog w K p lo O g L ((x, .int (i : Int) t) :: ρ) ((it, rangeIt n (i + 1)) :: σ) s →
      wpAny (model prog w) A (execs body env) (fun f s' => match f with
        | .next | .cont => Hold (∃ ρ' σ', At prog w K p lo O g L ρ' ((it, rangeIt n (i + 1)) :: σ') s' ∧ I (i + 1) ρ' σ')
        | .brk => Hold (∃ ρ' σ', At prog w K p lo O g L ρ' σ' s' ∧ I' ρ' σ')
        | .ret v => Q (.ret v) s') (fun _ _ => False) s)
    (fin : ∀ ρ σ s, I' ρ σ → At prog w K p lo O g L ρ σ s → Q .next s)
    (hL : env.locals = L := by rfl) (hk : env.scope.kind = .function := by rfl) (hx : env.kindOf x = some .local := by rfl) :
    wpAny (model prog w) A (pyIter (.ref r)) (fun it s₂ => codeAny (model prog w) A (.forLoop (.Name x xp) it body [] env) (fun r s' => match r with | .ok f => Q f s' | .error e => Er e s') s₂) E s := by
  refine for_range H hn hh I h0 (fun it i ρ σ s t hi hI' H' => ?_) (fun ρ σ s hI' H' => fin ρ σ s (hI _ _ hI') H') hL hk hx
  refine wpAny_mono (turn it i ρ σ s t hi hI' H') (fun f s' hf => ?_) fun _ _ e => e
  cases f with
  | next => exact hf
  | cont => exact hf
  | brk => obtain ⟨ρ', σ', H2, h2⟩ := hf; exact fin ρ' σ' s' h2 H2
  | ret v => exact hf

theorem Agree.init {X : AR} {y : Int} (h : X.new y 500) : Agree [] [] X := by
  obtain ⟨h1, h2, h3, h4, h5, h6, h7⟩ := h
  refine ⟨⟨?_, ?_, ?_, ?_, ?_, ?_, ?_, ?_, ?_, ?_⟩, h2, by rw [h7]; rfl, by rw [h3]; rfl, (fun q hq => nomatch hq), by rw [h4]; exact Nat.le_refl _⟩
  · rw [h5]; exact fun _ h => nomatch h
  · rw [h6]; exact fun _ h => nomatch h
  · rw [h4]; exact fun _ h => nomatch h
  · rw [h4]; exact fun _ h => nomatch h
  · rw [h4]; exact fun _ h => nomatch h
  · rw [h7]; exact fun _ h => nomatch h
  · rw [h4]; decide
  · rw [h4]; exact fun _ h => nomatch h
  · rw [h7]; decide
  · rw [h7]; exact fun _ h => nomatch h
theorem mem_arL_cells {a : Addr} {X : AR} {τ : Ledger} {q : Int × Addr × List Int} (hq : q ∈ X.cs) : (q.2.1, Sp.ints q.2.2) ∈ arL a X τ :=
  .tail _ (.tail _ (.tail _ (.tail _ (.tail _ (.tail _ (List.mem_append_right _ (List.mem_append_left _ (mem_cellsL hq))))))))
theorem mem_arL_rest {a : Addr} {X : AR} {τ : Ledger} {y : Addr × Sp} (h : y ∈ τ) : y ∈ arL a X τ :=
  .tail _ (.tail _ (.tail _ (.tail _ (.tail _ (.tail _ (List.mem_append_right _ (List.mem_append_right _ h)))))))
/-- a call from the ground -/
theorem call_top {prog : Program} {K : Frag} {p : Program} {lo : List Str} {R : Result → Shared → Prop} {name qual : Str} {params : Arguments} {body : List Stmt} {scope : Scope} {dV kV doc pm cdv ct oc : Value} {an od : Option Addr} {osl : Array (Option Value)} {f : Addr} {args : Args} {binds : List (Str × Value)}
    (S : Stat K p lo s.heap) (hg : s.gens = #[])
    (ho : K.lookup f = some ⟨oc, od, .func (fnOf name qual params body scope dV kV doc pm an cdv ct), osl⟩) (hcd : codeIn K cdv qual = true) (hroom : A.depth < recursionLimit)
    (hbind : BindsTo s (fnOf name qual params body scope dV kV doc pm an cdv ct) args binds) (hloc : ∀ y ∈ binds, scope.names.lookup y.1 = some .local)
    (h : ∀ L' s', At prog w K p lo s.os s.heap L' binds.reverse [] s' →
      wpAny (model prog w) (A.deeper (envOf qual scope L' f cdv)) (execs body (envOf qual scope L' f cdv)) (fun fl s'' => R (.ok (.ret (match fl with | .ret v => v | _ => .none))) s'') (fun _ _ => False) s')
    (hco : scope.isCoroutine = false := by rfl) (hgen : scope.isGenerator = false := by rfl) (hk : scope.kind = .function := by rfl)
    (hcell : ∀ x ∈ scope.names, x.2 ≠ .cell := by decide) : codeAny (model prog w) A (.call (.ref f) args) R s := by
  refine codeAny_call_def (fd := fnOf name qual params body scope dV kV doc pm an cdv ct) (body := body) (binds := binds) hroom (S.X _ _ ho) rfl S.nolimit (codeRec_of S.X hcd) rfl hbind hcell hloc (fun h₁ hns hk₁ => ?_) hco hgen hk
  refine wpAny_mono (h s.heap.objs.size _ ⟨⟨_, ⟨hns, hk₁, Nat.le_refl _⟩, fun x v e => e⟩, ⟨(fun _ hq => nomatch hq), (fun _ hq => nomatch hq), (fun _ hq => nomatch hq), (fun _ hq => nomatch hq), List.nodup_nil⟩, hg, rfl, S⟩) (fun fl s' hl => hl) fun _ _ e => e.elim

theorem Fit.init : Fit [] [] := ⟨.nil, (fun _ h => nomatch h), (fun _ h => nomatch h), (fun _ h => nomatch h), fun _ h => nomatch h⟩


theorem c_law {sc : Addr} {vs : List Value} {ns : List Int} (ok : Ok A 20) (S0 : Stat (Mine.hd.heap_39 w.params) Mine.hd.view_39 (looseW Mine.hd.view_39 []) s.heap) (hg0 : s.gens = #[]) (hsc : s.heap.IsList sc vs.toArray) (hi : IntsAre vs ns) (hz0 : ns.length < 9000000) :
    codeAny (model PP w) A (.call (.ref 198) ⟨[.ref sc], []⟩) (Ret fun v s' => v = .bool true ∧ ∃ L ρ σ', AtL w s.os s.heap L ρ σ' s') s := by
  have hh := ok.hh
  generalize hO : s.os = O
  generalize hgg : s.heap = g'
  refine' call_top (binds := [("script", .ref sc)]) S0 hg0 ?ho ?hcd (ok_room ok) ?hbind ?hloc ?_ ?c1 ?c2 ?c3 ?c4
  case ho => k_is
  case hcd => k_is
  case hbind => exact BindsTo.of_eq rfl
  case hloc => exact locs rfl
  case c1 => rfl
  case c2 => rfl
  case c3 => rfl
  case c4 => decide
  intro L' s' H'
  replace H' : AtL w _ _ L' [("script", .ref sc)] _ s' := H'
  rw [hO, hgg] at H'
  have hsc' : g'.IsList sc vs.toArray := hgg ▸ hsc
  walk_at "go"
  refine use_call (c_spread (Ok.mono (ok.deeper _) (by decide)) H' hsc' hi hz0) ?_
  rintro _ s2 ⟨gt, got, rfl, hgot, H2⟩
  walk_at "go"
  rename At _ _ _ _ _ _ _ _ _ _ _ => H3
  refine use_call (c_take (got := got) (most := 6) (Ok.mono (ok.deeper _) (by decide)) (by first | exact H3 | exact H3.toks) (by omega) (by decide)) ?_
  rintro _ s4 ⟨y, t1, got1, rfl, y0, y1, hlen, H4⟩
  walk_at "go"
  rename At _ _ _ _ _ _ _ _ _ _ _ => H5
  refine r_make (C := 126) (fI := 60) (by first | exact H5 | exact H5.toks) (.head _) (by k_is) (by k_is) (by k_is) ?_
  intro a1 d1 s6 H6
  refine ret_mono (c_init (ok_make (Ok.mono (ok.deeper _) (by decide) : Ok _ (1 + 1))) H6) ?_
  rintro v s7 ⟨rfl, X1, H7, N1⟩
  refine ⟨rfl, ?_⟩
  walk_at "go"
  refine r_make (C := 126) (fI := 60) (by first | exact H7 | exact H7.toks) (.head _) (by k_is) (by k_is) (by k_is) ?_
  intro a2 d2 s8 H8
  refine ret_mono (c_init (ok_make (Ok.mono (ok.deeper _) (by decide) : Ok _ (1 + 1))) H8) ?_
  rintro v s9 ⟨rfl, X2, H9, N2⟩
  refine ⟨rfl, ?_⟩
  walk_at "go"
  refine r_newList_refs [a1, a2] (by first | exact H9 | exact H9.toks) rfl (by simp) ?_
  intro ars sA HA
  walk_at "go"
  rename At _ _ _ _ _ _ _ _ _ _ _ => HB
  rename_i tb _ _ _ _ rt _ _ _ _ R u1 u2 u3 _
  have HC : AtL w O g' L' [("roots", .ref rt), ("table", .ref tb), ("arenas", .ref ars), ("got", .ref gt)] ((R, .obj { cls := .type "range", data := .fields #[.int 0 u1, .int ((25 : Nat) : Int) u2, .int 1 u3] }) :: (rt, .ints []) :: (tb, .idict (cd [])) :: (ars, .refs [a1, a2]) :: arL a2 X2 (arL a1 X1 [(gt, .ints got1)])) _ := HB.loc (by walk_at "lsub")
  replace HC := HC.sub (σ' := (R, .obj { cls := .type "range", data := .fields #[.int 0 u1, .int ((25 : Nat) : Int) u2, .int 1 u3] }) :: ((gt, .ints got1) :: (rt, .ints ([])) :: (tb, .idict (cd ([]))) :: (ars, .refs [a1, a2]) :: (cellsL ([]) ++ arL a1 (X1) (arL a2 (X2) [])))) (by rw [show cellsL ([] : CS) = ([] : Ledger) from rfl, List.nil_append]; walk_at "sub")
  refine for_range_b HC (by decide) hh (fun i (ρ' : Locs) (σ' : Ledger) => ρ' = ([("roots", .ref rt), ("table", .ref tb), ("arenas", .ref ars), ("got", .ref gt)] : Locs) ∧ ∃ got rs T X1 X2, σ' = ((gt, .ints got) :: (rt, .ints (rs)) :: (tb, .idict (cd (T))) :: (ars, .refs [a1, a2]) :: (cellsL (T) ++ arL a1 (X1) (arL a2 (X2) []))) ∧ got.length < 300 ∧ T.length ≤ i ∧ Fit T rs ∧ Agree T rs X1 ∧ Agree T rs X2)
    (fun (ρ' : Locs) (σ' : Ledger) => ρ' = ([("roots", .ref rt), ("table", .ref tb), ("arenas", .ref ars), ("got", .ref gt)] : Locs) ∧ ∃ got rs T X1 X2, σ' = ((gt, .ints got) :: (rt, .ints (rs)) :: (tb, .idict (cd (T))) :: (ars, .refs [a1, a2]) :: (cellsL (T) ++ arL a1 (X1) (arL a2 (X2) []))) ∧ got.length < 300 ∧ T.length ≤ 25 ∧ Fit T rs ∧ Agree T rs X1 ∧ Agree T rs X2)
    (fun _ _ h => h) ⟨rfl, got1, [], [], X1, X2, rfl, by omega, Nat.le_refl _, Fit.init, Agree.init N1, Agree.init N2⟩ ?_ ?_
  · rintro it i ρ' σ' s3 tk hi ⟨rfl, got, rs, T, X1, X2, rfl, hgot, hT, F, G1, G2⟩ H3
    replace H3 := (H3.loc (ρ' := [("roots", .ref rt), ("table", .ref tb), ("arenas", .ref ars), ("got", .ref gt)]) (by walk_at "lsub")).sub (σ' := ((gt, .ints got) :: (rt, .ints (rs)) :: (tb, .idict (cd (T))) :: (ars, .refs [a1, a2]) :: (cellsL (T) ++ arL a1 (X1) (arL a2 (X2) ((it, rangeIt 25 (i + 1)) :: []))))) (by walk_at "sub")
    refine cutS (fun s' => ∃ got rs T X1 X2, AtL w O g' L' ([("roots", .ref rt), ("table", .ref tb), ("arenas", .ref ars), ("got", .ref gt)]) ((gt, .ints got) :: (rt, .ints (rs)) :: (tb, .idict (cd (T))) :: (ars, .refs [a1, a2]) :: (cellsL (T) ++ arL a1 (X1) (arL a2 (X2) ((it, rangeIt 25 (i + 1)) :: [])))) s' ∧ got.length < 300 ∧ T.length ≤ i ∧ Fit T rs ∧ Agree T rs X1 ∧ Agree T rs X2) ?_ ?_
    · walk_at "go"
      · rename At _ _ _ _ _ _ _ _ _ _ _ => H4
        exact hold ⟨_, _, H4.sub (σ' := ((gt, .ints got) :: (rt, .ints (rs)) :: (tb, .idict (cd (T))) :: (ars, .refs [a1, a2]) :: (cellsL (T) ++ arL a1 (X1) (arL a2 (X2) [])))) (by walk_at "sub"), rfl, got, rs, T, X1, X2, rfl, hgot, by omega, F, G1, G2⟩
      · rename At _ _ _ _ _ _ _ _ _ _ _ => H4
        walk_at "go"
        exact hold ⟨got, rs, T, X1, X2, H4.drop, hgot, hT, F, G1, G2⟩
    clear H3 hT F G1 G2 hgot got rs T X1 X2
    rintro s4 ⟨got, rs, T, X1, X2, H4, hgot, hT, F, G1, G2⟩
    refine cutN (fun s' => ∃ dv td got rs T X1 X2, AtL w O g' L' (("deed", .int dv td) :: [("roots", .ref rt), ("table", .ref tb), ("arenas", .ref ars), ("got", .ref gt)]) ((gt, .ints got) :: (rt, .ints (rs)) :: (tb, .idict (cd (T))) :: (ars, .refs [a1, a2]) :: (cellsL (T) ++ arL a1 (X1) (arL a2 (X2) ((it, rangeIt 25 (i + 1)) :: [])))) s' ∧ got.length < 300 ∧ T.length ≤ i ∧ Fit T rs ∧ Agree T rs X1 ∧ Agree T rs X2) ?_ ?_
    · walk_at "go"
      refine use_call (c_take (got := got) (most := 8) (Ok.mono (ok.deeper _) (by decide)) (by first | exact H4 | exact H4.toks) (by omega) (by decide)) ?_
      rintro _ s5 ⟨dv, td, got3, rfl, d0, d1, dlen, H5⟩
      walk_at "go"
      rename At _ _ _ _ _ _ _ _ _ _ _ => H6
      exact hold ⟨dv, td, got3, rs, T, X1, X2, H6, by omega, hT, F, G1, G2⟩
    clear H4 hT F G1 G2 hgot got rs T X1 X2
    rintro s5 ⟨dv, td, got, rs, T, X1, X2, H5, hgot, hT, F, G1, G2⟩
    refine cutN (fun s' => ∃ dv td got rs T X1 X2, AtL w O g' L' (("deed", .int dv td) :: [("roots", .ref rt), ("table", .ref tb), ("arenas", .ref ars), ("got", .ref gt)]) ((gt, .ints got) :: (rt, .ints (rs)) :: (tb, .idict (cd (T))) :: (ars, .refs [a1, a2]) :: (cellsL (T) ++ arL a1 (X1) (arL a2 (X2) ((it, rangeIt 25 (i + 1)) :: [])))) s' ∧ got.length < 300 ∧ T.length ≤ i + 1 ∧ Fit T rs ∧ Agree T rs X1 ∧ Agree T rs X2) ?_ ?_
    · walk_at "go"
      · refine use_call (c_make (Ok.mono (ok.deeper _) (by decide)) (by first | exact H5 | exact H5.toks) hgot F G1 G2 (by omega)) ?_
        rintro _ s6 ⟨rfl, got', rs', T', X1', X2', H6, gl, tl, F', G1', G2'⟩
        walk_at "go"
        exact hold ⟨dv, td, got', rs', T', X1', X2', by first | exact H6 | exact H6.toks, by omega, by omega, F', G1', G2'⟩
      · walk_at "go"
        exact hold ⟨dv, td, got, rs, T, X1, X2, by first | exact H5 | exact H5.toks, hgot, by omega, F, G1, G2⟩
    clear H5 hT F G1 G2 hgot got rs T X1 X2 dv td
    rintro s6 ⟨dv, td, got, rs, T, X1, X2, H6, hgot, hT, F, G1, G2⟩
    refine cutN (fun s' => ∃ dv td got rs T X1 X2, AtL w O g' L' (("deed", .int dv td) :: [("roots", .ref rt), ("table", .ref tb), ("arenas", .ref ars), ("got", .ref gt)]) ((gt, .ints got) :: (rt, .ints (rs)) :: (tb, .idict (cd (T))) :: (ars, .refs [a1, a2]) :: (cellsL (T) ++ arL a1 (X1) (arL a2 (X2) ((it, rangeIt 25 (i + 1)) :: [])))) s' ∧ got.length < 300 ∧ T.length ≤ i + 1 ∧ Fit T rs ∧ Agree T rs X1 ∧ Agree T rs X2) ?_ ?_
    · walk_at "go"
      · rename At _ _ _ _ _ _ _ _ _ _ _ => H7
        refine use_call (c_lwrite (Ok.mono (ok.deeper _) (by decide)) (by first | exact H7.drop | exact H7.drop.toks) hgot F G1 G2 (by omega)) ?_
        rintro _ s8 ⟨rfl, got', T', X1', X2', H8, gl, tl, F', G1', G2'⟩
        walk_at "go"
        exact hold ⟨dv, td, got', rs, T', X1', X2', by first | exact H8 | exact H8.toks, by omega, by omega, F', G1', G2'⟩
      · rename At _ _ _ _ _ _ _ _ _ _ _ => H7
        walk_at "go"
        exact hold ⟨dv, td, got, rs, T, X1, X2, by first | exact H7.drop | exact H7.drop.toks, hgot, by omega, F, G1, G2⟩
    clear H6 hT F G1 G2 hgot got rs T X1 X2 dv td
    rintro s7 ⟨dv, td, got, rs, T, X1, X2, H7, hgot, hT, F, G1, G2⟩
    refine cutN (fun s' => ∃ got rs T X1 X2, AtL w O g' L' ([("roots", .ref rt), ("table", .ref tb), ("arenas", .ref ars), ("got", .ref gt)]) ((gt, .ints got) :: (rt, .ints (rs)) :: (tb, .idict (cd (T))) :: (ars, .refs [a1, a2]) :: (cellsL (T) ++ arL a1 (X1) (arL a2 (X2) ((it, rangeIt 25 (i + 1)) :: [])))) s' ∧ got.length < 300 ∧ T.length ≤ i + 1 ∧ Fit T rs ∧ Agree T rs X1 ∧ Agree T rs X2) ?_ ?_
    · have lrs := F.rlen
      walk_at "go"
      · rename At _ _ _ _ _ _ _ _ _ _ _ => H8
        exact hold ⟨got, rs, T, X1, X2, (H8.loc (ρ' := [("roots", .ref rt), ("table", .ref tb), ("arenas", .ref ars), ("got", .ref gt)]) (by walk_at "lsub")).drop, hgot, hT, F, G1, G2⟩
      · rename_i hne
        rcases List.eq_nil_or_concat rs with rfl | ⟨rs2, x, hrs⟩
        · exact absurd rfl (of_decide_eq_false hne)
        · rw [List.concat_eq_append] at hrs
          subst hrs
          have lrs2 : rs2.length < 9000000 := by rw [List.length_append] at lrs; omega
          walk_at "go"
          rename At _ _ _ _ _ _ _ _ _ _ _ => H8
          replace H8 := (H8.loc (ρ' := [("roots", .ref rt), ("table", .ref tb), ("arenas", .ref ars), ("got", .ref gt)]) (by walk_at "lsub")).sub (σ' := ((gt, .ints got) :: (rt, .ints (rs2)) :: (tb, .idict (cd (T))) :: (ars, .refs [a1, a2]) :: (cellsL (T) ++ arL a1 (X1) (arL a2 (X2) ((it, rangeIt 25 (i + 1)) :: []))))) (by walk_at "sub")
          refine for_two (fun b Z b' Z' => ((gt, .ints got) :: (rt, .ints rs2) :: (tb, .idict (cd T)) :: (ars, .refs [a1, a2]) :: (cellsL T ++ arL b Z (arL b' Z' ((it, rangeIt 25 (i + 1)) :: []))))) (fun Y => Agree T (rs2 ++ [x]) Y) (fun Y => Agree T rs2 Y) H8 hh (fun b Z b' Z' => by walk_at "mem") (fun b Z b' Z' => by walk_at "sub") G1 G2 ?_ ?_
          · rintro it2 kk b b' Y Y' s9 G HF
            obtain ⟨R1, r1, hR, GG⟩ := G.pop F
            walk_at "go"
            replace HF := HF.sub (σ' := arL b Y ((it2, listIt ars kk) :: (gt, .ints got) :: (rt, .ints rs2) :: (tb, .idict (cd T)) :: (ars, .refs [a1, a2]) :: (cellsL T ++ arL b' Y' ((it, rangeIt 25 (i + 1)) :: [])))) (by walk_at "sub")
            refine use_call (c_pop (X := Y) (Ok.mono (ok.deeper _) (by decide)) (by first | exact HF | exact HF.toks) G.inv hR) ?_
            rintro _ sG ⟨rfl, HG⟩
            walk_at "go"
            exact hold ⟨_, (HG.loc (ρ' := [("roots", .ref rt), ("table", .ref tb), ("arenas", .ref ars), ("got", .ref gt)]) (by walk_at "lsub")).sub (σ' := (it2, listIt ars kk) :: ((gt, .ints got) :: (rt, .ints rs2) :: (tb, .idict (cd T)) :: (ars, .refs [a1, a2]) :: (cellsL T ++ arL b { Y with rows := R1 } (arL b' Y' ((it, rangeIt 25 (i + 1)) :: []))))) (by walk_at "sub"), GG⟩
          · rintro Z1 Z2 s9 gg1 gg2 HF
            walk_at "go"
            exact hold ⟨got, rs2, T, Z1, Z2, HF, hgot, hT, F.pop, gg1, gg2⟩
      · walk_at "go"
        exact hold ⟨got, rs, T, X1, X2, (by first | exact H7 | exact H7.toks : AtL w O g' L' _ _ _).loc (ρ' := [("roots", .ref rt), ("table", .ref tb), ("arenas", .ref ars), ("got", .ref gt)]) (by walk_at "lsub"), hgot, hT, F, G1, G2⟩
    clear H7 hT F G1 G2 hgot got rs T X1 X2 dv td
    rintro s8 ⟨got, rs, T, X1, X2, H8, hgot, hT, F, G1, G2⟩
    refine cutN (fun s' => ∃ dv td got rs T X1 X2, AtL w O g' L' (("more", .int dv td) :: [("roots", .ref rt), ("table", .ref tb), ("arenas", .ref ars), ("got", .ref gt)]) ((gt, .ints got) :: (rt, .ints (rs)) :: (tb, .idict (cd (T))) :: (ars, .refs [a1, a2]) :: (cellsL (T) ++ arL a1 (X1) (arL a2 (X2) ((it, rangeIt 25 (i + 1)) :: [])))) s' ∧ got.length < 300 ∧ T.length ≤ i + 1 ∧ Fit T rs ∧ Agree T rs X1 ∧ Agree T rs X2) ?_ ?_
    · walk_at "go"
      refine use_call (c_take (got := got) (most := 4) (Ok.mono (ok.deeper _) (by decide)) (by first | exact H8 | exact H8.toks) (by omega) (by decide)) ?_
      rintro _ s5 ⟨dv, td, got3, rfl, d0, d1, dlen, H5⟩
      walk_at "go"
      rename At _ _ _ _ _ _ _ _ _ _ _ => H6
      exact hold ⟨dv, td, got3, rs, T, X1, X2, H6, by omega, hT, F, G1, G2⟩
    clear H8 hT F G1 G2 hgot got rs T X1 X2
    rintro s9 ⟨dv, td, got, rs, T, X1, X2, H9, hgot, hT, F, G1, G2⟩
    refine cutN (fun s' => ∃ dv td got rs T X1 X2, AtL w O g' L' (("more", .int dv td) :: [("roots", .ref rt), ("table", .ref tb), ("arenas", .ref ars), ("got", .ref gt)]) ((gt, .ints got) :: (rt, .ints (rs)) :: (tb, .idict (cd (T))) :: (ars, .refs [a1, a2]) :: (cellsL (T) ++ arL a1 (X1) (arL a2 (X2) ((it, rangeIt 25 (i + 1)) :: [])))) s' ∧ got.length < 300 ∧ T.length ≤ i + 1 ∧ Fit T rs ∧ Agree T rs X1 ∧ Agree T rs X2) ?_ ?_
    · walk_at "go"
      · replace H9 := H9.sub (σ' := arL a2 X2 ((gt, .ints got) :: (rt, .ints (rs)) :: (tb, .idict (cd (T))) :: (ars, .refs [a1, a2]) :: (cellsL (T) ++ arL a1 X1 ((it, rangeIt 25 (i + 1)) :: [])))) (by walk_at "sub")
        refine use_call (c_minor (Ok.mono (ok.deeper _) (by decide)) (by first | exact H9 | exact H9.toks | exact H9.toks.toks) G2.inv) ?_
        rintro _ sG ⟨X', ks, rfl, HG, MT⟩
        walk_at "go"
        exact hold ⟨dv, td, got, rs, T, X1, X', (by first | exact HG | exact HG.toks : AtL w O g' L' _ _ _).sub (by walk_at "sub"), hgot, hT, F, G1, G2.minor MT⟩
      · walk_at "go"
        exact hold ⟨dv, td, got, rs, T, X1, X2, by first | exact H9 | exact H9.toks, hgot, hT, F, G1, G2⟩
    clear H9 hT F G1 G2 hgot got rs T X1 X2 dv td
    rintro sA ⟨dv, td, got, rs, T, X1, X2, HA2, hgot, hT, F, G1, G2⟩
    refine cutN (fun s' => ∃ got rs T X1 X2, AtL w O g' L' ([("roots", .ref rt), ("table", .ref tb), ("arenas", .ref ars), ("got", .ref gt)]) ((gt, .ints got) :: (rt, .ints (rs)) :: (tb, .idict (cd (T))) :: (ars, .refs [a1, a2]) :: (cellsL (T) ++ arL a1 (X1) (arL a2 (X2) ((it, rangeIt 25 (i + 1)) :: [])))) s' ∧ got.length < 300 ∧ T.length ≤ i + 1 ∧ Fit T rs ∧ Agree T rs X1 ∧ Agree T rs X2) ?_ ?_
    · walk_at "go"
      · replace HA2 := HA2.sub (σ' := arL a2 X2 ((gt, .ints got) :: (rt, .ints (rs)) :: (tb, .idict (cd (T))) :: (ars, .refs [a1, a2]) :: (cellsL (T) ++ arL a1 X1 ((it, rangeIt 25 (i + 1)) :: [])))) (by walk_at "sub")
        refine use_call (c_full (Ok.mono (ok.deeper _) (by decide)) (by first | exact HA2 | exact HA2.toks | exact HA2.toks.toks) G2.inv) ?_
        rintro _ sG ⟨X', ks, rfl, HG, MT⟩
        walk_at "go"
        exact hold ⟨got, rs, T, X1, X', ((by first | exact HG | exact HG.toks : AtL w O g' L' _ _ _).loc (ρ' := [("roots", .ref rt), ("table", .ref tb), ("arenas", .ref ars), ("got", .ref gt)]) (by walk_at "lsub")).sub (by walk_at "sub"), hgot, hT, F, G1, G2.full MT⟩
      · walk_at "go"
        exact hold ⟨got, rs, T, X1, X2, (by first | exact HA2 | exact HA2.toks : AtL w O g' L' _ _ _).loc (ρ' := [("roots", .ref rt), ("table", .ref tb), ("arenas", .ref ars), ("got", .ref gt)]) (by walk_at "lsub"), hgot, hT, F, G1, G2⟩
    clear HA2 hT F G1 G2 hgot got rs T X1 X2 dv td
    rintro sB ⟨got, rs, T, X1, X2, HB2, hgot, hT, F, G1, G2⟩
    walk_at "go"
    refine use_call (c_alike (Zs := [(a1, X1), (a2, X2)]) (T := T) (rs := rs) (Ok.mono (ok.deeper _) (by decide)) (by first | exact HB2 | exact HB2.toks) (by walk_at "mem") (fun q hq => .tail _ (.tail _ (.tail _ (.tail _ (List.mem_append_left _ (mem_cellsL hq)))))) (by walk_at "mem") (show (ars, Sp.refs [a1, a2]) ∈ _ from by walk_at "mem") ?_ F (by omega)) ?_
    · intro z hz
      rcases List.mem_cons.mp hz with rfl | hz
      · exact ⟨by walk_at "mem", by walk_at "mem", by walk_at "mem", fun q hq => .tail _ (.tail _ (.tail _ (.tail _ (List.mem_append_right _ (mem_arL_cells hq))))), G1.same⟩
      · rw [List.mem_singleton.mp hz]
        exact ⟨.tail _ (.tail _ (.tail _ (.tail _ (List.mem_append_right _ (mem_arL_rest (by walk_at "mem")))))), .tail _ (.tail _ (.tail _ (.tail _ (List.mem_append_right _ (mem_arL_rest (by walk_at "mem")))))), .tail _ (.tail _ (.tail _ (.tail _ (List.mem_append_right _ (mem_arL_rest (by walk_at "mem")))))), fun q hq => .tail _ (.tail _ (.tail _ (.tail _ (List.mem_append_right _ (mem_arL_rest (mem_arL_cells hq)))))), G2.same⟩
    rintro _ sD ⟨rfl, HD⟩
    walk_at "go"
    exact hold ⟨_, _, (by first | exact HD | exact HD.toks : AtL w O g' L' _ _ _).sub (σ' := (it, rangeIt 25 (i + 1)) :: ((gt, .ints got) :: (rt, .ints (rs)) :: (tb, .idict (cd (T))) :: (ars, .refs [a1, a2]) :: (cellsL (T) ++ arL a1 (X1) (arL a2 (X2) [])))) (by walk_at "sub"), rfl, got, rs, T, X1, X2, rfl, hgot, hT, F, G1, G2⟩
  · rintro ρ' σ' s3 ⟨rfl, got, rs, T, X1, X2, rfl, hgot, hT, F, G1, G2⟩ H3
    walk_at "go"
    refine use_call (c_reached (T := T) (rs := rs) (Ok.mono (ok.deeper _) (by decide)) (by first | exact H3 | exact H3.toks) (by walk_at "mem") (fun q hq => .tail _ (.tail _ (.tail _ (.tail _ (List.mem_append_left _ (mem_cellsL hq)))))) (by walk_at "mem") F.ndr F.rsub F.clo (by omega)) ?_
    rintro _ s4 ⟨Kp, ms, rfl, H4, pw, nd, hl⟩
    have lms : ms.length < 60 := by
      have := nodup_len nd (m := keys T) fun x hx => F.lead ((hl x).mp hx)
      rw [length_keys] at this; omega
    walk_at "go"
    rename At _ _ _ _ _ _ _ _ _ _ _ => H5
    replace H5 := (H5.loc (ρ' := [("kept", .ref Kp), ("roots", .ref rt), ("table", .ref tb), ("arenas", .ref ars)]) (by walk_at "lsub")).sub (σ' := (Kp, .ints ms) :: ((gt, .ints got) :: (rt, .ints (rs)) :: (tb, .idict (cd (T))) :: (ars, .refs [a1, a2]) :: (cellsL (T) ++ arL a1 (X1) (arL a2 (X2) [])))) (by walk_at "sub")
    refine for_two (fun b Z b' Z' => ((Kp, .ints ms) :: (gt, .ints got) :: (rt, .ints rs) :: (tb, .idict (cd T)) :: (ars, .refs [a1, a2]) :: (cellsL T ++ arL b Z (arL b' Z' [])))) (fun Y => Agree T rs Y) (fun Y => Agree T rs Y) H5 hh (fun b Z b' Z' => by walk_at "mem") (fun b Z b' Z' => by walk_at "sub") G1 G2 ?_ ?_
    · rintro it2 kk b b' Y Y' s9 G HF
      walk_at "go"
      replace HF := HF.sub (σ' := arL b Y ((it2, listIt ars kk) :: (Kp, .ints ms) :: (gt, .ints got) :: (rt, .ints rs) :: (tb, .idict (cd T)) :: (ars, .refs [a1, a2]) :: (cellsL T ++ arL b' Y' []))) (by walk_at "sub")
      refine use_call (c_full (X := Y) (Ok.mono (ok.deeper _) (by decide)) (by first | exact HF | exact HF.toks) G.inv) ?_
      rintro _ sG ⟨X', ks, rfl, HG, MT⟩
      have I' := MT.inv G.inv
      have z1 := I'.z1
      have fk := G.fullKeys F (nd_cs HF) MT
      have ndk' := nd_cs HG
      walk_at "go"
      · rename List.Perm _ _ => hp
        rename At _ _ _ _ _ _ _ _ _ _ _ => HH
        rename_i S2 ms2 _ _ heq
        rw [keys_cd] at hp
        have lk : ms2.length = X'.cs.length := by rw [hp.length_eq, length_keys]
        have hys : X'.ys = [] := MT.ys
        replace HH := HH.sub (σ' := arL b X' ((it2, listIt ars kk) :: (Kp, .ints ms) :: (gt, .ints got) :: (rt, .ints rs) :: (tb, .idict (cd T)) :: (ars, .refs [a1, a2]) :: (cellsL T ++ arL b' Y' []))) (by walk_at "sub")
        refine use_call (c_old_count (X := X') (Ok.mono (ok.deeper _) (by decide)) (by first | exact HH | exact HH.toks) I') ?_
        rintro _ sH ⟨⟨tq, rfl⟩, HI⟩
        walk_at "go"
        · exfalso
          rename_i hne
          refine hne ?_
          rw [hys, ← lk, heq, List.length_nil]; omega
        · rename At _ _ _ _ _ _ _ _ _ _ _ => HK
          walk_at "go"
          exact hold ⟨_, ((by first | exact HK | exact HK.toks : AtL w O g' L' _ _ _).loc (ρ' := [("kept", .ref Kp), ("roots", .ref rt), ("table", .ref tb), ("arenas", .ref ars)]) (by walk_at "lsub")).sub (σ' := (it2, listIt ars kk) :: ((Kp, .ints ms) :: (gt, .ints got) :: (rt, .ints rs) :: (tb, .idict (cd T)) :: (ars, .refs [a1, a2]) :: (cellsL T ++ arL b X' (arL b' Y' [])))) (by walk_at "sub"), G.full MT⟩
      · exfalso
        rename List.Perm _ _ => hp
        rename List.Pairwise _ _ => hpw
        rename_i ms2 _ _ hne
        rw [keys_cd] at hp
        refine absurd (sorted_eq hpw pw (hp.nodup_iff.mpr ndk') nd fun x => ?_) hne
        rw [hp.mem_iff, fk x, hl x]
    · rintro Z1 Z2 s9 gg1 gg2 HF
      walk_at "go"
      refine use_call (c_alike (Zs := [(a1, Z1), (a2, Z2)]) (T := T) (rs := rs) (Ok.mono (ok.deeper _) (by decide)) (by first | exact HF | exact HF.toks) (by walk_at "mem") (fun q hq => .tail _ (.tail _ (.tail _ (.tail _ (.tail _ (List.mem_append_left _ (mem_cellsL hq))))))) (by walk_at "mem") (show (ars, Sp.refs [a1, a2]) ∈ _ from by walk_at "mem") ?_ F (by omega)) ?_
      · intro z hz
        rcases List.mem_cons.mp hz with rfl | hz
        · exact ⟨by walk_at "mem", by walk_at "mem", by walk_at "mem", fun q hq => .tail _ (.tail _ (.tail _ (.tail _ (.tail _ (List.mem_append_right _ (mem_arL_cells hq)))))), gg1.same⟩
        · rw [List.mem_singleton.mp hz]
          exact ⟨.tail _ (.tail _ (.tail _ (.tail _ (.tail _ (List.mem_append_right _ (mem_arL_rest (by walk_at "mem"))))))), .tail _ (.tail _ (.tail _ (.tail _ (.tail _ (List.mem_append_right _ (mem_arL_rest (by walk_at "mem"))))))), .tail _ (.tail _ (.tail _ (.tail _ (.tail _ (List.mem_append_right _ (mem_arL_rest (by walk_at "mem"))))))), fun q hq => .tail _ (.tail _ (.tail _ (.tail _ (.tail _ (List.mem_append_right _ (mem_arL_rest (mem_arL_cells hq))))))), gg2.same⟩
      rintro _ sD ⟨rfl, HD⟩
      walk_at "go"
      exact ⟨rfl, _, _, _, by first | exact HD | exact HD.toks⟩

set_option maxHeartbeats 8000000 in
theorem main1 : PySem.Challenge.rw_ov0046_01.Holds := by
  refine Mine.hd ?_
  k_fill
  intro w s₀ s₁ mg mb G Y fa o pm cd doc dV kV ho hd hcd hD hmg hg args vals as hpre hlay hrd hwl hlo
  have KX := kIn_of Y
  refine Ground.open G ?_
  intro T B D TE TW
  have hfa : mg (Str.ofString "law") = some (.ref 198) := mg_of KX T.g (by k_is)
  have e1 : some (Value.ref fa) = some (.ref 198) := hmg.symm.trans hfa
  have e2 : fa = 198 := by injection e1 with e3; injection e3
  subst e2
  clear hmg
  wrow_args hpre hlay hrd hwl hlo
  clear hd hcd hD
  refine enter_call ?_
  rename_i hc _
  rename Heap.IsList _ _ _ => hL
  rename IntsAre _ _ => hI
  refine codeAny_mono ?_ (fun _ _ g => GoodW.toG g)
  refine codeAny_mono (c_law (A := callerA) ⟨rfl, by decide, by decide⟩ ⟨KX, _, _, _, T⟩ hg hL hI (by omega)) ?_
  intro r s' hr
  cases r with
  | error e => exact hr.elim
  | ok f => cases f with
    | ret v =>
      obtain ⟨rfl, L, ρ, σ', H⟩ := hr
      obtain ⟨m, F, _⟩ := H.fr
      refine goodW_bool F H.gens (raisesW_false ?_) ?_ H.os
      · wrow_none_raised
      · wrow_post
    | _ => exact hr.elim
end
end Mine

theorem PySem.Challenge.cw_ov0046_01_holds : PySem.Challenge.rw_ov0046_01.Holds := by
  exact Mine.main1
