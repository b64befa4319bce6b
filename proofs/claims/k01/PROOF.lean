import PyProof.Rows.All
import Wide.All
import OpenK.AllK
import Wide.FinOn
import HandS.ForMost
import HandS.ForExc
import HandS.TryMany
import HandS.Wide
import HandS.IsInst
import HandS.Defaults
import HandS.EndBits
import HandS.Head2
import HandS.HeadEnd
import HandS.HeadHook2
import HandS.HeadWalk
import HandS.Conv
import HandS.Finally
import PySem.Challenge.RW_gainstream_k01_divisor
set_option Elab.async false
set_option linter.all false
set_option maxRecDepth 100000
set_option maxHeartbeats 0
set_option autoImplicit false
namespace GS
open PySem PySem.Spec PyProof.Rows L2

/-! ## data as trees -/
inductive Md where
  | own | fz | br | vw
  deriving DecidableEq

inductive D where
  | non | bl (b : Bool) | int (i : Int) | str (x : Str)
  | tup (m : Md) (ds : List D)
  | lst (m : Md) (ds : List D)
  | dic (m : Md) (ks : List Key) (ds : List D)
  | ins (m : Md) (c : Nat) (fs : List Nat) (ds : List D)

def D.md : D → Md
  | .tup m _ => m
  | .lst m _ => m
  | .dic m _ _ => m
  | .ins m _ _ _ => m
  | _ => .fz

/-- may a node of mode m have a child of mode x -/
def chOk : Md → Md → Bool
  | .own, .own => true
  | .own, .fz => true
  | .fz, .fz => true
  | .br, .br => true
  | .br, .fz => true
  | .vw, .vw => true
  | .vw, .fz => true
  | .vw, .br => true
  | _, _ => false

mutual
/-- own nodes turned to mode n (n: vw, fz) -/
def D.own2 (n : Md) : D → D
  | .tup .own ds => .tup n (D.own2s n ds)
  | .lst .own ds => .lst n (D.own2s n ds)
  | .dic .own ks ds => .dic n ks (D.own2s n ds)
  | .ins .own c fs ds => .ins n c fs (D.own2s n ds)
  | d => d
def D.own2s (n : Md) : List D → List D
  | [] => []
  | d :: ds => D.own2 n d :: D.own2s n ds
end
mutual
/-- seen nodes turned to borrowed ones -/
def D.brd : D → D
  | .tup .vw ds => .tup .br (D.brds ds)
  | .lst .vw ds => .lst .br (D.brds ds)
  | .dic .vw ks ds => .dic .br ks (D.brds ds)
  | .ins .vw c fs ds => .ins .br c fs (D.brds ds)
  | d => d
def D.brds : List D → List D
  | [] => []
  | d :: ds => D.brd d :: D.brds ds
end
theorem own2s_map (n : Md) : ∀ ds, D.own2s n ds = ds.map (D.own2 n)
  | [] => rfl
  | d :: ds => by show D.own2 n d :: D.own2s n ds = _; rw [own2s_map n ds]; rfl
theorem brds_map : ∀ ds, D.brds ds = ds.map D.brd
  | [] => rfl
  | d :: ds => by show D.brd d :: D.brds ds = _; rw [brds_map ds]; rfl
theorem own2_id {n : Md} {d : D} (h : d.md ≠ .own) : d.own2 n = d := by
  cases d with
  | tup m ds => cases m <;> first | exact absurd rfl h | rfl
  | lst m ds => cases m <;> first | exact absurd rfl h | rfl
  | dic m ks ds => cases m <;> first | exact absurd rfl h | rfl
  | ins m c fs ds => cases m <;> first | exact absurd rfl h | rfl
  | _ => rfl
theorem brd_id {d : D} (h : d.md ≠ .vw) : d.brd = d := by
  cases d with
  | tup m ds => cases m <;> first | exact absurd rfl h | rfl
  | lst m ds => cases m <;> first | exact absurd rfl h | rfl
  | dic m ks ds => cases m <;> first | exact absurd rfl h | rfl
  | ins m c fs ds => cases m <;> first | exact absurd rfl h | rfl
  | _ => rfl
theorem own2_md {n : Md} {d : D} : (d.own2 n).md = if d.md = .own then n else d.md := by
  cases d with
  | tup m ds => cases m <;> rfl
  | lst m ds => cases m <;> rfl
  | dic m ks ds => cases m <;> rfl
  | ins m c fs ds => cases m <;> rfl
  | _ => rfl
theorem brd_md {d : D} : d.brd.md = if d.md = .vw then .br else d.md := by
  cases d with
  | tup m ds => cases m <;> rfl
  | lst m ds => cases m <;> rfl
  | dic m ks ds => cases m <;> rfl
  | ins m c fs ds => cases m <;> rfl
  | _ => rfl
/-- an argument as the callee sees it -/
def D.arg (d : D) : D := match d.md with
  | .own => d.own2 .fz
  | .vw => d.brd
  | _ => d
/-- may be kept (stored, returned) -/
def D.cl (d : D) : Bool := match d.md with
  | .own => true
  | .fz => true
  | _ => false

/-! ## what a tree is in the abstract heap -/
abbrev MM := Addr → Option Md
/-- the static names: attributes, classes -/
structure RC where
  K : PySem.W.Frag
  an : Nat → Str
  ca : Nat → Addr
/-- what stands at a, for a node of mode m -/
def MA (M : MM) (a : Addr) : Md → Prop
  | .own => M a = some .own
  | .fz => M a = some .fz
  | .br => M a = some .br ∨ M a = some .fz
  | .vw => M a = some .own ∨ M a = some .br ∨ M a = some .fz
theorem MA.ne_none {M : MM} {a : Addr} {m : Md} (h : MA M a m) : M a ≠ none := by
  cases m with
  | own => rw [show M a = _ from h]; simp
  | fz => rw [show M a = _ from h]; simp
  | br => rcases h with h | h <;> (rw [h]; simp)
  | vw => rcases h with h | h | h <;> (rw [h]; simp)
theorem MA.eq {M M' : MM} {a : Addr} {m : Md} (h : MA M a m) (e : M' a = M a) : MA M' a m := by
  cases m <;> (unfold MA at *; rw [e]; exact h)
theorem MA.br {M : MM} {a : Addr} {m : Md} (h : MA M a m) (e : M a = Option.some .br) : m = .br ∨ m = .vw := by
  cases m with
  | br => exact .inl rfl
  | vw => exact .inr rfl
  | fz => rw [show M a = _ from h] at e; cases e
  | own => rw [show M a = _ from h] at e; cases e
theorem MA.own {M : MM} {a : Addr} {m : Md} (h : MA M a m) (e : M a = some .own) : m = .own ∨ m = .vw := by
  cases m with
  | own => exact .inl rfl
  | vw => exact .inr rfl
  | fz => rw [show M a = _ from h] at e; cases e
  | br => rcases h with h | h <;> (rw [h] at e; cases e)
def Nd (M : MM) (H : Hp) (m : Md) (a : Addr) (u : HO) : Prop := MA M a m ∧ Rd H a u ∧ (m = .own → H a = some u)
/-- a list, a tuple of the module -/
def KL (K : PySem.W.Frag) (T : String) (a : Addr) (xs : List V) : Prop := ∃ (o : Obj) (its : Array Value) (n : Nat), K.lookup a = some o ∧ o.cls = .type T ∧ (T = "list" → o.dict = none) ∧ o.data = .seq its n ∧ its.size ≤ sizeLine ∧ Vals xs its.toList
/-- a node that is no dict -/
def NdX (M : MM) (H : Hp) (m : Md) (a : Addr) (u : HO) : Prop := MA M a m ∧ H a = some u
/-- a list that was given: of the module, or locked (the script) -/
def GL (K : PySem.W.Frag) (M : MM) (H : Hp) (a : Addr) (xs : List V) : Prop := KL K "list" a xs ∨ (M a = some .br ∧ ∃ o, H a = some (.frz o (.lst xs)))
def consO (m : Md) (a : Addr) (l : List Addr) : List Addr := match m with
  | .own => a :: l
  | _ => l
mutual
def Rep (c : RC) (M : MM) (H : Hp) : D → V → List Addr → Prop
  | .non, v, l => v = .non ∧ l = []
  | .bl b, v, l => v = .bl b ∧ l = []
  | .int i, v, l => v = .int i ∧ l = []
  | .str x, v, l => v = .str x ∧ l = []
  | .tup m ds, v, l => ∃ a vs l', v = .ref a ∧ (NdX M H m a (.tup vs) ∨ (m = .br ∧ KL c.K "tuple" a vs)) ∧ Reps c M H m ds vs l' ∧ l = consO m a l'
  | .lst m ds, v, l => ∃ a vs l', v = .ref a ∧ (NdX M H m a (.lst vs) ∨ (m = .br ∧ GL c.K M H a vs)) ∧ Reps c M H m ds vs l' ∧ l = consO m a l'
  | .dic m ks ds, v, l => ∃ a kvs l', v = .ref a ∧ Nd M H m a (.dK kvs) ∧ kvs.map (·.1) = ks ∧ Reps c M H m ds (kvs.map (·.2)) l' ∧ l = consO m a l'
  | .ins m k fs ds, v, l => ∃ a dx fvs l', v = .ref a ∧ NdX M H m a (.ins (c.ca k) dx fvs) ∧ fvs.map (·.1) = fs.map c.an ∧ Reps c M H m ds (fvs.map (·.2)) l' ∧ l = consO m a l'
def Reps (c : RC) (M : MM) (H : Hp) (p : Md) : List D → List V → List Addr → Prop
  | [], vs, l => vs = [] ∧ l = []
  | d :: ds, vs, l => ∃ v vs' l1 l2, vs = v :: vs' ∧ chOk p d.md = true ∧ Rep c M H d v l1 ∧ Reps c M H p ds vs' l2 ∧ l = l1 ++ l2
end

section
variable {c : RC} {M M' : MM} {H H' : Hp}
theorem mem_consO {m : Md} {a b : Addr} {l : List Addr} : b ∈ consO m a l ↔ (m = .own ∧ b = a) ∨ b ∈ l := by
  cases m <;> simp [consO]
theorem chOk_vw {p x : Md} (h : chOk p x = true) (e : x = .vw) : p = .vw := by
  subst e; cases p <;> simp [chOk] at h ⊢
theorem chOk_own {p x : Md} (h : chOk p x = true) (e : x = .own) : p = .own := by
  subst e; cases p <;> simp [chOk] at h ⊢

theorem chOk_br {p x : Md} (h : chOk p x = true) (e : x = .br) : p = .br ∨ p = .vw := by
  subst e; cases p <;> simp [chOk] at h ⊢
/-- what a tree leans on -/
def Keep1 (H H' : Hp) (a : Addr) : Prop := H' a = H a ∨ ∃ kvs, Rd H a (.dK kvs) ∧ Rd H' a (.dK kvs)
theorem rd_uniq {a : Addr} {x y : List (Key × V)} (h1 : Rd H a (.dK x)) (h2 : Rd H a (.dK y)) : x = y := by
  rcases h1 with h1 | ⟨o, h1⟩ <;> rcases h2 with h2 | ⟨o', h2⟩ <;> rw [h1] at h2 <;> cases h2 <;> rfl
theorem Keep1.rd {a : Addr} {kvs : List (Key × V)} (k : Keep1 H H' a) (h : Rd H a (.dK kvs)) : Rd H' a (.dK kvs) := by
  rcases k with e | ⟨q, h1, h2⟩
  · unfold Rd at *; rw [e]; exact h
  · rw [rd_uniq h h1]; exact h2
theorem Keep1.ex {a : Addr} {u : HO} (k : Keep1 H H' a) (h : H a = some u) (h1 : ∀ q, u ≠ .dK q) (h2 : ∀ o q, u ≠ .frz o (.dK q)) : H' a = some u := by
  rcases k with e | ⟨q, h3, _⟩
  · rw [e]; exact h
  · rcases h3 with h3 | ⟨o, h3⟩
    · rw [h] at h3; exact absurd (Option.some.inj h3) (h1 q)
    · rw [h] at h3; exact absurd (Option.some.inj h3) (h2 o q)
abbrev Kept (M M' : MM) (H H' : Hp) (l : List Addr) (m : Md) : Prop :=
  ∀ a, M a ≠ none → (M a = some .own → a ∈ l ∨ m = .vw) → (M a = some .br → m = .br ∨ m = .vw) → M' a = M a ∧ Keep1 H H' a ∧ (a ∈ l → H' a = H a)
theorem NdX.mono {m : Md} {a : Addr} {u : HO} {l l' : List Addr} (x : NdX M H m a u) (k : Kept M M' H H' l m) (hl : l = consO m a l') (h1 : ∀ q, u ≠ .dK q) (h2 : ∀ o q, u ≠ .frz o (.dK q)) : NdX M' H' m a u := by
  obtain ⟨e1, e2⟩ := x
  have hk := k a e1.ne_none (fun e => by
    rcases e1.own e with z | z
    · left; rw [hl, z]; simp [consO]
    · exact .inr z) (fun e => e1.br e)
  exact ⟨e1.eq hk.1, hk.2.1.ex e2 h1 h2⟩
theorem GL.mono {a : Addr} {xs : List V} {l : List Addr} {p : Md} {K : PySem.W.Frag} (x : GL K M H a xs) (k : Kept M M' H H' l p) (hp : p = .br) : GL K M' H' a xs := by
  rcases x with x | ⟨e, o, h⟩
  · exact .inl x
  · have hk := k a (by rw [e]; simp) (fun z => by rw [e] at z; cases z) (fun _ => .inl hp)
    exact .inr ⟨hk.1.trans e, o, hk.2.1.ex h (fun q z => by cases z) (fun o' q z => by cases z)⟩
theorem Nd.mono {m : Md} {a : Addr} {q : List (Key × V)} {l l' : List Addr} (x : Nd M H m a (.dK q)) (k : Kept M M' H H' l m) (hl : l = consO m a l') : Nd M' H' m a (.dK q) := by
  obtain ⟨h1, h2, h3⟩ := x
  have hk := k a h1.ne_none (fun e => by
    rcases h1.own e with z | z
    · left; rw [hl, z]; simp [consO]
    · exact .inr z) (fun e => h1.br e)
  refine ⟨h1.eq hk.1, hk.2.1.rd h2, fun e => ?_⟩
  subst e
  rw [hk.2.2 (by rw [hl]; simp [consO])]
  exact h3 rfl
theorem Kept.sub {l l' : List Addr} {m m' : Md} (k : Kept M M' H H' l m) (hl : ∀ a ∈ l', a ∈ l) (hs : m' = .vw → m = .vw) (hb : m' = .br → m = .br ∨ m = .vw) : Kept M M' H H' l' m' := fun a h1 h2 h3 =>
  let z := k a h1 (fun e => (h2 e).imp (hl a) hs) fun e => (h3 e).elim hb fun q => .inr (hs q)
  ⟨z.1, z.2.1, fun h => z.2.2 (hl a h)⟩
mutual
theorem Rep.mono : ∀ (d : D) {v : V} {l : List Addr}, Rep c M H d v l → Kept M M' H H' l d.md → Rep c M' H' d v l
  | .non, _, _, h, _ => h
  | .bl _, _, _, h, _ => h
  | .int _, _, _, h, _ => h
  | .str _, _, _, h, _ => h
  | .tup m ds, v, l, h, k => by
    obtain ⟨a, vs, l', e, n, r, hl⟩ := h
    exact ⟨a, vs, l', e, n.imp (fun n => n.mono k hl (fun q z => by cases z) (fun o q z => by cases z)) id, Reps.mono ds r (Kept.sub k (fun b hb => by rw [hl]; exact mem_consO.mpr (.inr hb)) id .inl), hl⟩
  | .lst m ds, v, l, h, k => by
    obtain ⟨a, vs, l', e, n, r, hl⟩ := h
    exact ⟨a, vs, l', e, n.imp (fun n => n.mono k hl (fun q z => by cases z) (fun o q z => by cases z)) (fun z => ⟨z.1, z.2.mono k z.1⟩), Reps.mono ds r (Kept.sub k (fun b hb => by rw [hl]; exact mem_consO.mpr (.inr hb)) id .inl), hl⟩
  | .dic m ks ds, v, l, h, k => by
    obtain ⟨a, vs, l', e, n, ek, r, hl⟩ := h
    exact ⟨a, vs, l', e, n.mono k hl, ek, Reps.mono ds r (Kept.sub k (fun b hb => by rw [hl]; exact mem_consO.mpr (.inr hb)) id .inl), hl⟩
  | .ins m q fs ds, v, l, h, k => by
    obtain ⟨a, dx, fvs, l', e, n, ek, r, hl⟩ := h
    exact ⟨a, dx, fvs, l', e, n.mono k hl (fun q z => by cases z) (fun o q z => by cases z), ek, Reps.mono ds r (Kept.sub k (fun b hb => by rw [hl]; exact mem_consO.mpr (.inr hb)) id .inl), hl⟩
theorem Reps.mono : ∀ (ds : List D) {p : Md} {vs : List V} {l : List Addr}, Reps c M H p ds vs l → Kept M M' H H' l p → Reps c M' H' p ds vs l
  | [], _, _, _, h, _ => h
  | d :: ds, p, vs, l, h, k => by
    obtain ⟨v, vs', l1, l2, e, ck, r1, r2, hl⟩ := h
    exact ⟨v, vs', l1, l2, e, ck, Rep.mono d r1 (Kept.sub k (fun b hb => by rw [hl]; simp [hb]) (chOk_vw ck) (chOk_br ck)), Reps.mono ds r2 (Kept.sub k (fun b hb => by rw [hl]; simp [hb]) id .inl), hl⟩
end
mutual
/-- the own addresses are own, and there -/
theorem Rep.owns : ∀ (d : D) {v : V} {l : List Addr}, Rep c M H d v l → ∀ a ∈ l, M a = some .own ∧ H a ≠ none
  | .non, _, _, h, a, ha => by rw [h.2] at ha; cases ha
  | .bl _, _, _, h, a, ha => by rw [h.2] at ha; cases ha
  | .int _, _, _, h, a, ha => by rw [h.2] at ha; cases ha
  | .str _, _, _, h, a, ha => by rw [h.2] at ha; cases ha
  | .tup m ds, v, l, h, b, hb => by
    obtain ⟨a, vs, l', e, n, r, hl⟩ := h
    rw [hl, mem_consO] at hb
    rcases hb with ⟨rfl, rfl⟩ | hb
    · rcases n with n | n
      · exact ⟨n.1, by rw [n.2]; simp⟩
      · cases n.1
    · exact Reps.owns ds r b hb
  | .lst m ds, v, l, h, b, hb => by
    obtain ⟨a, vs, l', e, n, r, hl⟩ := h
    rw [hl, mem_consO] at hb
    rcases hb with ⟨rfl, rfl⟩ | hb
    · rcases n with n | n
      · exact ⟨n.1, by rw [n.2]; simp⟩
      · cases n.1
    · exact Reps.owns ds r b hb
  | .dic m ks ds, v, l, h, b, hb => by
    obtain ⟨a, vs, l', e, n, ek, r, hl⟩ := h
    rw [hl, mem_consO] at hb
    rcases hb with ⟨rfl, rfl⟩ | hb
    · exact ⟨n.1, by rw [n.2.2 rfl]; simp⟩
    · exact Reps.owns ds r b hb
  | .ins m q fs ds, v, l, h, b, hb => by
    obtain ⟨a, dx, fvs, l', e, n, ek, r, hl⟩ := h
    rw [hl, mem_consO] at hb
    rcases hb with ⟨rfl, rfl⟩ | hb
    · exact ⟨n.1, by rw [n.2]; simp⟩
    · exact Reps.owns ds r b hb
theorem Reps.owns : ∀ (ds : List D) {p : Md} {vs : List V} {l : List Addr}, Reps c M H p ds vs l → ∀ a ∈ l, M a = some .own ∧ H a ≠ none
  | [], _, _, _, h, a, ha => by rw [h.2] at ha; cases ha
  | d :: ds, p, vs, l, h, a, ha => by
    obtain ⟨v, vs', l1, l2, e, ck, r1, r2, hl⟩ := h
    rw [hl, List.mem_append] at ha
    rcases ha with ha | ha
    · exact Rep.owns d r1 a ha
    · exact Reps.owns ds r2 a ha
end
mutual
/-- what is no own node has none below -/
theorem Rep.noOwn : ∀ (d : D) {v : V} {l : List Addr}, Rep c M H d v l → d.md ≠ .own → l = []
  | .non, _, _, h, _ => h.2
  | .bl _, _, _, h, _ => h.2
  | .int _, _, _, h, _ => h.2
  | .str _, _, _, h, _ => h.2
  | .tup m ds, v, l, h, e => by
    obtain ⟨a, vs, l', _, n, r, hl⟩ := h
    have := Reps.noOwn ds r e
    subst this; cases m <;> first | exact absurd rfl e | exact hl
  | .lst m ds, v, l, h, e => by
    obtain ⟨a, vs, l', _, n, r, hl⟩ := h
    have := Reps.noOwn ds r e
    subst this; cases m <;> first | exact absurd rfl e | exact hl
  | .dic m ks ds, v, l, h, e => by
    obtain ⟨a, vs, l', _, n, ek, r, hl⟩ := h
    have := Reps.noOwn ds r e
    subst this; cases m <;> first | exact absurd rfl e | exact hl
  | .ins m q fs ds, v, l, h, e => by
    obtain ⟨a, dx, fvs, l', _, n, ek, r, hl⟩ := h
    have := Reps.noOwn ds r e
    subst this; cases m <;> first | exact absurd rfl e | exact hl
theorem Reps.noOwn : ∀ (ds : List D) {p : Md} {vs : List V} {l : List Addr}, Reps c M H p ds vs l → p ≠ .own → l = []
  | [], _, _, _, h, _ => h.2
  | d :: ds, p, vs, l, h, e => by
    obtain ⟨v, vs', l1, l2, _, ck, r1, r2, hl⟩ := h
    rw [hl, Rep.noOwn d r1 (fun z => e (chOk_own ck z)), Reps.noOwn ds r2 e]; rfl
end
mutual
/-- the same, with the own nodes seen -/
theorem Rep.view : ∀ (d : D) {v : V} {l : List Addr}, Rep c M H d v l → Rep c M H (d.own2 .vw) v []
  | .non, _, _, h => ⟨h.1, rfl⟩
  | .bl _, _, _, h => ⟨h.1, rfl⟩
  | .int _, _, _, h => ⟨h.1, rfl⟩
  | .str _, _, _, h => ⟨h.1, rfl⟩
  | .tup m ds, v, l, h => by
    by_cases e : m = .own
    · subst e
      obtain ⟨a, vs, l', ev, n, r, hl⟩ := h
      refine ⟨a, vs, [], ev, ?_, Reps.view ds r, rfl⟩
      rcases n with n | n
      · exact .inl ⟨.inl n.1, n.2⟩
      · cases n.1
    · rw [own2_id (d := D.tup m ds) e]
      have := Rep.noOwn _ h e
      subst this; exact h
  | .lst m ds, v, l, h => by
    by_cases e : m = .own
    · subst e
      obtain ⟨a, vs, l', ev, n, r, hl⟩ := h
      refine ⟨a, vs, [], ev, ?_, Reps.view ds r, rfl⟩
      rcases n with n | n
      · exact .inl ⟨.inl n.1, n.2⟩
      · cases n.1
    · rw [own2_id (d := D.lst m ds) e]
      have := Rep.noOwn _ h e
      subst this; exact h
  | .dic m ks ds, v, l, h => by
    by_cases e : m = .own
    · subst e
      obtain ⟨a, vs, l', ev, n, ek, r, hl⟩ := h
      exact ⟨a, vs, [], ev, ⟨.inl n.1, n.2.1, fun z => by cases z⟩, ek, Reps.view ds r, rfl⟩
    · rw [own2_id (d := D.dic m ks ds) e]
      have := Rep.noOwn _ h e
      subst this; exact h
  | .ins m q fs ds, v, l, h => by
    by_cases e : m = .own
    · subst e
      obtain ⟨a, dx, vs, l', ev, n, ek, r, hl⟩ := h
      exact ⟨a, dx, vs, [], ev, ⟨.inl n.1, n.2⟩, ek, Reps.view ds r, rfl⟩
    · rw [own2_id (d := D.ins m q fs ds) e]
      have := Rep.noOwn _ h e
      subst this; exact h
theorem Reps.view : ∀ (ds : List D) {vs : List V} {l : List Addr}, Reps c M H .own ds vs l → Reps c M H .vw (D.own2s .vw ds) vs []
  | [], _, _, h => ⟨h.1, rfl⟩
  | d :: ds, vs, l, h => by
    obtain ⟨v, vs', l1, l2, e, ck, r1, r2, hl⟩ := h
    refine ⟨v, vs', [], [], e, ?_, Rep.view d r1, Reps.view ds r2, rfl⟩
    rw [own2_md]
    cases hm : d.md <;> rw [hm] at ck <;> simp [chOk] at ck ⊢
end
/-- the own addresses of l frozen -/
def frzM (M : MM) (l : List Addr) : MM := fun a => if a ∈ l then some .fz else M a
theorem frzM_in {l : List Addr} {a : Addr} (h : a ∈ l) : frzM M l a = some .fz := if_pos h
theorem frzM_out {l : List Addr} {a : Addr} (h : a ∉ l) : frzM M l a = M a := if_neg h
mutual
theorem Rep.freeze (L : List Addr) : ∀ (d : D) {v : V} {l : List Addr}, Rep c M H d v l → (∀ a ∈ l, a ∈ L) → (∀ a ∈ L, M a = some .own) → d.cl = true → Rep c (frzM M L) H (d.own2 .fz) v []
  | .non, _, _, h, _, _, _ => ⟨h.1, rfl⟩
  | .bl _, _, _, h, _, _, _ => ⟨h.1, rfl⟩
  | .int _, _, _, h, _, _, _ => ⟨h.1, rfl⟩
  | .str _, _, _, h, _, _, _ => ⟨h.1, rfl⟩
  | .tup m ds, v, l, h, hs, hL, hc => by
    by_cases e : m = .own
    · subst e
      obtain ⟨a, vs, l', ev, n, r, hl⟩ := h
      refine ⟨a, vs, [], ev, ?_, Reps.freeze L ds r (fun b hb => hs b (by rw [hl]; simp [consO, hb])) hL, rfl⟩
      rcases n with n | n
      · exact .inl ⟨frzM_in (hs a (by rw [hl]; simp [consO])), n.2⟩
      · cases n.1
    · have hm : m = .fz := by cases m <;> simp [D.cl, D.md] at hc e ⊢
      subst hm
      have := Rep.noOwn _ h (by simp [D.md])
      subst this
      show Rep c (frzM M L) H (D.tup .fz ds) v []
      exact Rep.mono _ h fun a ha ho _ => ⟨frzM_out fun z => by have := ho (hL a z); simp [D.md] at this, Or.inl rfl, fun _ => rfl⟩
  | .lst m ds, v, l, h, hs, hL, hc => by
    by_cases e : m = .own
    · subst e
      obtain ⟨a, vs, l', ev, n, r, hl⟩ := h
      refine ⟨a, vs, [], ev, ?_, Reps.freeze L ds r (fun b hb => hs b (by rw [hl]; simp [consO, hb])) hL, rfl⟩
      rcases n with n | n
      · exact .inl ⟨frzM_in (hs a (by rw [hl]; simp [consO])), n.2⟩
      · cases n.1
    · have hm : m = .fz := by cases m <;> simp [D.cl, D.md] at hc e ⊢
      subst hm
      have := Rep.noOwn _ h (by simp [D.md])
      subst this
      show Rep c (frzM M L) H (D.lst .fz ds) v []
      exact Rep.mono _ h fun a ha ho _ => ⟨frzM_out fun z => by have := ho (hL a z); simp [D.md] at this, Or.inl rfl, fun _ => rfl⟩
  | .dic m ks ds, v, l, h, hs, hL, hc => by
    by_cases e : m = .own
    · subst e
      obtain ⟨a, vs, l', ev, n, ek, r, hl⟩ := h
      exact ⟨a, vs, [], ev, ⟨frzM_in (hs a (by rw [hl]; simp [consO])), n.2.1, fun z => by cases z⟩, ek, Reps.freeze L ds r (fun b hb => hs b (by rw [hl]; simp [consO, hb])) hL, rfl⟩
    · have hm : m = .fz := by cases m <;> simp [D.cl, D.md] at hc e ⊢
      subst hm
      have := Rep.noOwn _ h (by simp [D.md])
      subst this
      show Rep c (frzM M L) H (D.dic .fz ks ds) v []
      exact Rep.mono _ h fun a ha ho _ => ⟨frzM_out fun z => by have := ho (hL a z); simp [D.md] at this, Or.inl rfl, fun _ => rfl⟩
  | .ins m q fs ds, v, l, h, hs, hL, hc => by
    by_cases e : m = .own
    · subst e
      obtain ⟨a, dx, vs, l', ev, n, ek, r, hl⟩ := h
      exact ⟨a, dx, vs, [], ev, ⟨frzM_in (hs a (by rw [hl]; simp [consO])), n.2⟩, ek, Reps.freeze L ds r (fun b hb => hs b (by rw [hl]; simp [consO, hb])) hL, rfl⟩
    · have hm : m = .fz := by cases m <;> simp [D.cl, D.md] at hc e ⊢
      subst hm
      have := Rep.noOwn _ h (by simp [D.md])
      subst this
      show Rep c (frzM M L) H (D.ins .fz q fs ds) v []
      exact Rep.mono _ h fun a ha ho _ => ⟨frzM_out fun z => by have := ho (hL a z); simp [D.md] at this, Or.inl rfl, fun _ => rfl⟩
theorem Reps.freeze (L : List Addr) : ∀ (ds : List D) {vs : List V} {l : List Addr}, Reps c M H .own ds vs l → (∀ a ∈ l, a ∈ L) → (∀ a ∈ L, M a = some .own) → Reps c (frzM M L) H .fz (D.own2s .fz ds) vs []
  | [], _, _, h, _, _ => ⟨h.1, rfl⟩
  | d :: ds, vs, l, h, hs, hL => by
    obtain ⟨v, vs', l1, l2, e, ck, r1, r2, hl⟩ := h
    have hcl : d.cl = true := by
      unfold D.cl
      cases hm : d.md <;> rw [hm] at ck <;> simp [chOk] at ck ⊢
    refine ⟨v, vs', [], [], e, ?_, Rep.freeze L d r1 (fun b hb => hs b (by rw [hl]; simp [hb])) hL hcl, Reps.freeze L ds r2 (fun b hb => hs b (by rw [hl]; simp [hb])) hL, rfl⟩
    rw [own2_md]
    cases hm : d.md <;> rw [hm] at ck <;> simp [chOk] at ck ⊢
end
theorem MA.frz {L : List Addr} {a : Addr} {m : Md} (h : MA M a m) (hL : ∀ a ∈ L, M a = some .own) (hm : m ≠ .own) : MA (frzM M L) a m := by
  by_cases z : a ∈ L
  · rcases h.own (hL a z) with e | e
    · exact absurd e hm
    · subst e; exact .inr (.inr (frzM_in z))
  · exact h.eq (frzM_out z)
/-- own ones lent -/
def lendM (M : MM) : MM := fun a => if M a = some .own then some .br else M a
theorem lendM_own {a : Addr} (h : M a = some .own) : lendM M a = some .br := if_pos h
theorem lendM_ne {a : Addr} (h : M a ≠ some .own) : lendM M a = M a := if_neg h
theorem lendM_none {a : Addr} (h : lendM M a ≠ none) : M a ≠ none := fun z => h (by rw [lendM_ne (by rw [z]; simp)]; exact z)
theorem MA.lend {a : Addr} (h : MA M a .vw) : MA (lendM M) a .br := by
  rcases h with h | h | h
  · exact .inl (lendM_own h)
  · exact .inl ((lendM_ne (by rw [h]; simp)).trans h)
  · exact .inr ((lendM_ne (by rw [h]; simp)).trans h)
mutual
theorem Rep.lend : ∀ (d : D) {v : V}, Rep c M H d v [] → d.md ≠ .own → Rep c (lendM M) H d.brd v []
  | .non, _, h, _ => h
  | .bl _, _, h, _ => h
  | .int _, _, h, _ => h
  | .str _, _, h, _ => h
  | .tup m ds, v, h, hm => by
    by_cases e : m = .vw
    · subst e
      obtain ⟨a, vs, l', ev, n, r, hl⟩ := h
      have : l' = [] := hl.symm
      subst this
      refine ⟨a, vs, [], ev, ?_, Reps.lend ds r, rfl⟩
      rcases n with n | n
      · exact .inl ⟨n.1.lend, n.2⟩
      · cases n.1
    · rw [brd_id (d := D.tup m ds) e]
      exact Rep.mono _ h fun a ha ho _ => ⟨lendM_ne fun z => by have := ho z; simp [D.md, e] at this, Or.inl rfl, fun _ => rfl⟩
  | .lst m ds, v, h, hm => by
    by_cases e : m = .vw
    · subst e
      obtain ⟨a, vs, l', ev, n, r, hl⟩ := h
      have : l' = [] := hl.symm
      subst this
      refine ⟨a, vs, [], ev, ?_, Reps.lend ds r, rfl⟩
      rcases n with n | n
      · exact .inl ⟨n.1.lend, n.2⟩
      · cases n.1
    · rw [brd_id (d := D.lst m ds) e]
      exact Rep.mono _ h fun a ha ho _ => ⟨lendM_ne fun z => by have := ho z; simp [D.md, e] at this, Or.inl rfl, fun _ => rfl⟩
  | .dic m ks ds, v, h, hm => by
    by_cases e : m = .vw
    · subst e
      obtain ⟨a, vs, l', ev, n, ek, r, hl⟩ := h
      have : l' = [] := hl.symm
      subst this
      exact ⟨a, vs, [], ev, ⟨n.1.lend, n.2.1, fun z => by cases z⟩, ek, Reps.lend ds r, rfl⟩
    · rw [brd_id (d := D.dic m ks ds) e]
      exact Rep.mono _ h fun a ha ho _ => ⟨lendM_ne fun z => by have := ho z; simp [D.md, e] at this, Or.inl rfl, fun _ => rfl⟩
  | .ins m q fs ds, v, h, hm => by
    by_cases e : m = .vw
    · subst e
      obtain ⟨a, dx, vs, l', ev, n, ek, r, hl⟩ := h
      have : l' = [] := hl.symm
      subst this
      exact ⟨a, dx, vs, [], ev, ⟨n.1.lend, n.2⟩, ek, Reps.lend ds r, rfl⟩
    · rw [brd_id (d := D.ins m q fs ds) e]
      exact Rep.mono _ h fun a ha ho _ => ⟨lendM_ne fun z => by have := ho z; simp [D.md, e] at this, Or.inl rfl, fun _ => rfl⟩
theorem Reps.lend : ∀ (ds : List D) {vs : List V}, Reps c M H .vw ds vs [] → Reps c (lendM M) H .br (D.brds ds) vs []
  | [], _, h => h
  | d :: ds, vs, h => by
    obtain ⟨v, vs', l1, l2, e, ck, r1, r2, hl⟩ := h
    have h1 : l1 = [] := (List.append_eq_nil_iff.mp hl.symm).1
    have h2 : l2 = [] := (List.append_eq_nil_iff.mp hl.symm).2
    subst h1 h2
    have ho : d.md ≠ .own := fun z => by rw [z] at ck; simp [chOk] at ck
    refine ⟨v, vs', [], [], e, ?_, Rep.lend d r1 ho, Reps.lend ds r2, rfl⟩
    rw [brd_md]
    cases hm : d.md <;> rw [hm] at ck <;> simp [chOk] at ck ⊢
end
mutual
/-- what is not own stays where others are frozen -/
theorem Rep.frzAny (L : List Addr) (hL : ∀ a ∈ L, M a = some .own) : ∀ (d : D) {v : V}, Rep c M H d v [] → d.md ≠ .own → Rep c (frzM M L) H d v []
  | .non, _, h, _ => h
  | .bl _, _, h, _ => h
  | .int _, _, h, _ => h
  | .str _, _, h, _ => h
  | .tup m ds, v, h, hm => by
    obtain ⟨a, vs, l', ev, n, r, hl⟩ := h
    have h0 : l' = [] := Reps.noOwn ds r hm
    subst h0
    exact ⟨a, vs, [], ev, n.imp (fun n => ⟨n.1.frz hL hm, n.2⟩) id, Reps.frzAny L hL ds r hm, hl⟩
  | .lst m ds, v, h, hm => by
    obtain ⟨a, vs, l', ev, n, r, hl⟩ := h
    have h0 : l' = [] := Reps.noOwn ds r hm
    subst h0
    refine ⟨a, vs, [], ev, n.imp (fun n => ⟨n.1.frz hL hm, n.2⟩) (fun n => ⟨n.1, n.2.imp id fun z => ⟨?_, z.2⟩⟩), Reps.frzAny L hL ds r hm, hl⟩
    exact (frzM_out fun q => by rw [hL a q] at z; cases z.1).trans z.1
  | .dic m ks ds, v, h, hm => by
    obtain ⟨a, vs, l', ev, n, ek, r, hl⟩ := h
    have h0 : l' = [] := Reps.noOwn ds r hm
    subst h0
    exact ⟨a, vs, [], ev, ⟨n.1.frz hL hm, n.2.1, fun z => absurd z hm⟩, ek, Reps.frzAny L hL ds r hm, hl⟩
  | .ins m q fs ds, v, h, hm => by
    obtain ⟨a, dx, vs, l', ev, n, ek, r, hl⟩ := h
    have h0 : l' = [] := Reps.noOwn ds r hm
    subst h0
    exact ⟨a, dx, vs, [], ev, ⟨n.1.frz hL hm, n.2⟩, ek, Reps.frzAny L hL ds r hm, hl⟩
theorem Reps.frzAny (L : List Addr) (hL : ∀ a ∈ L, M a = some .own) : ∀ (ds : List D) {p : Md} {vs : List V}, Reps c M H p ds vs [] → p ≠ .own → Reps c (frzM M L) H p ds vs []
  | [], _, _, h, _ => h
  | d :: ds, p, vs, h, hp => by
    obtain ⟨v, vs', l1, l2, e, ck, r1, r2, hl⟩ := h
    have h1 : l1 = [] := (List.append_eq_nil_iff.mp hl.symm).1
    have h2 : l2 = [] := (List.append_eq_nil_iff.mp hl.symm).2
    subst h1 h2
    exact ⟨v, vs', [], [], e, ck, Rep.frzAny L hL d r1 (fun z => hp (chOk_own ck z)), Reps.frzAny L hL ds r2 hp, rfl⟩
end
end
end GS

namespace GS
open PySem PySem.Spec PyProof.Rows L2

/-! ## the small syntax -/
inductive Bop where
  | add | sub | mul | fdiv | mod | pow
  deriving DecidableEq
inductive Cop where
  | eq | ne | lt | le | gt | ge | isN | notN | isin | notin
  deriving DecidableEq
/-- calls of built-ins that look only -/
inductive Blt where
  | len | abs | min2 | max2 | str | int | list | tuple | dict | any | all | lenset | sorted
  deriving DecidableEq
/-- methods of built-in types that look only -/
inductive Bmt where
  | get1 | get2 | index | part | split | join | upper
  deriving DecidableEq
/-- what isinstance asks -/
inductive Isi where
  | int | bool | str | list | tuple | dict | cls (c : Nat)
  deriving DecidableEq

mutual
inductive Tm where
  | var (i : Nat)
  | cst (d : D)
  | glb (g : Nat)
  | op (o : Bop) (a b : Tm)
  | neg (a : Tm)
  | cmp (o : Cop) (a b : Tm)
  | chn (o o' : Cop) (a b c : Tm)
  | and (es : List Tm)
  | or (es : List Tm)
  | not (a : Tm)
  | ife (c a b : Tm)
  | fld (a : Tm) (f : Nat)
  | ix (a b : Tm)
  | slc (a : Tm) (lo hi : Option Tm)
  | lst (es : List Tm)
  | tup (es : List Tm)
  | dct (ks vs : List Tm)
  | cal (f : Nat) (es : List Tm)
  | mak (c : Nat) (es : List Tm)
  | met (a : Tm) (m : Nat) (es : List Tm)
  | blt (b : Blt) (es : List Tm)
  | bmt (b : Bmt) (a : Tm) (es : List Tm)
  | isi (a : Tm) (k : Isi)
  | cmpr (elt : Tm) (tg : Tg) (it : Itr) (ifs : List Tm)
inductive Itr where
  | rng1 (a : Tm)
  | rng2 (a b : Tm)
  | seq (a : Tm)
  | enm (a : Tm)
  | zip (a b : Tm)
  | keys (a : Tm)
  | items (a : Tm)
  | vals (a : Tm)
  | rev (a : Tm)
  | sgn (a : Tm)
inductive Tg where
  | nm (i : Nat)
  | tp (gs : List Tg)
end

/-- a place: a slot, then items, fields -/
inductive Stp where
  | ix (t : Tm)
  | fld (f : Nat)

inductive Cm where
  | set (i : Nat) (t : Tm)
  | unp (g : Tg) (t : Tm)
  | par (i j : Nat) (a b : Tm)
  | aug (i : Nat) (o : Bop) (t : Tm)
  | put (o : Bool) (i : Nat) (ss : List Stp) (ix t : Tm)
  | fput (o : Bool) (i : Nat) (ss : List Stp) (f : Nat) (t : Tm)
  | app (o : Bool) (i : Nat) (ss : List Stp) (t : Tm)
  | ext (i : Nat) (ss : List Stp) (t : Tm)
  | clr (i : Nat) (ss : List Stp)
  | ex (t : Tm)
  | ini (f : Nat) (es : List Tm)
  | ret (t : Tm)
  | retv (i : Nat)
  | ret0
  | ite (c : Tm) (a b : List Cm)
  | whl (c : Tm) (b : List Cm)
  | for_ (g : Tg) (it : Itr) (b : List Cm)
  | brk | cnt | pas
  | rai (c : Nat) (es : List Tm)
  | frz (i : Nat)
  | frzc (i : Nat)
  | never

/-! ## results -/
inductive Res (α : Type) where
  | ok (a : α)
  | ex (c : Nat) (ds : List D)
  | stuck
def Res.bind {α β : Type} (r : Res α) (f : α → Res β) : Res β := match r with
  | .ok a => f a
  | .ex c ds => .ex c ds
  | .stuck => .stuck
@[simp] theorem Res.bind_ok {α β : Type} (a : α) (f : α → Res β) : (Res.ok a).bind f = f a := rfl
@[simp] theorem Res.bind_ex {α β : Type} (c : Nat) (ds : List D) (f : α → Res β) : (Res.ex c ds : Res α).bind f = .ex c ds := rfl
@[simp] theorem Res.bind_stuck {α β : Type} (f : α → Res β) : (Res.stuck : Res α).bind f = .stuck := rfl
/-- no exception may leave here -/
def Res.noEx {α : Type} : Res α → Res α
  | .ok a => .ok a
  | _ => .stuck
@[simp] theorem Res.noEx_ok {α : Type} (a : α) : (Res.ok a).noEx = .ok a := rfl
def Res.guard (b : Bool) {α : Type} (r : Res α) : Res α := if b = true then r else .stuck
@[simp] theorem Res.guard_true {α : Type} (r : Res α) : Res.guard true r = r := rfl
theorem Res.guard_of {b : Bool} {α : Type} {r : Res α} (h : b = true) : Res.guard b r = r := by subst h; rfl
def Res.ofOpt {α : Type} : Option α → Res α
  | some a => .ok a
  | none => .stuck
@[simp] theorem Res.ofOpt_some {α : Type} (a : α) : Res.ofOpt (some a) = .ok a := rfl

abbrev Sl := List (Option D)
inductive RO where
  | ret (d : D) (fins : Sl)
  | ex (c : Nat) (ds : List D) (fins : Sl)
  | stuck
def RO.val : RO → Res D
  | .ret d _ => .ok d
  | .ex c ds _ => .ex c ds
  | .stuck => .stuck
@[simp] theorem RO.val_ret (d : D) (f : Sl) : (RO.ret d f).val = .ok d := rfl
@[simp] theorem RO.val_ex (c : Nat) (ds : List D) (f : Sl) : (RO.ex c ds f).val = .ex c ds := rfl
@[simp] theorem RO.val_stuck : RO.stuck.val = .stuck := rfl
/-- a new instance, from what __init__ came to -/
def RO.made (frz : Bool) : RO → Res D
  | .ret .non (some d :: _) => Res.guard d.cl (.ok (if frz then d.own2 .fz else d))
  | .ex c ds _ => .ex c ds
  | _ => .stuck

/-! ## values -/
def mulOk (i j : Int) : Bool := !((decide (Builtin.Int.intBits i > shortFactorBits) && decide (Builtin.Int.intBits j > shortFactorBits)) && Builtin.Int.intTooBig (Builtin.Int.intBits i + Builtin.Int.intBits j))
def divOk (j : Int) : Bool := decide (j ≠ 0) && decide (j.natAbs.log2 < 9000)
def vBop : Bop → D → D → Res D
  | .add, .int i, .int j => .ok (.int (i + j))
  | .sub, .int i, .int j => .ok (.int (i - j))
  | .mul, .int i, .int j => Res.guard (mulOk i j) (.ok (.int (i * j)))
  | .fdiv, .int i, .int j => Res.guard (divOk j) (.ok (.int (i.fdiv j)))
  | .mod, .int i, .int j => Res.guard (decide (j ≠ 0)) (.ok (.int (i.fmod j)))
  | .pow, .int i, .int j => Res.guard (decide (0 ≤ j) && (decide (j ≤ 1000000) && decide (i.natAbs < 2 ^ 64))) (.ok (.int (i ^ j.toNat)))
  | .add, .str x, .str y => Res.guard (decide (x.length + y.length ≤ sizeLine)) (.ok (.str (x ++ y)))
  | .add, .lst m xs, .lst m' ys => Res.guard (!(decide (m = .br)) && !(decide (m' = .br)) && decide (xs.length + ys.length ≤ sizeLine) && (xs.all D.cl && ys.all D.cl)) (.ok (.lst .own (D.own2s .fz xs ++ D.own2s .fz ys)))
  | _, _, _ => .stuck
def vNeg : D → Res D
  | .int i => .ok (.int (-i))
  | _ => .stuck
mutual
def D.py : D → Option PyData
  | .non => some .none
  | .bl b => some (.bool b)
  | .int i => some (.int i)
  | .str x => some (.str x)
  | .lst _ ds => (D.pys ds).map .list
  | .tup _ ds => (D.pys ds).map .tuple
  | _ => none
def D.pys : List D → Option (List PyData)
  | [] => some []
  | d :: ds => (D.py d).bind fun x => (D.pys ds).map fun xs => x :: xs
end
/-- == -/
def vEq : D → D → Res Bool
  | .int i, .int j => .ok (decide (i = j))
  | .str x, .str y => .ok (decide (x = y))
  | .bl a, .bl b => .ok (decide (a = b))
  | x, y => match x.py, y.py with
    | some a, some b => Res.guard (SeqAt.shaped a && SeqAt.shaped b) (.ok (PyData.eqv a b))
    | _, _ => .stuck
def D.v : D → Option V
  | .non => some .non
  | .bl b => some (.bl b)
  | .int i => some (.int i)
  | .str x => some (.str x)
  | _ => none
def allV : List D → Option (List V)
  | [] => some []
  | d :: ds => d.v.bind fun x => (allV ds).map fun xs => x :: xs
def D.key : D → Option Key
  | .int i => some (.inl i)
  | .str x => some (.inr x)
  | _ => none
/-- the place of a key -/
def atKeyD (k : Key) : List Key → List D → Option D
  | q :: ks, d :: ds => if q = k then some d else atKeyD k ks ds
  | _, _ => none
def vIn (x : D) : D → Res Bool
  | .lst _ ds => Res.ofOpt (x.v.bind fun a => (allV ds).map fun vs => inV a vs)
  | .tup _ ds => Res.ofOpt (x.v.bind fun a => (allV ds).map fun vs => inV a vs)
  | .dic _ ks _ => Res.ofOpt (x.key.map fun k => ks.any fun q => decide (q = k))
  | .str s => match x with
    | .str t => .ok (!(Builtin.Str.occurrences s t 0 s.length 1).isEmpty)
    | _ => .stuck
  | _ => .stuck
def D.isN : D → Bool
  | .non => true
  | _ => false
def vCop : Cop → D → D → Res Bool
  | .eq, x, y => vEq x y
  | .ne, x, y => (vEq x y).bind fun b => .ok (!b)
  | .lt, .int i, .int j => .ok (decide (i < j))
  | .le, .int i, .int j => .ok (decide (i ≤ j))
  | .gt, .int i, .int j => .ok (decide (j < i))
  | .ge, .int i, .int j => .ok (decide (j ≤ i))
  | .isN, x, .non => .ok x.isN
  | .notN, x, .non => .ok (!x.isN)
  | .isin, x, y => vIn x y
  | .notin, x, y => (vIn x y).bind fun b => .ok (!b)
  | _, _, _ => .stuck
/-- truth -/
def vTru : D → Res Bool
  | .bl b => .ok b
  | .int i => .ok (i != 0)
  | .non => .ok false
  | .lst _ ds => .ok (!ds.isEmpty)
  | .tup _ ds => .ok (!ds.isEmpty)
  | .dic _ ks _ => .ok (!ks.isEmpty)
  | .str x => Res.guard (decide (x.length ≤ sizeLine)) (.ok (x.length != 0))
  | _ => .stuck
def vBl : D → Res Bool
  | .bl b => .ok b
  | _ => .stuck
def atFld (f : Nat) : List Nat → List D → Option D
  | q :: fs, d :: ds => if q = f then some d else atFld f fs ds
  | _, _ => none
def vFld (ok : Nat → Nat → Bool) (f : Nat) : D → Res D
  | .ins _ k fs ds => Res.guard (ok k f) (Res.ofOpt (atFld f fs ds))
  | _ => .stuck
def vIx : D → D → Res D
  | .lst _ ds, .int i => Res.ofOpt (atI ds i)
  | .tup _ ds, .int i => Res.ofOpt (atI ds i)
  | .str x, .int i => Res.guard (decide (x.length ≤ sizeLine)) (Res.ofOpt ((atI x.cps.toList i).map fun c => .str ⟨#[c]⟩))
  | .dic _ ks ds, k => Res.ofOpt (k.key.bind fun k => atKeyD k ks ds)
  | _, _ => .stuck
def cutD {α : Type} (xs : List α) (lo hi : Option Int) : List α := (xs.drop (HT.sIx xs.length 0 lo)).take (HT.sIx xs.length xs.length hi - HT.sIx xs.length 0 lo)
def vSlc : D → Option Int → Option Int → Res D
  | .lst _ ds, lo, hi => Res.guard ((cutD ds lo hi).all D.cl) (.ok (.lst .own (D.own2s .fz (cutD ds lo hi))))
  | .str x, lo, hi => Res.guard (decide (x.length ≤ sizeLine)) (.ok (.str (cutS x lo hi)))
  | _, _, _ => .stuck
def vInt : D → Res Int
  | .int i => .ok i
  | _ => .stuck
def vKey : D → Res Key
  | .int i => .ok (.inl i)
  | .str x => .ok (.inr x)
  | _ => .stuck
def keyD : Key → D
  | .inl i => .int i
  | .inr x => .str x
/-- the least sub-list for any, all -/
def allBl : List D → Option (List Bool)
  | [] => some []
  | .bl b :: ds => (allBl ds).map fun bs => b :: bs
  | _ :: _ => none
def vBlt : Blt → List D → Res D
  | .len, [.lst _ ds] => .ok (.int ds.length)
  | .len, [.tup _ ds] => .ok (.int ds.length)
  | .len, [.dic _ ks _] => .ok (.int ks.length)
  | .len, [.str x] => Res.guard (decide (x.length ≤ sizeLine)) (.ok (.int x.length))
  | .abs, [.int i] => .ok (.int (if i < 0 then -i else i))
  | .min2, [.int i, .int j] => .ok (.int (if j < i then j else i))
  | .max2, [.int i, .int j] => .ok (.int (if j > i then j else i))
  | .str, [.int i] => Res.guard (decide (i.natAbs.log2 < 1920)) (.ok (.str (toString i)))
  | .int, [.int i] => .ok (.int i)
  | .int, [.bl b] => .ok (.int (if b then 1 else 0))
  | .int, [.str x] => match PySem.intText? x with
    | some n => Res.guard (decide (x.length ≤ 640)) (.ok (.int n))
    | none => .stuck
  | .list, [.lst _ ds] => Res.guard (ds.all D.cl) (.ok (.lst .own (D.own2s .fz ds)))
  | .list, [.tup _ ds] => Res.guard (ds.all D.cl) (.ok (.lst .own (D.own2s .fz ds)))
  | .list, [.dic _ ks _] => .ok (.lst .own (ks.map keyD))
  | .dict, [.dic _ ks ds] => Res.guard (ds.all D.cl) (.ok (.dic .own ks (D.own2s .fz ds)))
  | .any, [.lst _ ds] => Res.ofOpt ((allBl ds).map fun bs => .bl (bs.any id))
  | .all, [.lst _ ds] => Res.ofOpt ((allBl ds).map fun bs => .bl (bs.all id))
  | _, _ => .stuck
/-- the receivers of these methods -/
def bmtR : Bmt → D → Bool
  | .get1, .dic _ _ _ => true
  | .get2, .dic _ _ _ => true
  | .index, .lst _ _ => true
  | .part, .str _ => true
  | .split, .str _ => true
  | .join, .str _ => true
  | .upper, .str _ => true
  | _, _ => false
def vBmt : Bmt → D → List D → Res D
  | .get2, .dic _ ks ds, [k, x] => (vKey k).bind fun k => .ok ((atKeyD k ks ds).getD x)
  | .get1, .dic _ ks ds, [k] => (vKey k).bind fun k => .ok ((atKeyD k ks ds).getD .non)
  | _, _, _ => .stuck
/-- a value's built-in type, or its class -/
def D.ty : D → String ⊕ Nat
  | .non => .inl "NoneType"
  | .bl _ => .inl "bool"
  | .int _ => .inl "int"
  | .str _ => .inl "str"
  | .lst _ _ => .inl "list"
  | .tup _ _ => .inl "tuple"
  | .dic _ _ _ => .inl "dict"
  | .ins _ k _ _ => .inr k
def isiN : Isi → String
  | .int => "int" | .bool => "bool" | .str => "str" | .list => "list" | .tuple => "tuple" | .dict => "dict" | .cls _ => ""
/-- what isinstance says; sub c: the classes above the class c, itself among them -/
def vIsi (sub : Nat → List Nat) (k : Isi) (d : D) : Res Bool := match d.ty, k with
  | .inl _, .cls _ => .ok false
  | .inl t, k => .ok (decide (t = isiN k) || (decide (t = "bool") && decide (isiN k = "int")))
  | .inr q, .cls c => Res.guard (!(sub q).isEmpty) (.ok (decide (c ∈ sub q)))
  | .inr q, _ => Res.guard (!(sub q).isEmpty) (.ok false)
def pairs : List D → List D → List D
  | x :: xs, y :: ys => .tup .vw [x, y] :: pairs xs ys
  | _, _ => []
def enums (i : Nat) : List D → List D
  | [] => []
  | x :: xs => .tup .vw [.int i, x] :: enums (i + 1) xs
def rangeD (lo : Int) (n : Nat) : List D := (List.range n).map fun i => .int (lo + (i : Nat))
def small62 (i : Int) : Bool := decide (-(2 ^ 62) ≤ i) && decide (i < 2 ^ 62)
/-- may be walked while statements run: not a seen one -/
def walkOk (st : Bool) (d : D) : Bool := !st || !(decide (d.md = .vw))
/-- what a value is walked as (own ones are temporary: nobody can change them) -/
def vSeq : D → Res (List D)
  | .lst .own ds => .ok (D.own2s .fz ds)
  | .lst _ ds => .ok ds
  | .tup .own ds => .ok (D.own2s .fz ds)
  | .tup _ ds => .ok ds
  | _ => .stuck
def vLst : D → Res (List D)
  | .lst .own ds => .ok (D.own2s .fz ds)
  | .lst _ ds => .ok ds
  | _ => .stuck
def vDic : D → Res (List Key × List D)
  | .dic .own ks ds => .ok (ks, D.own2s .fz ds)
  | .dic _ ks ds => .ok (ks, ds)
  | _ => .stuck

mutual
/-- the slots behind target = d -/
def bindT : Tg → D → Sl → Option Sl
  | .nm i, d, s => some (s.set i (some d))
  | .tp gs, .tup _ ds, s => bindTs gs ds s
  | .tp _, _, _ => none
def bindTs : List Tg → List D → Sl → Option Sl
  | [], [], s => some s
  | g :: gs, d :: ds, s => (bindT g d s).bind fun s' => bindTs gs ds s'
  | _, _, _ => none
end
mutual
def tgNames : Tg → List Nat
  | .nm i => [i]
  | .tp gs => tgNamess gs
def tgNamess : List Tg → List Nat
  | [] => []
  | g :: gs => tgNames g ++ tgNamess gs
end
def wipeS (s : Sl) : List Nat → Sl
  | [] => s
  | i :: is => (wipeS s is).set i none

/-! ## the evaluator -/
structure GE where
  call : Nat → List D → RO
  make : Nat → List D → RO
  glob : Nat → D
  meth : Nat → Nat → Option Nat
  frz : Nat → Bool
  sub : Nat → List Nat
  init : Nat → Option Nat
  /-- the class k may have the field f -/
  fok : Nat → Nat → Bool

/-- a comprehension's loop -/
def compL (bnd : D → Option Sl) (tst : Sl → Res Bool) (elt : Sl → Res D) : List D → Res (List D)
  | [] => .ok []
  | d :: ds => (Res.ofOpt (bnd d)).bind fun s => (tst s).bind fun b =>
    if b = true then (elt s).bind fun y => Res.guard y.cl ((compL bnd tst elt ds).bind fun ys => .ok (y :: ys)) else compL bnd tst elt ds

variable (G : GE)
mutual
def evalE : Tm → Sl → Res D
  | .var i, s => match s[i]? with
    | some (some d) => .ok d
    | _ => .stuck
  | .cst d, _ => .ok d
  | .glb g, _ => .ok (G.glob g)
  | .op o a b, s => (evalE a s).bind fun x => (evalE b s).bind fun y => vBop o x y
  | .neg a, s => (evalE a s).bind vNeg
  | .cmp o a b, s => (evalE a s).bind fun x => (evalE b s).bind fun y => (vCop o x y).bind fun r => .ok (.bl r)
  | .chn o o' a b c, s => (evalE a s).bind fun x => (evalE b s).bind fun y => (vCop o x y).bind fun r =>
      if r = true then (evalE c s).bind fun z => (vCop o' y z).bind fun r => .ok (.bl r) else .ok (.bl false)
  | .and es, s => (evalAnd es s).bind fun b => .ok (.bl b)
  | .or es, s => (evalOr es s).bind fun b => .ok (.bl b)
  | .not a, s => (evalE a s).bind fun x => (vBl x).bind fun b => .ok (.bl (!b))
  | .ife c a b, s => (evalE c s).bind fun x => (vTru x).bind fun r => if r = true then evalE a s else evalE b s
  | .fld a f, s => (evalE a s).bind (vFld G.fok f)
  | .ix a b, s => (evalE a s).bind fun x => (evalE b s).bind fun y => vIx x y
  | .slc a lo hi, s => (evalE a s).bind fun x => (evalO lo s).bind fun l => (evalO hi s).bind fun h => vSlc x l h
  | .lst es, s => (evalL es s).bind fun ds => Res.guard (ds.all D.cl && decide (ds.length ≤ sizeLine)) (.ok (.lst .own ds))
  | .tup es, s => (evalL es s).bind fun ds => Res.guard (ds.all D.cl && decide (ds.length ≤ sizeLine)) (.ok (.tup .own ds))
  | .dct ks vs, s => (evalL vs s).bind fun ds => (evalL ks s).bind fun kd => match ks, vs with
      | [], [] => .ok (.dic .own [] [])
      | _, _ => .stuck
  | .cal f es, s => (evalL es s).bind fun ds => (G.call f (ds.map D.arg)).val
  | .mak c es, s => (evalL es s).bind fun ds => match G.init c with
      | some f => (G.make f (.ins .own c [] [] :: ds.map D.arg)).made (G.frz c)
      | none => .stuck
  | .met a m es, s => (evalE a s).bind fun x => match x with
      | .ins _ c fs _ => match G.meth c m with
        | some f => Res.guard (!(fs.any fun g => decide (g = m))) <| (evalL es s).bind fun ds => (G.call f ((x :: ds).map D.arg)).val
        | none => .stuck
      | _ => .stuck
  | .blt b es, s => (evalL es s).bind fun ds => vBlt b ds
  | .bmt b a es, s => (evalE a s).bind fun x => Res.guard (bmtR b x) <| (evalL es s).bind fun ds => vBmt b x ds
  | .isi a k, s => (evalE a s).bind fun x => (vIsi G.sub k x).bind fun r => .ok (.bl r)
  | .cmpr elt tg it ifs, s => (evalI false it s).bind fun ds =>
      (compL (fun d => bindT tg d (wipeS s (tgNames tg))) (fun s' => (evalIf ifs s').noEx) (fun s' => (evalE elt s').noEx) ds).bind fun ys => Res.guard (decide (ys.length ≤ sizeLine)) (.ok (.lst .own ys))
def evalL : List Tm → Sl → Res (List D)
  | [], _ => .ok []
  | t :: ts, s => (evalE t s).bind fun d => (evalL ts s).bind fun ds => .ok (d :: ds)
def evalO : Option Tm → Sl → Res (Option Int)
  | none, _ => .ok none
  | some t, s => (evalE t s).bind fun d => (vInt d).bind fun i => .ok (some i)
def evalAnd : List Tm → Sl → Res Bool
  | [], _ => .ok true
  | t :: ts, s => (evalE t s).bind fun d => (vBl d).bind fun b => if b = true then evalAnd ts s else .ok false
def evalOr : List Tm → Sl → Res Bool
  | [], _ => .ok false
  | t :: ts, s => (evalE t s).bind fun d => (vBl d).bind fun b => if b = true then .ok true else evalOr ts s
def evalIf : List Tm → Sl → Res Bool
  | [], _ => .ok true
  | t :: ts, s => (evalE t s).bind fun d => (vTru d).bind fun b => if b = true then evalIf ts s else .ok false
def evalI (st : Bool) : Itr → Sl → Res (List D)
  | .rng1 a, s => (evalE a s).bind fun x => (vInt x).bind fun n => Res.guard (small62 n) (.ok (rangeD 0 n.toNat))
  | .rng2 a b, s => (evalE a s).bind fun x => (vInt x).bind fun m => (evalE b s).bind fun y => (vInt y).bind fun n => Res.guard (small62 m && small62 n) (.ok (rangeD m (n - m).toNat))
  | .seq a, s => (evalE a s).bind fun x => Res.guard (walkOk st x) (vSeq x)
  | .enm a, s => (evalE a s).bind fun x => Res.guard (walkOk st x) ((vLst x).bind fun ds => .ok (enums 0 ds))
  | .zip a b, s => (evalE a s).bind fun x => (evalE b s).bind fun y => Res.guard (walkOk st x && walkOk st y) ((vLst x).bind fun xs => (vLst y).bind fun ys => .ok (pairs xs ys))
  | .keys a, s => (evalE a s).bind fun x => Res.guard (walkOk st x) ((vDic x).bind fun p => .ok (p.1.map keyD))
  | .items a, s => (evalE a s).bind fun x => Res.guard (walkOk st x) ((vDic x).bind fun p => .ok (pairs (p.1.map keyD) p.2))
  | .vals a, s => (evalE a s).bind fun x => Res.guard (walkOk st x) ((vDic x).bind fun p => .ok p.2)
  | .rev a, s => (evalE a s).bind fun x => Res.guard (walkOk st x) ((vLst x).bind fun ds => .ok ds.reverse)
  | .sgn a, s => (evalE a s).bind fun x => match x with
      | .str z => .ok (z.cps.toList.map fun c => .str ⟨#[c]⟩)
      | _ => .stuck
end

/-! ## statements -/
inductive Out where
  | nx (s : Sl)
  | rt (d : D) (s : Sl)
  | bk (s : Sl)
  | ct (s : Sl)
  | ex (c : Nat) (ds : List D) (s : Sl)
  | stuck
def Out.ofRes {α : Type} (s : Sl) (r : Res α) (f : α → Out) : Out := match r with
  | .ok a => f a
  | .ex c ds => .ex c ds s
  | .stuck => .stuck
@[simp] theorem Out.ofRes_ok {α : Type} (s : Sl) (a : α) (f : α → Out) : Out.ofRes s (.ok a) f = f a := rfl
@[simp] theorem Out.ofRes_ex {α : Type} (s : Sl) (c : Nat) (ds : List D) (f : α → Out) : Out.ofRes s (.ex c ds : Res α) f = .ex c ds s := rfl
@[simp] theorem Out.ofRes_stuck {α : Type} (s : Sl) (f : α → Out) : Out.ofRes s (.stuck : Res α) f = .stuck := rfl
def Out.bind (o : Out) (f : Sl → Out) : Out := match o with
  | .nx s => f s
  | o => o
@[simp] theorem Out.bind_nx (s : Sl) (f : Sl → Out) : (Out.nx s).bind f = f s := rfl
@[simp] theorem Out.bind_rt (d : D) (s : Sl) (f : Sl → Out) : (Out.rt d s).bind f = .rt d s := rfl
@[simp] theorem Out.bind_bk (s : Sl) (f : Sl → Out) : (Out.bk s).bind f = .bk s := rfl
@[simp] theorem Out.bind_ct (s : Sl) (f : Sl → Out) : (Out.ct s).bind f = .ct s := rfl
@[simp] theorem Out.bind_ex (c : Nat) (ds : List D) (s : Sl) (f : Sl → Out) : (Out.ex c ds s).bind f = .ex c ds s := rfl
@[simp] theorem Out.bind_stuck (f : Sl → Out) : Out.stuck.bind f = .stuck := rfl

def viewS (s : Sl) : Sl := s.map fun o => o.map (D.own2 .vw)
/-- the slot i may be stored to: no parameter's own object stands there -/
def freeAt (np : Nat) (s : Sl) (i : Nat) : Bool := !(decide (i < np) && (match s[i]? with
  | some (some d) => decide (d.md = .own)
  | _ => false))
def notVw (d : D) : Bool := !(decide (d.md = .vw))
/-- target = d by statements -/
def setS (np : Nat) (i : Nat) (d : D) (s : Sl) : Option Sl := if (freeAt np s i && notVw d) = true then some (s.set i (some d)) else none
mutual
def bindS (np : Nat) : Tg → D → Sl → Option Sl
  | .nm i, d, s => setS np i d s
  | .tp gs, .tup _ ds, s => bindSs np gs ds s
  | .tp _, _, _ => none
def bindSs (np : Nat) : List Tg → List D → Sl → Option Sl
  | [], [], s => some s
  | g :: gs, d :: ds, s => (bindS np g d s).bind fun s' => bindSs np gs ds s'
  | _, _, _ => none
end
/-! stores along a path of own nodes -/
inductive RS where
  | ix (d : D)
  | fld (f : Nat)
def setKey (k : Key) (y : D) : List Key → List D → List D
  | q :: ks, d :: ds => if q = k then y :: ds else d :: setKey k y ks ds
  | _, ds => ds
def setFld (f : Nat) (y : D) : List Nat → List D → List D
  | q :: fs, d :: ds => if q = f then y :: ds else d :: setFld f y fs ds
  | _, ds => ds
def updAt (g : D → Option D) : List RS → D → Option D
  | [], d => g d
  | .ix k :: r, .lst .own ds => match k with
    | .int i => (ixN ds.length i).bind fun j => (ds[j]?).bind fun d => (updAt g r d).map fun d' => .lst .own (ds.set j d')
    | _ => none
  | .ix k :: r, .dic .own ks ds => (D.key k).bind fun q => (atKeyD q ks ds).bind fun d => (updAt g r d).map fun d' => .dic .own ks (setKey q d' ks ds)
  | .fld f :: r, .ins .own c fs ds => (atFld f fs ds).bind fun d => (updAt g r d).map fun d' => .ins .own c fs (setFld f d' fs ds)
  | _, _ => none
def kept (o : Bool) (d : D) : D := if o then d else d.own2 .fz
def gApp (y : D) : D → Option D
  | .lst .own ds => if ds.length < sizeLine then some (.lst .own (ds ++ [y])) else none
  | _ => none
def gPut (k y : D) : D → Option D
  | .lst .own ds => match k with
    | .int i => (ixN ds.length i).map fun j => .lst .own (ds.set j y)
    | _ => none
  | .dic .own ks ds => (D.key k).bind fun q => if ks.length < sizeLine then (if (ks.any fun p => decide (p = q)) = true then some (.dic .own ks (setKey q y ks ds)) else some (.dic .own (ks ++ [q]) (ds ++ [y]))) else none
  | _ => none
def gFput (ok : Nat → Nat → Bool) (f : Nat) (y : D) : D → Option D
  | .ins .own c fs ds => if (ok c f && decide (fs.length < 900)) = false then none else if fs.any (fun p => decide (p = f)) then some (.ins .own c fs (setFld f y fs ds)) else some (.ins .own c (fs ++ [f]) (ds ++ [y]))
  | _ => none
def gExt (ys : List D) : D → Option D
  | .lst .own ds => if ds.length + ys.length ≤ sizeLine then some (.lst .own (ds ++ ys)) else none
  | _ => none
def gClr : D → Option D
  | .lst .own _ => some (.lst .own [])
  | .dic .own _ _ => some (.dic .own [] [])
  | _ => none
def atSlot (i : Nat) (rs : List RS) (g : D → Option D) (s : Sl) : Out := match s[i]? with
  | some (some d) => match updAt g rs d with
    | some d' => .nx (s.set i (some d'))
    | none => .stuck
  | _ => .stuck
/-- what stands at a path of own nodes is of this kind -/
def hasAt (i : Nat) (rs : List RS) (k : D → Bool) (s : Sl) : Bool := match s[i]? with
  | some (some d) => (updAt (fun d => if k d = true then some d else none) rs d).isSome
  | _ => false
def isLstO : D → Bool
  | .lst .own _ => true
  | _ => false
def evalSt : List Stp → Sl → Res (List RS)
  | [], _ => .ok []
  | .ix t :: r, s => (evalE G t s).bind fun d => (evalSt r s).bind fun rs => .ok (.ix d :: rs)
  | .fld f :: r, s => (evalSt r s).bind fun rs => .ok (.fld f :: rs)
/-- a for's loop -/
def forL (bnd : D → Sl → Option Sl) (body : Sl → Out) : List D → Sl → Out
  | [], s => .nx s
  | d :: ds, s => match bnd d s with
    | none => .stuck
    | some s1 => match body s1 with
      | .nx s2 => forL bnd body ds s2
      | .ct s2 => forL bnd body ds s2
      | .bk s2 => .nx s2
      | o => o
/-- a while's loop -/
inductive WhR (step : Sl → Sl ⊕ Out) : Sl → Out → Prop
  | stop {s o} : step s = .inr o → WhR step s o
  | more {s s' o} : step s = .inl s' → WhR step s' o → WhR step s o
open Classical in
noncomputable def whileV (step : Sl → Sl ⊕ Out) (s : Sl) : Out := if h : ∃ o, WhR step s o then h.choose else .stuck
theorem WhR.det {step : Sl → Sl ⊕ Out} {s : Sl} {o o' : Out} (a : WhR step s o) (b : WhR step s o') : o = o' := by
  induction a with
  | stop e => cases b with
    | stop e' => rw [e] at e'; exact Sum.inr.inj e'
    | more e' _ => rw [e] at e'; cases e'
  | more e _ ih => cases b with
    | stop e' => rw [e] at e'; cases e'
    | more e' b => rw [e] at e'; cases e'; exact ih b
theorem whileV_eq {step : Sl → Sl ⊕ Out} {s : Sl} {o : Out} (h : WhR step s o) : whileV step s = o := by
  have hx : ∃ o, WhR step s o := ⟨o, h⟩
  unfold whileV
  rw [dif_pos hx]
  exact hx.choose_spec.det h
theorem whileV_rel {step : Sl → Sl ⊕ Out} {s : Sl} (h : whileV step s ≠ .stuck) : WhR step s (whileV step s) := by
  unfold whileV at h ⊢
  split
  · next hx => exact hx.choose_spec
  · next hx => rw [dif_neg hx] at h; exact absurd rfl h
theorem whileV_step {step : Sl → Sl ⊕ Out} {s s' : Sl} (h : step s = .inl s') : whileV step s = whileV step s' := by
  by_cases hx : ∃ o, WhR step s' o
  · obtain ⟨o, ho⟩ := hx
    rw [whileV_eq ho, whileV_eq (.more h ho)]
  · have hy : ¬ ∃ o, WhR step s o := fun ⟨o, ho⟩ => by
      cases ho with
      | stop e => rw [h] at e; cases e
      | more e b => rw [h] at e; cases e; exact hx ⟨o, b⟩
    unfold whileV
    rw [dif_neg hx, dif_neg hy]
theorem whileV_stop {step : Sl → Sl ⊕ Out} {s : Sl} {o : Out} (h : step s = .inr o) : whileV step s = o := whileV_eq (.stop h)

variable (W : (Sl → Sl ⊕ Out) → Sl → Out) (np : Nat)
def toStep (s : Sl) (r : Res Bool) (b : Sl → Out) : Sl ⊕ Out := match r with
  | .ok true => match b s with
    | .nx s' => .inl s'
    | .ct s' => .inl s'
    | .bk s' => .inr (.nx s')
    | o => .inr o
  | .ok false => .inr (.nx s)
  | .ex c ds => .inr (.ex c ds s)
  | .stuck => .inr .stuck
def ofOpt (o : Option Sl) : Out := match o with
  | some s => .nx s
  | none => .stuck
@[simp] theorem ofOpt_some (s : Sl) : ofOpt (some s) = .nx s := rfl
mutual
def exec : Cm → Sl → Out
  | .set i t, s => Out.ofRes s (evalE G t (viewS s)) fun d => ofOpt (setS np i d s)
  | .unp g t, s => Out.ofRes s (evalE G t (viewS s)) fun d => ofOpt (bindS np g d s)
  | .par i j a b, s => Out.ofRes s (evalE G a (viewS s)) fun x => Out.ofRes s (evalE G b (viewS s)) fun y => ofOpt ((setS np i x s).bind fun s' => setS np j y s')
  | .aug i o t, s => Out.ofRes s (evalE G t (viewS s)) fun y => Out.ofRes s (evalE G (.var i) (viewS s)) fun x => match x, y with
      | .int _, .int _ => Out.ofRes s (vBop o x y) fun d => ofOpt (setS np i d s)
      | .str _, .str _ => Out.ofRes s (vBop o x y) fun d => ofOpt (setS np i d s)
      | _, _ => .stuck
  | .put o i ss ix t, s => Out.ofRes s (evalE G t (viewS s)) fun y => Out.ofRes s (evalSt G ss (viewS s)) fun rs => if hasAt i rs (fun d => decide (d.md = .own)) s = true then Out.ofRes s (evalE G ix (viewS s)) fun k =>
      if y.cl = true then atSlot i rs (gPut k (kept o y)) s else .stuck else .stuck
  | .fput o i ss f t, s => Out.ofRes s (evalE G t (viewS s)) fun y => Out.ofRes s (evalSt G ss (viewS s)) fun rs =>
      if y.cl = true then atSlot i rs (gFput G.fok f (kept o y)) s else .stuck
  | .app o i ss t, s => Out.ofRes s (evalSt G ss (viewS s)) fun rs => if hasAt i rs isLstO s = true then Out.ofRes s (evalE G t (viewS s)) fun y =>
      if y.cl = true then atSlot i rs (gApp (kept o y)) s else .stuck else .stuck
  | .ext i ss t, s => Out.ofRes s (evalSt G ss (viewS s)) fun rs => if hasAt i rs isLstO s = true then Out.ofRes s (evalE G t (viewS s)) fun y => match y with
      | .lst m ds => if (ds.all D.cl && !(decide (m = .vw)) && !(decide (m = .br))) = true then atSlot i rs (gExt (D.own2s .fz ds)) s else .stuck
      | _ => .stuck else .stuck
  | .clr i ss, s => Out.ofRes s (evalSt G ss (viewS s)) fun rs => atSlot i rs gClr s
  | .ex t, s => Out.ofRes s (evalE G t (viewS s)) fun _ => .nx s
  | .ini f es, s => Out.ofRes s (evalL G es (viewS s)) fun ds => match (s[0]? : Option (Option D)) with
      | some (some (.ins .own c fs vs)) => match G.call f (.ins .own c fs vs :: ds.map D.arg) with
        | .ret _ (some d :: _) => .nx (s.set 0 (some d))
        | .ex c ds _ => .ex c ds (s.set 0 none)
        | _ => .stuck
      | _ => .stuck
  | .ret t, s => Out.ofRes s (evalE G t (viewS s)) fun d => if d.cl = true then .rt d s else .stuck
  | .retv i, s => match s[i]? with
      | some (some d) => if (d.cl && decide (np ≤ i)) = true then .rt d (s.set i none) else .stuck
      | _ => .stuck
  | .ret0, s => .rt .non s
  | .ite c a b, s => Out.ofRes s ((evalE G c (viewS s)).bind vTru) fun r => if r = true then execs a s else execs b s
  | .whl c b, s => W (fun s => toStep s ((evalE G c (viewS s)).bind vTru) (fun s => execs b s)) s
  | .for_ g it b, s => Out.ofRes s (evalI G true it (viewS s)) fun ds => forL (bindS np g) (fun s => execs b s) ds s
  | .brk, s => .bk s
  | .cnt, s => .ct s
  | .pas, s => .nx s
  | .rai c es, s => Out.ofRes s (evalL G es (viewS s)) fun ds => if ds.all D.cl = true then .ex c (D.own2s .fz ds) s else .stuck
  | .frz i, s => match s[i]? with
      | some (some d) => if (freeAt np s i) = true then .nx (s.set i (some (d.own2 .fz))) else .stuck
      | _ => .stuck
  | .frzc i, s => match (s[i]? : Option (Option D)) with
      | some (some (.lst .own ds)) => .nx (s.set i (some (.lst .own (D.own2s .fz ds))))
      | some (some (.dic .own ks ds)) => .nx (s.set i (some (.dic .own ks (D.own2s .fz ds))))
      | _ => .stuck
  | .never, _ => .stuck
def execs : List Cm → Sl → Out
  | [], s => .nx s
  | c :: cs, s => (exec c s).bind fun s' => execs cs s'
end

/-! ## defs by levels -/
structure Df where
  np : Nat
  ns : Nat
  code : List Cm
  dfl : List D
structure TB where
  defs : Nat → Option Df
  glob : Nat → D
  meth : Nat → Nat → Option Nat
  frz : Nat → Bool
  sub : Nat → List Nat
  init : Nat → Option Nat
  fok : Nat → Nat → Bool
def finsOf : List D → Sl → Sl
  | a :: as, o :: s => (if a.md = .own then o else none) :: finsOf as s
  | _, _ => []
def Out.toRO (args : List D) : Out → RO
  | .nx s => .ret .non (finsOf args s)
  | .rt d s => .ret d (finsOf args s)
  | .ex c ds s => if ds.all D.cl = true then .ex c ds [] else .stuck
  | _ => .stuck
def startS (df : Df) (args : List D) : Sl := args.map some ++ List.replicate (df.ns - args.length) none
def fill (df : Df) (ds : List D) : List D := ds ++ df.dfl.drop (df.dfl.length - (df.np - ds.length))
def GEof (T : TB) (p : (Nat → List D → RO) × (Nat → List D → RO)) : GE := ⟨p.1, p.2, T.glob, T.meth, T.frz, T.sub, T.init, T.fok⟩
def runDf (G : GE) (W : (Sl → Sl ⊕ Out) → Sl → Out) (df : Df) (args : List D) : RO := (execs G W df.np df.code (startS df args)).toRO args
def runs (T : TB) (W : (Sl → Sl ⊕ Out) → Sl → Out) : Nat → (Nat → List D → RO) × (Nat → List D → RO)
  | 0 => (fun _ _ => .stuck, fun _ _ => .stuck)
  | k + 1 => (fun f ds => match T.defs f with
      | some df => if (fill df ds).length = df.np ∧ ds.length ≤ df.np then runDf (GEof T (runs T W k)) W df (fill df ds) else .stuck
      | none => .stuck, (runs T W k).1)
end GS

namespace GS
open PySem PySem.Spec PyProof.Rows L2

/-! ## the weakest readings -/
section
variable (X : Cx)
def WE (e : Expr) : TE := fun σ H Q => ∃ t, PE X e t ∧ t σ H Q
theorem we {X : Cx} {e : Expr} : PE X e (WE X e) := ⟨fun pins s σ H Q I ⟨t, h, q⟩ => h.run pins s σ H Q I q⟩
def WT (e : Expr) : TT := fun σ H Q => ∃ t, PT X e t ∧ t σ H Q
theorem wt {X : Cx} {e : Expr} : PT X e (WT X e) := ⟨fun pins s σ H Q I ⟨t, h, q⟩ => h.run pins s σ H Q I q⟩
def WP (e : Expr) : TT := fun σ H Q => ∃ t, PW X e t ∧ t σ H Q
theorem wp_ {X : Cx} {e : Expr} : PW X e (WP X e) := ⟨fun w pins s σ H Q I ⟨t, h, q⟩ => h.run w pins s σ H Q I q⟩
def WA (es : List Expr) : TA := fun σ H Q => ∃ t, PA X es t ∧ t σ H Q
theorem wa {X : Cx} {es : List Expr} : PA X es (WA X es) := ⟨fun p pins s σ H Q I ⟨t, h, q⟩ => h.run p pins s σ H Q I q⟩
def WS (st : Stmt) : TS := fun D σ H => ∃ t, PS X st t ∧ t D σ H
theorem ws {X : Cx} {st : Stmt} : PS X st (WS X st) := ⟨fun pins s σ H D I ⟨t, h, q⟩ => h.run pins s σ H D I q⟩
def WSs (st : List Stmt) : TS := fun D σ H => ∃ t, PSs X st t ∧ t D σ H
theorem wss {X : Cx} {st : List Stmt} : PSs X st (WSs X st) := ⟨fun pins s σ H D I ⟨t, h, q⟩ => h.run pins s σ H D I q⟩
def WOp (f : Value → Value → Sem Value) : R2 := fun x y H Q => ∃ r, OpR X f r ∧ r x y H Q
theorem wop {X : Cx} {f : Value → Value → Sem Value} : OpR X f (WOp X f) := fun pins s σ H x y v u Q I rx ry ⟨r, h, q⟩ => h pins s σ H x y v u Q I rx ry q
def WCall (f : Value) : List V → Hp → VK → Prop := fun xs H Q => ∃ r, CallR X f r ∧ r xs H Q
theorem wcall {X : Cx} {f : Value} : CallR X f (WCall X f) := fun pins s σ H xs us Q I r ⟨t, h, q⟩ => h pins s σ H xs us Q I r q
def WTru : V → Hp → (Bool → Hp → Prop) → Prop := fun x H Q => ∃ r, TruR X r ∧ r x H Q
theorem wtru {X : Cx} : TruR X (WTru X) := fun pins s σ H x v Q I rx ⟨r, h, q⟩ => h pins s σ H x v Q I rx q
def WIx : R2 := fun x y H Q => ∃ r, IxR X r ∧ r x y H Q
end

/-! ## results and what is wanted -/
def PR {α : Type} (r : Res α) (K : α → Prop) (E : Nat → List D → Prop) : Prop := match r with
  | .ok a => K a
  | .ex c ds => E c ds
  | .stuck => False
theorem PR.imp {α : Type} {r : Res α} {K K' : α → Prop} {E E' : Nat → List D → Prop} (h : PR r K E) (hk : ∀ a, r = .ok a → K a → K' a) (he : ∀ c ds, E c ds → E' c ds) : PR r K' E' := by
  cases r with
  | ok a => exact hk a rfl h
  | ex c ds => exact he c ds h
  | stuck => exact h
theorem PR.bind {α β : Type} {r : Res α} {f : α → Res β} {K : β → Prop} {E : Nat → List D → Prop} (h : PR (r.bind f) K E) : PR r (fun a => PR (f a) K E) E := by
  cases r <;> exact h
theorem PR.unbind {α β : Type} {r : Res α} {f : α → Res β} {K : β → Prop} {E : Nat → List D → Prop} (h : PR r (fun a => PR (f a) K E) E) : PR (r.bind f) K E := by
  cases r <;> exact h
theorem PR.guard {α : Type} {b : Bool} {r : Res α} {K : α → Prop} {E : Nat → List D → Prop} (h : PR (Res.guard b r) K E) : b = true ∧ PR r K E := by
  cases b with
  | true => exact ⟨rfl, h⟩
  | false => exact False.elim h
theorem PR.ofOpt {α : Type} {o : Option α} {K : α → Prop} {E : Nat → List D → Prop} (h : PR (Res.ofOpt o) K E) : ∃ a, o = some a ∧ K a := by
  cases o with
  | some a => exact ⟨a, rfl, h⟩
  | none => exact False.elim h
theorem PR.noEx {α : Type} {r : Res α} {K : α → Prop} {E E' : Nat → List D → Prop} (h : PR r.noEx K E) : PR r K E' := by
  cases r with
  | ok a => exact h
  | _ => exact False.elim h

/-! ## states -/
/-- a step that changes nothing that stood -/
structure St0 (M : MM) (H : Hp) (M' : MM) (H' : Hp) : Prop where
  k : ∀ a, H a ≠ none → H' a = H a ∧ M' a = M a
  d : ∀ a, M' a ≠ none → H' a ≠ none
def Dom (M : MM) (H : Hp) : Prop := ∀ a, M a ≠ none → H a ≠ none
theorem St0.refl {M : MM} {H : Hp} (d : Dom M H) : St0 M H M H := ⟨fun _ _ => ⟨rfl, rfl⟩, d⟩
theorem St0.trans {M M1 M2 : MM} {H H1 H2 : Hp} (a : St0 M H M1 H1) (b : St0 M1 H1 M2 H2) : St0 M H M2 H2 := ⟨fun x hx => by
  obtain ⟨e1, e2⟩ := a.k x hx
  obtain ⟨e3, e4⟩ := b.k x (by rw [e1]; exact hx)
  exact ⟨e3.trans e1, e4.trans e2⟩, b.d⟩
theorem St0.fresh {M M1 : MM} {H H1 : Hp} (a : St0 M H M1 H1) {x : Addr} (h : H1 x = none) : H x = none := by
  cases e : H x with
  | none => rfl
  | some o => rw [(a.k x (by rw [e]; simp)).1, e] at h; cases h
section
variable {c : RC} {M M' : MM} {H H' : Hp}
theorem Rep.step {d : D} {v : V} {l : List Addr} (r : Rep c M H d v l) (hd : Dom M H) (s : St0 M H M' H') : Rep c M' H' d v l :=
  Rep.mono d r fun a ha _ _ => ⟨(s.k a (hd a ha)).2, .inl (s.k a (hd a ha)).1, fun _ => (s.k a (hd a ha)).1⟩
theorem Reps.step {p : Md} {ds : List D} {vs : List V} {l : List Addr} (r : Reps c M H p ds vs l) (hd : Dom M H) (s : St0 M H M' H') : Reps c M' H' p ds vs l :=
  Reps.mono ds r fun a ha _ _ => ⟨(s.k a (hd a ha)).2, .inl (s.k a (hd a ha)).1, fun _ => (s.k a (hd a ha)).1⟩
end
/-- a list of values of any modes -/
def RepA (c : RC) (M : MM) (H : Hp) : List D → List V → List Addr → Prop
  | [], vs, l => vs = [] ∧ l = []
  | d :: ds, vs, l => ∃ v vs' l1 l2, vs = v :: vs' ∧ Rep c M H d v l1 ∧ RepA c M H ds vs' l2 ∧ l = l1 ++ l2
theorem RepA.step {c : RC} {M M' : MM} {H H' : Hp} (hd : Dom M H) (s : St0 M H M' H') : ∀ {ds : List D} {vs : List V} {l : List Addr}, RepA c M H ds vs l → RepA c M' H' ds vs l
  | [], _, _, h => h
  | _ :: _, _, _, ⟨v, vs', l1, l2, e, r1, r2, hl⟩ => ⟨v, vs', l1, l2, e, r1.step hd s, RepA.step hd s r2, hl⟩
theorem RepA.len {c : RC} {M : MM} {H : Hp} : ∀ {ds : List D} {vs : List V} {l : List Addr}, RepA c M H ds vs l → vs.length = ds.length
  | [], _, _, h => by rw [h.1]; rfl
  | _ :: _, _, _, ⟨v, vs', l1, l2, e, r1, r2, hl⟩ => by rw [e]; simp [RepA.len r2]
theorem RepA.own {c : RC} {M : MM} {H : Hp} : ∀ {ds : List D} {vs : List V} {l : List Addr}, RepA c M H ds vs l → ∀ a ∈ l, M a = some .own ∧ H a ≠ none
  | [], _, _, h, a, ha => by rw [h.2] at ha; cases ha
  | d :: _, _, _, ⟨v, vs', l1, l2, e, r1, r2, hl⟩, a, ha => by
    rw [hl, List.mem_append] at ha
    rcases ha with ha | ha
    · exact Rep.owns d r1 a ha
    · exact RepA.own r2 a ha
/-- the slots as expressions see them -/
structure RelS (c : RC) (M : MM) (s : Sl) (σ : L2.St) (H : Hp) : Prop where
  len : s.length = σ.length
  dom : Dom M H
  at_ : ∀ (i : Nat) (d : D), s[i]? = some (some d) → ∃ v, σ[i]? = some (some v) ∧ Rep c M H d v []
theorem RelS.step {c : RC} {M M' : MM} {s : Sl} {σ : L2.St} {H H' : Hp} (R : RelS c M s σ H) (st : St0 M H M' H') : RelS c M' s σ H' :=
  ⟨R.len, st.d, fun i d e => let ⟨v, h1, h2⟩ := R.at_ i d e; ⟨v, h1, h2.step R.dom st⟩⟩

/-! ## what is wanted of an expression -/
/-- an exception's own dict holds its fields -/
def XRep (c : RC) (xf : Nat → List Nat) (M : MM) (H : Hp) (e : Nat) (xs : List D) (dx : Option Addr) : Prop := match xs with
  | [] => dx = none
  | _ => ∃ a vs, dx = some a ∧ RepA c M H xs vs [] ∧ H a = some (.xd (((xf e).map c.an).zip vs).reverse)
structure Env' where
  c : RC
  /-- an exception's fields -/
  xf : Nat → List Nat
  /-- defs: names, addresses; classes' names; the names of the module's constants -/
  fn : Nat → Str
  fa : Nat → Addr
  cn : Nat → Str
  gn : Nat → Str
  /-- the defs that are called by name; the classes -/
  okf : Nat → Bool
  okc : Nat → Bool
theorem Keep1.trans {H H1 H2 : Hp} {a : Addr} (x : Keep1 H H1 a) (y : Keep1 H1 H2 a) : Keep1 H H2 a := by
  rcases x with e | ⟨q, h1, h2⟩
  · rcases y with e' | ⟨q, h1, h2⟩
    · exact .inl (e'.trans e)
    · exact .inr ⟨q, by unfold Rd at *; rw [← e]; exact h1, h2⟩
  · exact .inr ⟨q, h1, y.rd h2⟩
/-- behind an exception: dicts may still be locked -/
structure StX (M : MM) (H : Hp) (M' : MM) (H' : Hp) : Prop where
  k : ∀ a, H a ≠ none → Keep1 H H' a ∧ M' a = M a
  d : Dom M' H'
theorem Keep1.there {H H' : Hp} {a : Addr} (k : Keep1 H H' a) (h : H a ≠ none) : H' a ≠ none := by
  rcases k with e | ⟨q, _, h2⟩
  · rw [e]; exact h
  · rcases h2 with h2 | ⟨o, h2⟩ <;> (rw [h2]; simp)
theorem St0.x {M M' : MM} {H H' : Hp} (s : St0 M H M' H') : StX M H M' H' := ⟨fun a ha => ⟨.inl (s.k a ha).1, (s.k a ha).2⟩, s.d⟩
theorem StX.trans {M M1 M2 : MM} {H H1 H2 : Hp} (a : StX M H M1 H1) (b : StX M1 H1 M2 H2) : StX M H M2 H2 := ⟨fun x hx => by
  obtain ⟨e1, e2⟩ := a.k x hx
  obtain ⟨e3, e4⟩ := b.k x (e1.there hx)
  exact ⟨e1.trans e3, e4.trans e2⟩, b.d⟩
def PX (n : Env') (M : MM) (H : Hp) (W : XK) : Nat → List D → Prop := fun e xs => ∀ dx M' H', StX M H M' H' → XRep n.c n.xf M' H' e xs dx → W (.ref (n.c.ca e)) dx H'
theorem PX.step {n : Env'} {M M' : MM} {H H' : Hp} {W : XK} (st : St0 M H M' H') {e : Nat} {xs : List D} (h : PX n M H W e xs) : PX n M' H' W e xs := fun dx M2 H2 st2 x => h dx M2 H2 (st.x.trans st2) x
def PE1 (n : Env') (M : MM) (H : Hp) (Q : VK) (d : D) : Prop := ∀ v M' H' l, St0 M H M' H' → Rep n.c M' H' d v l → (∀ a ∈ l, H a = none) → l.Nodup → Q v H'
def PA1 (n : Env') (M : MM) (H : Hp) (Q : List V → Hp → Prop) (ds : List D) : Prop := ∀ vs M' H' l, St0 M H M' H' → RepA n.c M' H' ds vs l → (∀ a ∈ l, H a = none) → l.Nodup → Q vs H'
def PT1 (M : MM) (H : Hp) (Q : Bool → Hp → Prop) (b : Bool) : Prop := ∀ M' H', St0 M H M' H' → Q b H'

/-- the context is a fit one -/
structure FX (n : Env') (X : Cx) : Prop where
  K : n.c.K = X.K
  calm : X.calm = true
  hu : X.A.units + 64 < cLine
  nd : X.N.Nodup
/-- an expression does what its small term says -/
def SE (n : Env') (G : GE) (X : Cx) (e : Expr) (t : Tm) : Prop := ∀ (W : WX), Takes X W → ∀ M s σ H Q, RelS n.c M s σ H → PR (evalE G t s) (PE1 n M H Q) (PX n M H fun cls d H' => W cls d σ H') → WE X e σ H Q
def SA (n : Env') (G : GE) (X : Cx) (es : List Expr) (ts : List Tm) : Prop := ∀ (W : WX), Takes X W → ∀ M s σ H Q, RelS n.c M s σ H → PR (evalL G ts s) (PA1 n M H Q) (PX n M H fun cls d H' => W cls d σ H') → WA X es σ H Q
/-- a test -/
def ST (n : Env') (G : GE) (X : Cx) (e : Expr) (t : Tm) : Prop := ∀ (W : WX), Takes X W → ∀ M s σ H Q, RelS n.c M s σ H → PR ((evalE G t s).bind vTru) (PT1 M H Q) (PX n M H fun cls d H' => W cls d σ H') → WT X e σ H Q

section
variable {n : Env'} {G : GE} {X : Cx} {W : WX} {M : MM} {H : Hp} {s : Sl} {σ : L2.St}
/-- laying a new node -/
def layM (M : MM) (p : Addr) (m : Md) : MM := fun a => if a = p then some m else M a
theorem layM_same {p : Addr} {m : Md} : layM M p m p = some m := if_pos rfl
theorem layM_ne {p a : Addr} {m : Md} (h : a ≠ p) : layM M p m a = M a := if_neg h
theorem St0.lay {p : Addr} {m : Md} {o : HO} (d : Dom M H) (hp : H p = none) : St0 M H (layM M p m) (upd H p o) := ⟨fun a ha => by
  have : a ≠ p := fun z => ha (by rw [z]; exact hp)
  exact ⟨upd_ne this, layM_ne this⟩, fun a ha => by
  by_cases z : a = p
  · rw [z, upd_same]; simp
  · rw [upd_ne z]; rw [layM_ne z] at ha; exact d a ha⟩

/-! ### names and constants -/
theorem se_var {i : Nat} {x : Str} {pos : Pos} (hN : X.N[i]? = some x) (hv : Vis X.env.scope x) (hd : (x == ("__debug__" : Str)) = false) (hcd : (x == ("__classdict__" : Str)) = false) : SE n G X (.Name x pos) (.var i) := by
  intro W tk M s σ H Q R h
  unfold evalE at h
  split at h
  · next d e =>
    obtain ⟨v, e1, r⟩ := R.at_ i d e
    exact ⟨_, pe_var hN hv hd hcd, v, e1, h v M H [] (St0.refl R.dom) r (fun _ z => nomatch z) .nil⟩
  · exact False.elim h
theorem PE1.now {Q : VK} {d : D} {v : V} (h : PE1 n M H Q d) (hd : Dom M H) (r : Rep n.c M H d v []) : Q v H := h v M H [] (St0.refl hd) r (fun _ z => nomatch z) .nil
theorem se_int {i : Int} {j : Nat} {pos : Pos} : SE n G X (.Constant (.int i) j pos) (.cst (.int i)) := fun W tk M s σ H Q R h => ⟨_, pe_int, PE1.now (d := .int i) (by unfold evalE at h; exact h) R.dom ⟨rfl, rfl⟩⟩
theorem se_bl {b : Bool} {j : Nat} {pos : Pos} : SE n G X (.Constant (.bool b) j pos) (.cst (.bl b)) := fun W tk M s σ H Q R h => ⟨_, pe_bl, PE1.now (d := .bl b) (by unfold evalE at h; exact h) R.dom ⟨rfl, rfl⟩⟩
theorem se_non {j : Nat} {pos : Pos} : SE n G X (.Constant .none j pos) (.cst .non) := fun W tk M s σ H Q R h => ⟨_, pe_non, PE1.now (d := .non) (by unfold evalE at h; exact h) R.dom ⟨rfl, rfl⟩⟩
theorem se_str {x : Str} {j : Nat} {pos : Pos} : SE n G X (.Constant (.str x) j pos) (.cst (.str x)) := fun W tk M s σ H Q R h => ⟨_, pe_str, PE1.now (d := .str x) (by unfold evalE at h; exact h) R.dom ⟨rfl, rfl⟩⟩

/-! ### two values -/
/-- two expressions, then something of both -/
theorem two' {a b : Expr} {ta tb : Tm} (ha : SE n G X a ta) (hb : SE n G X b tb) (tk : Takes X W) (R : RelS n.c M s σ H) {β : Type} {f : D → D → Res β} {K : β → Prop} {P : V → V → Hp → Prop}
    (h : PR ((evalE G ta s).bind fun x => (evalE G tb s).bind fun y => f x y) K (PX n M H fun cls d H' => W cls d σ H'))
    (hf : ∀ x y v u M' H' l1 l2, evalE G ta s = .ok x → evalE G tb s = .ok y → St0 M H M' H' → Rep n.c M' H' x v l1 → Rep n.c M' H' y u l2 → (∀ q ∈ l1 ++ l2, H q = none) → (l1 ++ l2).Nodup → PR (f x y) K (PX n M' H' fun cls d H' => W cls d σ H') → P v u H') :
    WE X a σ H fun v H1 => WE X b σ H1 fun u H2 => P v u H2 := by
  refine ha W tk M s σ H _ R (h.bind.imp (fun x ex hx v M1 H1 l1 s1 r1 f1 n1 => ?_) fun _ _ q => q)
  refine hb W tk M1 s σ H1 _ (R.step s1) (hx.bind.imp (fun y ey hy u M2 H2 l2 s2 r2 f2 n2 => ?_) fun _ _ q => q.step s1)
  refine hf x y v u M2 H2 l1 l2 ex ey (s1.trans s2) (r1.step s1.d s2) r2 (fun q hq => ?_) ?_ (hy.imp (fun _ _ z => z) fun _ _ z => z.step (s1.trans s2))
  · rcases List.mem_append.mp hq with hq | hq
    · exact f1 q hq
    · exact s1.fresh (f2 q hq)
  · refine List.nodup_append.mpr ⟨n1, n2, fun q hq r hr e => ?_⟩
    subst e
    exact absurd (f2 q hr) (Rep.owns x r1 q hq).2
theorem two {a b : Expr} {ta tb : Tm} (ha : SE n G X a ta) (hb : SE n G X b tb) (tk : Takes X W) (R : RelS n.c M s σ H) {β : Type} {f : D → D → Res β} {K : β → Prop} {P : V → V → Hp → Prop}
    (h : PR ((evalE G ta s).bind fun x => (evalE G tb s).bind fun y => f x y) K (PX n M H fun cls d H' => W cls d σ H'))
    (hf : ∀ x y v u M' H' l1 l2, St0 M H M' H' → Rep n.c M' H' x v l1 → Rep n.c M' H' y u l2 → (∀ q ∈ l1 ++ l2, H q = none) → (l1 ++ l2).Nodup → PR (f x y) K (PX n M' H' fun cls d H' => W cls d σ H') → P v u H') :
    WE X a σ H fun v H1 => WE X b σ H1 fun u H2 => P v u H2 := two' ha hb tk R h fun x y v u M' H' l1 l2 _ _ => hf x y v u M' H' l1 l2
end
end GS

namespace GS
open PySem PySem.Spec PyProof.Rows L2

section
variable {n : Env'} {G : GE} {X : Cx} {W : WX} {M M0 : MM} {H H0 : Hp} {s : Sl} {σ : L2.St}

/-! ### lists of trees under another node -/
theorem cl_md {d : D} (h : d.cl = true) : d.md = .own ∨ d.md = .fz := by
  unfold D.cl at h
  cases e : d.md <;> rw [e] at h <;> first | exact .inl rfl | exact .inr rfl | cases h
theorem Reps.frz {p : Md} {L : List Addr} : ∀ {ds : List D} {vs : List V} {l : List Addr}, Reps n.c M H p ds vs l → ds.all D.cl = true → (∀ a ∈ l, a ∈ L) → (∀ a ∈ L, M a = some .own) → Reps n.c (frzM M L) H .fz (D.own2s .fz ds) vs []
  | [], _, _, h, _, _, _ => ⟨h.1, rfl⟩
  | d :: ds, vs, l, h, hc, hs, hL => by
    obtain ⟨v, vs', l1, l2, e, ck, r1, r2, hl⟩ := h
    rw [List.all_cons, Bool.and_eq_true] at hc
    refine ⟨v, vs', [], [], e, ?_, Rep.freeze L d r1 (fun b hb => hs b (by rw [hl]; simp [hb])) hL hc.1, Reps.frz r2 hc.2 (fun b hb => hs b (by rw [hl]; simp [hb])) hL, rfl⟩
    rw [own2_md]
    rcases cl_md hc.1 with e | e <;> rw [e] <;> rfl
theorem Reps.under {p : Md} : ∀ {ds : List D} {vs : List V} {l : List Addr}, Reps n.c M H .fz ds vs l → Reps n.c M H p ds vs l
  | [], _, _, h => h
  | d :: ds, vs, l, h => by
    obtain ⟨v, vs', l1, l2, e, ck, r1, r2, hl⟩ := h
    refine ⟨v, vs', l1, l2, e, ?_, r1, Reps.under r2, hl⟩
    have : d.md = .fz := by cases hm : d.md <;> rw [hm] at ck <;> simp [chOk] at ck
    rw [this]; cases p <;> rfl
theorem RepA.to : ∀ {ds : List D} {vs : List V} {l : List Addr}, RepA n.c M H ds vs l → ds.all D.cl = true → Reps n.c M H .own ds vs l
  | [], _, _, h, _ => h
  | d :: ds, vs, l, h, hc => by
    obtain ⟨v, vs', l1, l2, e, r1, r2, hl⟩ := h
    rw [List.all_cons, Bool.and_eq_true] at hc
    refine ⟨v, vs', l1, l2, e, ?_, r1, RepA.to r2 hc.2, hl⟩
    rcases cl_md hc.1 with e | e <;> rw [e] <;> rfl
theorem Reps.toA {p : Md} : ∀ {ds : List D} {vs : List V} {l : List Addr}, Reps n.c M H p ds vs l → RepA n.c M H ds vs l
  | [], _, _, h => h
  | d :: ds, vs, l, h => by
    obtain ⟨v, vs', l1, l2, e, ck, r1, r2, hl⟩ := h
    exact ⟨v, vs', l1, l2, e, r1, Reps.toA r2, hl⟩
theorem Reps.len {p : Md} {ds : List D} {vs : List V} {l : List Addr} (h : Reps n.c M H p ds vs l) : vs.length = ds.length := (Reps.toA h).len
theorem own2s_len (m : Md) (ds : List D) : (D.own2s m ds).length = ds.length := by rw [own2s_map]; simp
theorem Reps.get {p : Md} : ∀ {ds : List D} {vs : List V} {l : List Addr} {i : Nat} {d : D}, Reps n.c M H p ds vs l → ds[i]? = some d → ∃ v l', vs[i]? = some v ∧ Rep n.c M H d v l' ∧ l'.Sublist l ∧ chOk p d.md = true
  | [], _, _, _, _, _, e => by simp at e
  | x :: ds, vs, l, 0, d, h, e => by
    obtain ⟨v, vs', l1, l2, ev, ck, r1, r2, hl⟩ := h
    simp at e; subst e
    exact ⟨v, l1, by rw [ev]; rfl, r1, by rw [hl]; exact List.sublist_append_left _ _, ck⟩
  | x :: ds, vs, l, i + 1, d, h, e => by
    obtain ⟨v, vs', l1, l2, ev, ck, r1, r2, hl⟩ := h
    obtain ⟨w, l', e1, r, hs, ck'⟩ := Reps.get r2 (by simpa using e)
    exact ⟨w, l', by rw [ev]; simpa using e1, r, by rw [hl]; exact hs.trans (List.sublist_append_right _ _), ck'⟩
theorem Reps.drop {p : Md} : ∀ (k : Nat) {ds : List D} {vs : List V} {l : List Addr}, Reps n.c M H p ds vs l → ∃ l', Reps n.c M H p (ds.drop k) (vs.drop k) l' ∧ ∀ a ∈ l', a ∈ l
  | 0, _, _, l, h => ⟨l, h, fun _ z => z⟩
  | k + 1, [], vs, l, h => ⟨[], by rw [h.1]; exact ⟨by simp, rfl⟩, fun _ z => nomatch z⟩
  | k + 1, d :: ds, vs, l, h => by
    obtain ⟨v, vs', l1, l2, ev, ck, r1, r2, hl⟩ := h
    obtain ⟨l', r, hs⟩ := Reps.drop k r2
    exact ⟨l', by rw [ev]; exact r, fun a ha => by rw [hl]; simp [hs a ha]⟩
theorem Reps.take {p : Md} : ∀ (k : Nat) {ds : List D} {vs : List V} {l : List Addr}, Reps n.c M H p ds vs l → ∃ l', Reps n.c M H p (ds.take k) (vs.take k) l' ∧ ∀ a ∈ l', a ∈ l
  | 0, _, _, l, h => ⟨[], ⟨by simp, rfl⟩, fun _ z => nomatch z⟩
  | k + 1, [], vs, l, h => ⟨[], by rw [h.1]; exact ⟨by simp, rfl⟩, fun _ z => nomatch z⟩
  | k + 1, d :: ds, vs, l, h => by
    obtain ⟨v, vs', l1, l2, ev, ck, r1, r2, hl⟩ := h
    obtain ⟨l', r, hs⟩ := Reps.take k r2
    refine ⟨l1 ++ l', by rw [ev]; exact ⟨v, vs'.take k, l1, l', rfl, ck, r1, r, rfl⟩, fun a ha => ?_⟩
    rw [hl]
    rcases List.mem_append.mp ha with ha | ha
    · simp [ha]
    · simp [hs a ha]
theorem Reps.append {p : Md} : ∀ {ds es : List D} {vs us : List V} {l l' : List Addr}, Reps n.c M H p ds vs l → Reps n.c M H p es us l' → Reps n.c M H p (ds ++ es) (vs ++ us) (l ++ l')
  | [], _, _, _, _, _, h, h' => by rw [h.1, h.2]; exact h'
  | d :: ds, es, vs, us, l, l', h, h' => by
    obtain ⟨v, vs', l1, l2, ev, ck, r1, r2, hl⟩ := h
    exact ⟨v, vs' ++ us, l1, l2 ++ l', by rw [ev]; rfl, ck, r1, Reps.append r2 h', by rw [hl]; simp⟩
theorem st0_frz {L : List Addr} (st : St0 M0 H0 M H) (f : ∀ a ∈ L, H0 a = none) (hL : ∀ a ∈ L, H a ≠ none) : St0 M0 H0 (frzM M L) H := ⟨fun a ha => by
  obtain ⟨e1, e2⟩ := st.k a ha
  exact ⟨e1, (frzM_out fun z => ha (f a z)).trans e2⟩, fun a ha => by
  by_cases z : a ∈ L
  · exact hL a z
  · rw [frzM_out z] at ha; exact st.d a ha⟩
theorem Dom.frz {L : List Addr} (d : Dom M H) (hL : ∀ a ∈ L, M a = some .own) : Dom (frzM M L) H := fun a ha => by
  by_cases z : a ∈ L
  · exact d a (by rw [hL a z]; simp)
  · rw [frzM_out z] at ha; exact d a ha
/-- a new list of given trees (frozen) -/
theorem new_lst {p : Md} {ds : List D} {vs : List V} {l : List Addr} {Q : VK} (st : St0 M0 H0 M H) (r : Reps n.c M H p ds vs l) (hc : ds.all D.cl = true) (f : ∀ a ∈ l, H0 a = none) (h : PE1 n M0 H0 Q (.lst .own (D.own2s .fz ds))) (q : Addr) (hq : H q = none) : Q (.ref q) (upd H q (.lst vs)) := by
  have ow := Reps.owns ds r
  have r1 := Reps.frz (L := l) r hc (fun _ z => z) (fun a z => (ow a z).1)
  have d1 := Dom.frz st.d (fun a z => (ow a z).1) (L := l)
  have s1 := st0_frz st f (fun a z => (ow a z).2)
  refine h _ _ _ [q] (s1.trans (St0.lay (m := .own) (o := .lst vs) d1 hq)) ?_ (fun a ha => ?_) (by simp)
  · exact ⟨q, vs, [], rfl, .inl ⟨layM_same, upd_same⟩, (r1.step d1 (St0.lay d1 hq)).under, rfl⟩
  · have : a = q := by simpa using ha
    subst this
    exact st.fresh hq
theorem new_lstO {ds : List D} {vs : List V} {l : List Addr} {Q : VK} (st : St0 M0 H0 M H) (r : Reps n.c M H .own ds vs l) (f : ∀ a ∈ l, H0 a = none) (nd : l.Nodup) (h : PE1 n M0 H0 Q (.lst .own ds)) (q : Addr) (hq : H q = none) : Q (.ref q) (upd H q (.lst vs)) := by
  have ow := Reps.owns ds r
  refine h _ _ _ (q :: l) (st.trans (St0.lay (m := .own) (o := .lst vs) st.d hq)) ?_ (fun a ha => ?_) (List.nodup_cons.mpr ⟨fun z => absurd hq (ow q z).2, nd⟩)
  · exact ⟨q, vs, l, rfl, .inl ⟨layM_same, upd_same⟩, r.step st.d (St0.lay st.d hq), rfl⟩
  · rcases List.mem_cons.mp ha with e | ha
    · subst e; exact st.fresh hq
    · exact f a ha
theorem new_tupO {ds : List D} {vs : List V} {l : List Addr} {Q : VK} (st : St0 M0 H0 M H) (r : Reps n.c M H .own ds vs l) (f : ∀ a ∈ l, H0 a = none) (nd : l.Nodup) (h : PE1 n M0 H0 Q (.tup .own ds)) (q : Addr) (hq : H q = none) : Q (.ref q) (upd H q (.tup vs)) := by
  have ow := Reps.owns ds r
  refine h _ _ _ (q :: l) (st.trans (St0.lay (m := .own) (o := .tup vs) st.d hq)) ?_ (fun a ha => ?_) (List.nodup_cons.mpr ⟨fun z => absurd hq (ow q z).2, nd⟩)
  · exact ⟨q, vs, l, rfl, .inl ⟨layM_same, upd_same⟩, r.step st.d (St0.lay st.d hq), rfl⟩
  · rcases List.mem_cons.mp ha with e | ha
    · subst e; exact st.fresh hq
    · exact f a ha
/-- a scalar result -/
theorem PE1.sc {Q : VK} {d : D} {v : V} (h : PE1 n M0 H0 Q d) (st : St0 M0 H0 M H) (r : Rep n.c M H d v []) : Q v H := h v M H [] st r (fun _ z => nomatch z) .nil

/-! ### operators -/
theorem op_fdivB : OpR X (binaryOp .FloorDiv) (rI (fun _ j => j ≠ 0 ∧ j.natAbs.log2 < 9000) fun i j => .int (i.fdiv j)) := opI fun _ _ _ _ _ _ _ hc q => floordiv_int hc.1 q (.inl (PyProof.noPylong_of_log2 hc.2))
theorem op_mulB : OpR X (binaryOp .Mult) (rI (fun i j => mulOk i j = true) fun i j => .int (i * j)) := opI fun i j _ _ _ _ _ hc q => mul_int q (by
  have h1 := hc
  unfold mulOk at h1
  unfold IntMulOk
  intro z
  rw [z] at h1
  cases h1)
def bopOf : Bop → Operator
  | .add => .Add | .sub => .Sub | .mul => .Mult | .fdiv => .FloorDiv | .mod => .Mod | .pow => .Pow
theorem op_val {o : Bop} {x y : D} {v u : V} {l1 l2 : List Addr} {Q : VK} {E : Nat → List D → Prop} (st : St0 M0 H0 M H) (rx : Rep n.c M H x v l1) (ry : Rep n.c M H y u l2) (f : ∀ a ∈ l1 ++ l2, H0 a = none)
    (h : PR (vBop o x y) (PE1 n M0 H0 Q) E) : WOp X (binaryOp (bopOf o)) v u H Q := by
  unfold vBop at h
  split at h
  · obtain ⟨rfl, _⟩ := rx; obtain ⟨rfl, _⟩ := ry
    exact ⟨_, op_add, _, _, rfl, rfl, PE1.sc (d := .int _) h st ⟨rfl, rfl⟩⟩
  · obtain ⟨rfl, _⟩ := rx; obtain ⟨rfl, _⟩ := ry
    exact ⟨_, op_sub, _, _, rfl, rfl, PE1.sc (d := .int _) h st ⟨rfl, rfl⟩⟩
  · obtain ⟨rfl, _⟩ := rx; obtain ⟨rfl, _⟩ := ry
    obtain ⟨h1, h⟩ := h.guard
    exact ⟨_, op_mulB, _, _, rfl, rfl, h1, PE1.sc (d := .int _) h st ⟨rfl, rfl⟩⟩
  · obtain ⟨rfl, _⟩ := rx; obtain ⟨rfl, _⟩ := ry
    obtain ⟨h1, h⟩ := h.guard
    unfold divOk at h1
    rw [Bool.and_eq_true, decide_eq_true_eq, decide_eq_true_eq] at h1
    exact ⟨_, op_fdivB, _, _, rfl, rfl, h1, PE1.sc (d := .int _) h st ⟨rfl, rfl⟩⟩
  · obtain ⟨rfl, _⟩ := rx; obtain ⟨rfl, _⟩ := ry
    obtain ⟨h1, h⟩ := h.guard
    exact ⟨_, op_modN, _, _, rfl, rfl, of_decide_eq_true h1, PE1.sc (d := .int _) h st ⟨rfl, rfl⟩⟩
  · obtain ⟨rfl, _⟩ := rx; obtain ⟨rfl, _⟩ := ry
    obtain ⟨h1, h⟩ := h.guard
    rw [Bool.and_eq_true, Bool.and_eq_true, decide_eq_true_eq, decide_eq_true_eq, decide_eq_true_eq] at h1
    exact ⟨_, op_pow, _, _, rfl, rfl, h1, PE1.sc (d := .int _) h st ⟨rfl, rfl⟩⟩
  · obtain ⟨rfl, _⟩ := rx; obtain ⟨rfl, _⟩ := ry
    obtain ⟨h1, h⟩ := h.guard
    exact ⟨_, op_add_str, _, _, rfl, rfl, of_decide_eq_true h1, PE1.sc (d := .str _) h st ⟨rfl, rfl⟩⟩
  · next m xs m' ys =>
    obtain ⟨h1, h⟩ := h.guard
    simp only [Bool.and_eq_true, decide_eq_true_eq, Bool.not_eq_true', decide_eq_false_iff_not] at h1
    obtain ⟨⟨⟨hm, hm'⟩, hl⟩, c1, c2⟩ := h1
    obtain ⟨a, vs, l', rfl, n1, r1, e1⟩ := rx
    obtain ⟨b, us, l'', rfl, n2, r2, e2⟩ := ry
    rcases n1 with n1 | n1
    · rcases n2 with n2 | n2
      · have k1 : ∀ z ∈ l', z ∈ l1 := fun z hz => by rw [e1]; exact mem_consO.mpr (.inr hz)
        have k2 : ∀ z ∈ l'', z ∈ l2 := fun z hz => by rw [e2]; exact mem_consO.mpr (.inr hz)
        refine ⟨_, op_cat, a, b, vs, us, rfl, rfl, n1.2, n2.2, by rw [r1.len, r2.len]; exact hl, fun q hq => ?_⟩
        have ow1 := Reps.owns _ r1
        have ow2 := Reps.owns _ r2
        have fr1 := Reps.frz (L := l' ++ l'') r1 c1 (fun z hz => by simp [hz]) (fun z hz => (List.mem_append.mp hz).elim (fun hz => (ow1 z hz).1) fun hz => (ow2 z hz).1)
        have fr2 := Reps.frz (L := l' ++ l'') r2 c2 (fun z hz => by simp [hz]) (fun z hz => (List.mem_append.mp hz).elim (fun hz => (ow1 z hz).1) fun hz => (ow2 z hz).1)
        have own : ∀ z ∈ l' ++ l'', M z = some .own ∧ H z ≠ none := fun z hz => (List.mem_append.mp hz).elim (ow1 z) (ow2 z)
        have s1 := st0_frz (L := l' ++ l'') st (fun z hz => f z (by
          rcases List.mem_append.mp hz with hz | hz
          · simp [k1 z hz]
          · simp [k2 z hz])) (fun z hz => (own z hz).2)
        exact new_lstO s1 ((fr1.append fr2).under) (fun z hz => by simp at hz) (by simp) h q hq
      · exact absurd n2.1 hm'
    · exact absurd n1.1 hm
  · exact False.elim h
theorem se_op {o : Bop} {a b : Expr} {ta tb : Tm} {op : Operator} {pos : Pos} (he : bopOf o = op) (ha : SE n G X a ta) (hb : SE n G X b tb) : SE n G X (.BinOp a op b pos) (.op o ta tb) := by
  intro W tk M s σ H Q R h
  subst he
  unfold evalE at h
  refine ⟨_, pe_op wop we we, ?_⟩
  exact two ha hb tk R h fun x y v u M' H' l1 l2 st rx ry f nd hp => op_val st rx ry f hp
theorem se_neg {a : Expr} {ta : Tm} {pos : Pos} (ha : SE n G X a ta) : SE n G X (.UnaryOp .USub a pos) (.neg ta) := by
  intro W tk M s σ H Q R h
  unfold evalE at h
  refine ⟨_, pe_un un_neg we, ?_⟩
  refine ha W tk M s σ H _ R (h.bind.imp (fun x ex hx v M1 H1 l1 s1 r1 f1 n1 => ?_) fun _ _ q => q)
  unfold vNeg at hx
  split at hx
  · obtain ⟨rfl, _⟩ := r1
    exact ⟨_, rfl, PE1.sc (d := .int _) hx s1 ⟨rfl, rfl⟩⟩
  · exact False.elim hx
end
end GS

namespace GS
open PySem PySem.Spec PyProof.Rows L2

section
variable {n : Env'} {G : GE} {X : Cx} {W : WX} {M M0 : MM} {H H0 : Hp} {s : Sl} {σ : L2.St}

/-! ### == -/
theorem KL.sqt {a : Addr} {vs : List V} (h : KL n.c.K "tuple" a vs) (hK : n.c.K = X.K) : SqT X.K H a vs := by
  obtain ⟨o, its, k, h1, h2, _, h3, h4, h5⟩ := h
  exact .inr ⟨o, its, k, by rw [← hK]; exact h1, h2, h3, h4, h5⟩
theorem GL.sql {a : Addr} {vs : List V} (h : GL n.c.K M H a vs) (hK : n.c.K = X.K) : SqL X.K H a vs := by
  rcases h with h | ⟨_, o, h⟩
  · obtain ⟨o, its, k, h1, h2, hd, h3, h4, h5⟩ := h
    exact .inr ⟨o, its, k, by rw [← hK]; exact h1, h2, hd rfl, h3, h4, h5⟩
  · exact .inl (.inr ⟨o, h⟩)
theorem lst_sql {m : Md} {a : Addr} {vs : List V} (hK : n.c.K = X.K) (h : NdX M H m a (.lst vs) ∨ (m = .br ∧ GL n.c.K M H a vs)) : SqL X.K H a vs := h.elim (fun h => SqL.of h.2) fun h => h.2.sql hK
theorem tup_sqt {m : Md} {a : Addr} {vs : List V} (hK : n.c.K = X.K) (h : NdX M H m a (.tup vs) ∨ (m = .br ∧ KL n.c.K "tuple" a vs)) : SqT X.K H a vs := h.elim (fun h => SqT.of h.2) fun h => KL.sqt h.2 hK
mutual
theorem rep_dp (hK : n.c.K = X.K) : ∀ (d : D) {v : V} {l : List Addr} {p : PyData}, Rep n.c M H d v l → d.py = some p → Dp X.K H v p
  | .non, _, _, _, r, e => by rw [r.1]; cases e; exact .non
  | .bl b, _, _, _, r, e => by rw [r.1]; cases e; exact .bl b
  | .int i, _, _, _, r, e => by rw [r.1]; cases e; exact .int i
  | .str x, _, _, _, r, e => by rw [r.1]; cases e; exact .str x
  | .lst m ds, _, _, p, r, e => by
    obtain ⟨a, vs, l', rfl, nd, r1, _⟩ := r
    unfold D.py at e
    cases h : D.pys ds with
    | none => rw [h] at e; cases e
    | some ps =>
      rw [h] at e; cases e
      exact .lst (lst_sql hK nd) (reps_dp hK ds r1 h)
  | .tup m ds, _, _, p, r, e => by
    obtain ⟨a, vs, l', rfl, nd, r1, _⟩ := r
    unfold D.py at e
    cases h : D.pys ds with
    | none => rw [h] at e; cases e
    | some ps =>
      rw [h] at e; cases e
      exact .tup (tup_sqt hK nd) (reps_dp hK ds r1 h)
  | .dic _ _ _, _, _, _, _, e => by unfold D.py at e; cases e
  | .ins _ _ _ _, _, _, _, _, e => by unfold D.py at e; cases e
theorem reps_dp (hK : n.c.K = X.K) : ∀ (ds : List D) {p : Md} {vs : List V} {l : List Addr} {ps : List PyData}, Reps n.c M H p ds vs l → D.pys ds = some ps → DpAll X.K H vs ps
  | [], _, _, _, _, r, e => by rw [r.1]; cases e; exact .nil
  | d :: ds, _, _, _, ps, r, e => by
    obtain ⟨v, vs', l1, l2, rfl, ck, r1, r2, _⟩ := r
    unfold D.pys at e
    cases h : D.py d with
    | none => rw [h] at e; cases e
    | some q =>
      cases h2 : D.pys ds with
      | none => rw [h, h2] at e; cases e
      | some qs =>
        rw [h, h2] at e; cases e
        exact .cons (rep_dp hK d r1 h) (reps_dp hK ds r2 h2)
end
theorem decV_int {i j : Int} : decide (V.int i = V.int j) = decide (i = j) := by simp
theorem decV_str {i j : Str} : decide (V.str i = V.str j) = decide (i = j) := by simp
theorem decV_bl {i j : Bool} : decide (V.bl i = V.bl j) = decide (i = j) := by simp
/-- == (neg: !=) -/
theorem eq_val (F : FX n X) {x y : D} {v u : V} {l1 l2 : List Addr} {Q : VK} {K : Bool → Prop} {E : Nat → List D → Prop} (rx : Rep n.c M H x v l1) (ry : Rep n.c M H y u l2)
    (h : PR (vEq x y) K E) (neg : Bool) (hk : ∀ b, K b → Q (.bl (neg ^^ b)) H) : WOp X (compareOp (if neg then .NotEq else .Eq)) v u H Q := by
  unfold vEq at h
  split at h
  · obtain ⟨rfl, _⟩ := rx; obtain ⟨rfl, _⟩ := ry
    have q := hk _ h
    cases neg
    · exact ⟨_, op_eq, rfl, by rw [decV_int]; simpa using q⟩
    · exact ⟨_, op_ne, rfl, by rw [decV_int]; simpa using q⟩
  · obtain ⟨rfl, _⟩ := rx; obtain ⟨rfl, _⟩ := ry
    have q := hk _ h
    cases neg
    · exact ⟨_, op_eq, rfl, by rw [decV_str]; simpa using q⟩
    · exact ⟨_, op_ne, rfl, by rw [decV_str]; simpa using q⟩
  · obtain ⟨rfl, _⟩ := rx; obtain ⟨rfl, _⟩ := ry
    have q := hk _ h
    cases neg
    · exact ⟨_, op_eq, rfl, by rw [decV_bl]; simpa using q⟩
    · exact ⟨_, op_ne, rfl, by rw [decV_bl]; simpa using q⟩
  · split at h
    · next a b ea eb =>
      obtain ⟨h1, h⟩ := h.guard
      rw [Bool.and_eq_true] at h1
      have q := hk _ h
      cases neg
      · exact ⟨_, op_eqD F.hu, a, b, rep_dp F.K x rx ea, rep_dp F.K y ry eb, h1.1, h1.2, by simpa using q⟩
      · exact ⟨_, op_neD F.hu, a, b, rep_dp F.K x rx ea, rep_dp F.K y ry eb, h1.1, h1.2, by simpa using q⟩
    · exact False.elim h

/-! ### in -/
theorem rep_v {d : D} {v a : V} {l : List Addr} (r : Rep n.c M H d v l) (e : d.v = some a) : v = a ∧ flatV a = true := by
  cases d with
  | non => cases e; exact ⟨r.1, rfl⟩
  | bl b => cases e; exact ⟨r.1, rfl⟩
  | int i => cases e; exact ⟨r.1, rfl⟩
  | str x => cases e; exact ⟨r.1, rfl⟩
  | _ => cases e
theorem reps_v {p : Md} : ∀ {ds : List D} {vs as : List V} {l : List Addr}, Reps n.c M H p ds vs l → allV ds = some as → vs = as ∧ as.all flatV = true
  | [], _, _, _, r, e => by cases e; exact ⟨r.1, rfl⟩
  | d :: ds, vs, as, _, r, e => by
    obtain ⟨v, vs', l1, l2, rfl, ck, r1, r2, _⟩ := r
    unfold allV at e
    cases h : D.v d with
    | none => rw [h] at e; cases e
    | some q =>
      cases h2 : allV ds with
      | none => rw [h, h2] at e; cases e
      | some qs =>
        rw [h, h2] at e; cases e
        obtain ⟨e1, f1⟩ := rep_v r1 h
        obtain ⟨e2, f2⟩ := reps_v r2 h2
        exact ⟨by rw [e1, e2], by rw [List.all_cons, f1, f2]; rfl⟩
theorem rep_key {d : D} {v : V} {l : List Addr} {k : Key} (r : Rep n.c M H d v l) (e : d.key = some k) : v = kV k := by
  cases d with
  | int i => cases e; exact r.1
  | str x => cases e; exact r.1
  | _ => cases e
theorem op_inD (hu : X.A.units + 1 < cLine) : OpR X (compareOp .In) (fun x y H Q => ∃ a o, y = .ref a ∧ DGet H a x o ∧ Q (.bl o.isSome) H) := by
  intro pins s σ H x y v u Q I rx ry ⟨a, o, e, g, q⟩
  subst e
  obtain rfl : u = Value.ref a := ry
  exact d_in hu I g rx fun s3 I3 => ⟨.bl o.isSome, H, I3, rfl, q⟩
theorem op_notInD (hu : X.A.units + 1 < cLine) : OpR X (compareOp .NotIn) (fun x y H Q => ∃ a o, y = .ref a ∧ DGet H a x o ∧ Q (.bl (!o.isSome)) H) := by
  intro pins s σ H x y v u Q I rx ry ⟨a, o, e, g, q⟩
  subst e
  obtain rfl : u = Value.ref a := ry
  exact d_notIn hu I g rx fun s3 I3 => ⟨.bl (!o.isSome), H, I3, rfl, q⟩
theorem key_there (k : Key) (kvs : List (Key × V)) : ((kvs.map (·.1)).any fun q => decide (q = k)) = (valV kvs k).isSome := by
  rw [← valV_any, List.any_map]; rfl
theorem FX.hu1 (F : FX n X) : X.A.units + 1 < cLine := by have := F.hu; omega
theorem in_val (F : FX n X) {x y : D} {v u : V} {l1 l2 : List Addr} {Q : VK} {K : Bool → Prop} {E : Nat → List D → Prop} (rx : Rep n.c M H x v l1) (ry : Rep n.c M H y u l2)
    (h : PR (vIn x y) K E) (neg : Bool) (hk : ∀ b, K b → Q (.bl (neg ^^ b)) H) : WOp X (compareOp (if neg then .NotIn else .In)) v u H Q := by
  unfold vIn at h
  split at h
  · obtain ⟨b, e, h⟩ := h.ofOpt
    obtain ⟨a, ea, e⟩ := Option.bind_eq_some_iff.mp e
    obtain ⟨as, es, e⟩ := Option.map_eq_some_iff.mp e
    subst e
    obtain ⟨p, vs, l', rfl, nd, r1, _⟩ := ry
    obtain ⟨e1, f1⟩ := rep_v rx ea
    obtain ⟨e2, f2⟩ := reps_v r1 es
    have q := hk _ h
    cases neg
    · exact ⟨_, op_in_seq, p, vs, rfl, .inl (lst_sql F.K nd), by rw [e1]; exact f1, by rw [e2]; exact f2, by rw [e1, e2]; simpa using q⟩
    · exact ⟨_, op_notIn_seq, p, vs, rfl, .inl (lst_sql F.K nd), by rw [e1]; exact f1, by rw [e2]; exact f2, by rw [e1, e2]; simpa using q⟩
  · obtain ⟨b, e, h⟩ := h.ofOpt
    obtain ⟨a, ea, e⟩ := Option.bind_eq_some_iff.mp e
    obtain ⟨as, es, e⟩ := Option.map_eq_some_iff.mp e
    subst e
    obtain ⟨p, vs, l', rfl, nd, r1, _⟩ := ry
    obtain ⟨e1, f1⟩ := rep_v rx ea
    obtain ⟨e2, f2⟩ := reps_v r1 es
    have q := hk _ h
    cases neg
    · exact ⟨_, op_in_seq, p, vs, rfl, .inr (tup_sqt F.K nd), by rw [e1]; exact f1, by rw [e2]; exact f2, by rw [e1, e2]; simpa using q⟩
    · exact ⟨_, op_notIn_seq, p, vs, rfl, .inr (tup_sqt F.K nd), by rw [e1]; exact f1, by rw [e2]; exact f2, by rw [e1, e2]; simpa using q⟩
  · obtain ⟨b, e, h⟩ := h.ofOpt
    obtain ⟨k, ek, e⟩ := Option.map_eq_some_iff.mp e
    subst e
    obtain ⟨p, kvs, l', rfl, nd, ks, r1, _⟩ := ry
    have e1 := rep_key rx ek
    have q := hk _ h
    rw [← ks, key_there] at q
    cases neg
    · exact ⟨_, op_inD F.hu1, p, _, rfl, .inl ⟨kvs, k, nd.2.1, e1, rfl⟩, by simpa using q⟩
    · exact ⟨_, op_notInD F.hu1, p, _, rfl, .inl ⟨kvs, k, nd.2.1, e1, rfl⟩, by simpa using q⟩
  · split at h
    · obtain ⟨rfl, _⟩ := rx; obtain ⟨rfl, _⟩ := ry
      have q := hk _ h
      cases neg
      · exact ⟨_, op_in_str, _, _, rfl, rfl, by simpa using q⟩
      · exact ⟨_, op_notin_str, _, _, rfl, rfl, by simpa using q⟩
    · exact False.elim h
  · exact False.elim h
def copOf : Cop → CmpOp
  | .eq => .Eq | .ne => .NotEq | .lt => .Lt | .le => .LtE | .gt => .Gt | .ge => .GtE | .isN => .Is | .notN => .IsNot | .isin => .In | .notin => .NotIn
theorem rep_non {d : D} {v : V} {l : List Addr} (r : Rep n.c M H d v l) : decide (v = .non) = d.isN := by
  cases d with
  | non => obtain ⟨rfl, _⟩ := r; rfl
  | bl b => obtain ⟨rfl, _⟩ := r; rfl
  | int i => obtain ⟨rfl, _⟩ := r; rfl
  | str x => obtain ⟨rfl, _⟩ := r; rfl
  | tup m ds => obtain ⟨a, _, _, rfl, _⟩ := r; rfl
  | lst m ds => obtain ⟨a, _, _, rfl, _⟩ := r; rfl
  | dic m ks ds => obtain ⟨a, _, _, rfl, _⟩ := r; rfl
  | ins m k fs ds => obtain ⟨a, _, _, _, rfl, _⟩ := r; rfl
theorem cop_val (F : FX n X) {o : Cop} {x y : D} {v u : V} {l1 l2 : List Addr} {Q : VK} {K : Bool → Prop} {E : Nat → List D → Prop} (rx : Rep n.c M H x v l1) (ry : Rep n.c M H y u l2)
    (h : PR (vCop o x y) K E) (hk : ∀ b, K b → Q (.bl b) H) : WOp X (compareOp (copOf o)) v u H Q := by
  unfold vCop at h
  split at h
  · exact eq_val F rx ry h false fun b q => by simpa using hk b q
  · exact eq_val F rx ry h.bind true fun b q => by simpa using hk (!b) q
  · obtain ⟨rfl, _⟩ := rx; obtain ⟨rfl, _⟩ := ry
    exact ⟨_, op_lt, _, _, rfl, rfl, hk _ h⟩
  · obtain ⟨rfl, _⟩ := rx; obtain ⟨rfl, _⟩ := ry
    exact ⟨_, op_le, _, _, rfl, rfl, hk _ h⟩
  · obtain ⟨rfl, _⟩ := rx; obtain ⟨rfl, _⟩ := ry
    exact ⟨_, op_gt, _, _, rfl, rfl, hk _ h⟩
  · obtain ⟨rfl, _⟩ := rx; obtain ⟨rfl, _⟩ := ry
    exact ⟨_, op_ge, _, _, rfl, rfl, hk _ h⟩
  · obtain ⟨rfl, _⟩ := ry
    exact ⟨_, op_isN, rfl, by rw [rep_non rx]; exact hk _ h⟩
  · obtain ⟨rfl, _⟩ := ry
    refine ⟨_, op_notN, rfl, ?_⟩
    rw [rep_non rx]
    exact hk _ h
  · exact in_val F rx ry h false fun b q => by simpa using hk b q
  · exact in_val F rx ry h.bind true fun b q => by simpa using hk (!b) q
  · exact False.elim h
theorem se_cmp (F : FX n X) {o : Cop} {a b : Expr} {ta tb : Tm} {op : CmpOp} {pos : Pos} (he : copOf o = op) (hm : behindInMarks op b = false) (ha : SE n G X a ta) (hb : SE n G X b tb) : SE n G X (.Compare a [op] [b] pos) (.cmp o ta tb) := by
  intro W tk M s σ H Q R h
  subst he
  unfold evalE at h
  refine ⟨_, pe_cmpR wop we we hm, ?_⟩
  exact two ha hb tk R h fun x y v u M' H' l1 l2 st rx ry f nd hp => cop_val F rx ry hp.bind fun b q => PE1.sc (d := .bl b) q st ⟨rfl, rfl⟩
theorem st_cmp (F : FX n X) {o : Cop} {a b : Expr} {ta tb : Tm} {op : CmpOp} {pos : Pos} (he : copOf o = op) (hm : behindInMarks op b = false) (ha : SE n G X a ta) (hb : SE n G X b tb) : ST n G X (.Compare a [op] [b] pos) (.cmp o ta tb) := by
  intro W tk M s σ H Q R h
  subst he
  refine ⟨_, pt_cmpR wop we we hm, ?_⟩
  have h' : PR ((evalE G ta s).bind fun x => (evalE G tb s).bind fun y => vCop o x y) (PT1 M H Q) (PX n M H fun cls d H' => W cls d σ H') := by
    unfold evalE at h
    revert h
    cases evalE G ta s <;> first | exact id | skip
    cases evalE G tb s <;> first | exact id | skip
    simp only [Res.bind_ok]
    cases vCop o _ _ <;> exact id
  exact two ha hb tk R h' fun x y v u M' H' l1 l2 st rx ry f nd hp => cop_val F rx ry hp fun b q => ⟨b, rfl, q M' H' st⟩

/-! ### and, or, not, if -/
theorem se_not {a : Expr} {ta : Tm} {pos : Pos} (ha : SE n G X a ta) : SE n G X (.UnaryOp .Not a pos) (.not ta) := by
  intro W tk M s σ H Q R h
  unfold evalE at h
  refine ⟨_, pe_not we, ?_⟩
  refine ha W tk M s σ H _ R (h.bind.imp (fun x ex hx v M1 H1 l1 s1 r1 f1 n1 => ?_) fun _ _ q => q)
  unfold vBl at hx
  split at hx
  · obtain ⟨rfl, _⟩ := r1
    exact ⟨_, rfl, PE1.sc (d := .bl _) hx s1 ⟨rfl, rfl⟩⟩
  · exact False.elim hx
/-- an expression whose truth is asked plainly -/
def plainT : Expr → Bool
  | .UnaryOp .Not _ _ => false
  | .BoolOp _ _ _ => false
  | .IfExp _ _ _ _ => false
  | .Compare _ _ _ _ => false
  | _ => true
theorem plainT_ok {e : Expr} (h : plainT e = true) (env : Env) : ∀ whole, isTrue e env whole = (do let v ← whole; standAt e.pos; holding [v] (truthy v)) := by
  intro whole
  cases e with
  | UnaryOp op a pos => cases op <;> first | (cases h; done) | rfl
  | BoolOp _ _ _ => cases h
  | IfExp _ _ _ _ => cases h
  | Compare _ _ _ _ => cases h
  | _ => rfl
theorem isE {α β : Type} : ∀ {xs : List α} {ys : List β}, xs.length = ys.length → xs.isEmpty = ys.isEmpty
  | [], [], _ => rfl
  | _ :: _, _ :: _, _ => rfl
  | [], _ :: _, h => by simp at h
  | _ :: _, [], h => by simp at h
theorem pt_truR {e : Expr} {te : TE} {r : V → Hp → (Bool → Hp → Prop) → Prop} (hr : TruR X r) (he : PE X e te) (hp : plainT e = true) : PT X e (fun σ H Q => te σ H fun x H' => r x H' Q) :=
  ⟨fun pins s σ H Q I h => isTrue_plain (thn (he.run pins s σ H _ I h) fun v s1 ⟨x, H1, I1, r1, q1⟩ => hr pins s1 σ H1 x v Q I1 r1 q1) (plainT_ok hp X.env _)⟩
theorem tru_dict : TruR X (fun x H Q => ∃ a kvs, x = .ref a ∧ Rd H a (.dK kvs) ∧ Q (!kvs.isEmpty) H) := by
  intro pins s σ H x v Q I rx ⟨a, kvs, e, rd, q⟩
  subst e
  obtain rfl : v = Value.ref a := rx
  exact d_truth I rd fun s' I' => ⟨H, I', q⟩
theorem tru_val (F : FX n X) {x : D} {v : V} {l : List Addr} {Q : Bool → Hp → Prop} {E : Nat → List D → Prop} (st : St0 M0 H0 M H) (r : Rep n.c M H x v l) (hx : PR (vTru x) (PT1 M0 H0 Q) E) : WTru X v H Q := by
  unfold vTru at hx
  split at hx
  · obtain ⟨rfl, _⟩ := r; exact ⟨_, tru_ok, _, rfl, hx M H st⟩
  · obtain ⟨rfl, _⟩ := r; exact ⟨_, tru_ok, _, rfl, hx M H st⟩
  · obtain ⟨rfl, _⟩ := r; exact ⟨_, tru_ok, _, rfl, hx M H st⟩
  · obtain ⟨a, vs, l', rfl, nd, r1, _⟩ := r
    refine ⟨_, tru_ok, _, .inl ⟨vs, lst_sql F.K nd, rfl⟩, ?_⟩
    rw [isE r1.len]; exact hx M H st
  · obtain ⟨a, vs, l', rfl, nd, r1, _⟩ := r
    refine ⟨_, tru_ok, _, .inr (.inl ⟨vs, tup_sqt F.K nd, rfl⟩), ?_⟩
    rw [isE r1.len]; exact hx M H st
  · obtain ⟨a, kvs, l', rfl, nd, ks, r1, _⟩ := r
    refine ⟨_, tru_dict, a, kvs, rfl, nd.2.1, ?_⟩
    have e : kvs.isEmpty = (kvs.map (·.1)).isEmpty := isE (by simp)
    rw [e, ks]; exact hx M H st
  · next y =>
    obtain ⟨rfl, _⟩ := r
    obtain ⟨h1, hx⟩ := hx.guard
    refine ⟨_, tru_ok, _, ⟨of_decide_eq_true h1, rfl⟩, ?_⟩
    have q := hx M H st
    have e : ((y.length : Int) != 0) = (y.length != 0) := by rw [Bool.eq_iff_iff]; simp
    rw [e]; exact q
  · exact False.elim hx
theorem st_plain (F : FX n X) {e : Expr} {t : Tm} (hp : plainT e = true) (he : SE n G X e t) : ST n G X e t := by
  intro W tk M s σ H Q R h
  refine ⟨_, pt_truR wtru we hp, ?_⟩
  exact he W tk M s σ H _ R (h.bind.imp (fun x ex hx v M1 H1 l1 s1 r1 f1 n1 => tru_val F s1 r1 hx) fun _ _ q => q)
theorem st_not {a : Expr} {ta : Tm} {pos : Pos} (ha : ST n G X a ta) : ST n G X (.UnaryOp .Not a pos) (.not ta) := by
  intro W tk M s σ H Q R h
  refine ⟨_, pt_not wt, ?_⟩
  refine ha W tk M s σ H _ R ?_
  unfold evalE at h
  revert h
  cases evalE G ta s with
  | ok d => cases d <;> first | exact fun h => False.elim h | exact id
  | ex _ _ => exact id
  | stuck => exact id
end
end GS

namespace GS
open PySem PySem.Spec PyProof.Rows L2

inductive All2 {α β : Type} (R : α → β → Prop) : List α → List β → Prop
  | nil : All2 R [] []
  | cons {a : α} {b : β} {as : List α} {bs : List β} : R a b → All2 R as bs → All2 R (a :: as) (b :: bs)

section
variable {n : Env'} {G : GE} {X : Cx} {W : WX} {M M0 : MM} {H H0 : Hp} {s : Sl} {σ : L2.St}

/-- an expression of a fit form: no star, no set display, no bare slice -/
def okE : Expr → Bool
  | .Starred _ _ => false
  | .Set _ _ _ => false
  | .Slice _ _ _ _ => false
  | _ => true
theorem okE_star {e : Expr} (h : okE e = true) (es : List Expr) (env : Env) : starEach (e :: es) env = (false, eval e env) :: starEach es env := by
  cases e <;> first | (cases h; done) | rfl
theorem okE_in {e : Expr} (h : okE e = true) (op : CmpOp) : behindInMarks op e = false := by
  cases e <;> first | (cases h; done) | rfl
theorem okE_ix {e : Expr} (h : okE e = true) : PlainIx e := fun o i => by
  cases e <;> first | (cases h; done) | rfl
theorem okE_fold {e : Expr} (h : okE e = true) (env : Env) (x : Value) : foldedSetIterable e env x = pure x := by
  cases e <;> first | (cases h; done) | rfl

/-! ### lists of expressions -/
theorem sa_of {es : List Expr} {ts : List Tm} (h : All2 (fun e t => okE e = true ∧ SE n G X e t) es ts) : SA n G X es ts := by
  induction h with
  | nil => exact fun W tk M s σ H Q R h => ⟨_, pa_nil, by unfold evalL at h; exact h [] M H [] (St0.refl R.dom) ⟨rfl, rfl⟩ (fun _ z => nomatch z) .nil⟩
  | @cons e t es ts he _ ih =>
    intro W tk M s σ H Q R h
    unfold evalL at h
    refine ⟨_, pa_cons we wa (okE_star he.1 _ _), ?_⟩
    refine he.2 W tk M s σ H _ R (h.bind.imp (fun x ex hx v M1 H1 l1 s1 r1 f1 n1 => ?_) fun _ _ q => q)
    refine ih W tk M1 s σ H1 _ (R.step s1) (hx.bind.imp (fun ys ey hy us M2 H2 l2 s2 r2 f2 n2 => ?_) fun _ _ q => q.step s1)
    refine hy (v :: us) M2 H2 (l1 ++ l2) (s1.trans s2) ⟨v, us, l1, l2, rfl, r1.step s1.d s2, r2, rfl⟩ (fun q hq => ?_) ?_
    · rcases List.mem_append.mp hq with hq | hq
      · exact f1 q hq
      · exact s1.fresh (f2 q hq)
    · refine List.nodup_append.mpr ⟨n1, n2, fun q hq r hr e => ?_⟩
      subst e
      exact absurd (f2 q hr) (Rep.owns x r1 q hq).2
theorem se_and {es : List Expr} {ts : List Tm} {pos : Pos} (h : All2 (fun e t => SE n G X e t) es ts) (h0 : es ≠ []) : SE n G X (.BoolOp .And es pos) (.and ts) := by
  induction h with
  | nil => exact absurd rfl h0
  | @cons e t es ts he hr ih =>
    intro W tk M s σ H Q R h
    unfold evalE evalAnd at h
    cases hr with
    | nil =>
      refine ⟨_, pe_one we, ?_⟩
      refine he W tk M s σ H _ R (h.bind.bind.imp (fun x ex hx v M1 H1 l1 s1 r1 f1 n1 => ?_) fun _ _ q => q)
      cases x with
      | bl b =>
        obtain ⟨rfl, _⟩ := r1
        cases b <;> exact PE1.sc (d := .bl _) hx s1 ⟨rfl, rfl⟩
      | _ => exact False.elim hx
    | @cons e' t' es' ts' he' hr' =>
      refine ⟨_, pe_and we we, ?_⟩
      refine he W tk M s σ H _ R (h.bind.bind.imp (fun x ex hx v M1 H1 l1 s1 r1 f1 n1 => ?_) fun _ _ q => q)
      cases x with
      | bl b =>
        obtain ⟨rfl, _⟩ := r1
        refine ⟨b, rfl, ?_⟩
        cases b with
        | false => exact iteF (PE1.sc (d := .bl _) hx s1 ⟨rfl, rfl⟩)
        | true =>
          refine iteT (ih (by simp) W tk M1 s σ H1 Q (R.step s1) ?_)
          have hx' : PR ((evalAnd G (t' :: ts') s).bind fun b => .ok (.bl b)) (PE1 n M H Q) (PX n M H fun cls d H' => W cls d σ H') := PR.unbind hx
          have e1 : evalE G (.and (t' :: ts')) s = (evalAnd G (t' :: ts') s).bind fun b => .ok (.bl b) := by rw [evalE]
          rw [e1]
          exact hx'.imp (fun d _ q v' M' H' l' st' r' f' n' => q v' M' H' l' (s1.trans st') r' (fun a ha => s1.fresh (f' a ha)) n') fun _ _ q => q.step s1
      | _ => exact False.elim hx
theorem se_or {es : List Expr} {ts : List Tm} {pos : Pos} (h : All2 (fun e t => SE n G X e t) es ts) (h0 : es ≠ []) : SE n G X (.BoolOp .Or es pos) (.or ts) := by
  induction h with
  | nil => exact absurd rfl h0
  | @cons e t es ts he hr ih =>
    intro W tk M s σ H Q R h
    unfold evalE evalOr at h
    cases hr with
    | nil =>
      refine ⟨_, pe_one we, ?_⟩
      refine he W tk M s σ H _ R (h.bind.bind.imp (fun x ex hx v M1 H1 l1 s1 r1 f1 n1 => ?_) fun _ _ q => q)
      cases x with
      | bl b =>
        obtain ⟨rfl, _⟩ := r1
        cases b <;> exact PE1.sc (d := .bl _) hx s1 ⟨rfl, rfl⟩
      | _ => exact False.elim hx
    | @cons e' t' es' ts' he' hr' =>
      refine ⟨_, pe_or we we, ?_⟩
      refine he W tk M s σ H _ R (h.bind.bind.imp (fun x ex hx v M1 H1 l1 s1 r1 f1 n1 => ?_) fun _ _ q => q)
      cases x with
      | bl b =>
        obtain ⟨rfl, _⟩ := r1
        refine ⟨b, rfl, ?_⟩
        cases b with
        | true => exact iteT (PE1.sc (d := .bl _) hx s1 ⟨rfl, rfl⟩)
        | false =>
          refine iteF (ih (by simp) W tk M1 s σ H1 Q (R.step s1) ?_)
          have hx' : PR ((evalOr G (t' :: ts') s).bind fun b => .ok (.bl b)) (PE1 n M H Q) (PX n M H fun cls d H' => W cls d σ H') := PR.unbind hx
          have e1 : evalE G (.or (t' :: ts')) s = (evalOr G (t' :: ts') s).bind fun b => .ok (.bl b) := by rw [evalE]
          rw [e1]
          exact hx'.imp (fun d _ q v' M' H' l' st' r' f' n' => q v' M' H' l' (s1.trans st') r' (fun a ha => s1.fresh (f' a ha)) n') fun _ _ q => q.step s1
      | _ => exact False.elim hx
/-- a test by parts -/
theorem sp_and {es : List Expr} {ts : List Tm} {pos : Pos} (h : All2 (fun e t => ST n G X e t) es ts) (h0 : es ≠ []) : ∀ (W : WX), Takes X W → ∀ M s σ H Q, RelS n.c M s σ H →
    PR (evalAnd G ts s) (PT1 M H Q) (PX n M H fun cls d H' => W cls d σ H') → WP X (.BoolOp .And es pos) σ H Q := by
  induction h with
  | nil => exact absurd rfl h0
  | @cons e t es ts he hr ih =>
    intro W tk M s σ H Q R h
    unfold evalAnd at h
    have go : ∀ Q' : Bool → Hp → Prop, (∀ b M1 H1, St0 M H M1 H1 → PR (if b = true then evalAnd G ts s else .ok false) (PT1 M H Q) (PX n M H fun cls d H' => W cls d σ H') → Q' b H1) → WT X e σ H Q' := fun Q' hq => by
      refine he W tk M s σ H Q' R ?_
      revert h
      cases evalE G t s with
      | ok d =>
        cases d with
        | bl b => exact fun h M1 H1 s1 => hq b M1 H1 s1 h
        | _ => exact fun h => False.elim h
      | ex c ds => exact fun h => h
      | stuck => exact fun h => h
    cases hr with
    | nil =>
      refine ⟨_, pw_and1 wt, go _ fun b M1 H1 s1 q => ?_⟩
      cases b <;> exact q M1 H1 s1
    | @cons e' t' es' ts' he' hr' =>
      refine ⟨_, pw_and wt wp_, go _ fun b M1 H1 s1 q => ?_⟩
      cases b with
      | false => exact iteF (q M1 H1 s1)
      | true =>
        refine iteT (ih (by simp) W tk M1 s σ H1 Q (R.step s1) ?_)
        have q' : PR (evalAnd G (t' :: ts') s) (PT1 M H Q) (PX n M H fun cls d H' => W cls d σ H') := q
        exact q'.imp (fun d _ q M' H' st' => q M' H' (s1.trans st')) fun _ _ q => q.step s1
theorem sp_or {es : List Expr} {ts : List Tm} {pos : Pos} (h : All2 (fun e t => ST n G X e t) es ts) (h0 : es ≠ []) : ∀ (W : WX), Takes X W → ∀ M s σ H Q, RelS n.c M s σ H →
    PR (evalOr G ts s) (PT1 M H Q) (PX n M H fun cls d H' => W cls d σ H') → WP X (.BoolOp .Or es pos) σ H Q := by
  induction h with
  | nil => exact absurd rfl h0
  | @cons e t es ts he hr ih =>
    intro W tk M s σ H Q R h
    unfold evalOr at h
    have go : ∀ Q' : Bool → Hp → Prop, (∀ b M1 H1, St0 M H M1 H1 → PR (if b = true then .ok true else evalOr G ts s) (PT1 M H Q) (PX n M H fun cls d H' => W cls d σ H') → Q' b H1) → WT X e σ H Q' := fun Q' hq => by
      refine he W tk M s σ H Q' R ?_
      revert h
      cases evalE G t s with
      | ok d =>
        cases d with
        | bl b => exact fun h M1 H1 s1 => hq b M1 H1 s1 h
        | _ => exact fun h => False.elim h
      | ex c ds => exact fun h => h
      | stuck => exact fun h => h
    cases hr with
    | nil =>
      refine ⟨_, pw_or1 wt, go _ fun b M1 H1 s1 q => ?_⟩
      cases b <;> exact q M1 H1 s1
    | @cons e' t' es' ts' he' hr' =>
      refine ⟨_, pw_or wt wp_, go _ fun b M1 H1 s1 q => ?_⟩
      cases b with
      | true => exact iteT (q M1 H1 s1)
      | false =>
        refine iteF (ih (by simp) W tk M1 s σ H1 Q (R.step s1) ?_)
        have q' : PR (evalOr G (t' :: ts') s) (PT1 M H Q) (PX n M H fun cls d H' => W cls d σ H') := q
        exact q'.imp (fun d _ q M' H' st' => q M' H' (s1.trans st')) fun _ _ q => q.step s1
theorem bl_tru {r : Res Bool} : (r.bind fun b => (.ok (.bl b) : Res D)).bind vTru = r := by cases r <;> rfl
theorem st_and {es : List Expr} {ts : List Tm} {pos : Pos} (h : All2 (fun e t => ST n G X e t) es ts) (h0 : es ≠ []) : ST n G X (.BoolOp .And es pos) (.and ts) := fun W tk M s σ H Q R h' =>
  ⟨_, PW.pt wp_, sp_and h h0 W tk M s σ H Q R (by rw [evalE, bl_tru] at h'; exact h')⟩
theorem st_or {es : List Expr} {ts : List Tm} {pos : Pos} (h : All2 (fun e t => ST n G X e t) es ts) (h0 : es ≠ []) : ST n G X (.BoolOp .Or es pos) (.or ts) := fun W tk M s σ H Q R h' =>
  ⟨_, PW.pt wp_, sp_or h h0 W tk M s σ H Q R (by rw [evalE, bl_tru] at h'; exact h')⟩
theorem se_ife {c a b : Expr} {tc ta tb : Tm} {pos : Pos} (hc : ST n G X c tc) (ha : SE n G X a ta) (hb : SE n G X b tb) : SE n G X (.IfExp c a b pos) (.ife tc ta tb) := by
  intro W tk M s σ H Q R h
  unfold evalE at h
  refine ⟨_, pe_ifExp wt we we, ?_⟩
  refine hc W tk M s σ H _ R ?_
  have key : ∀ r : Bool, ∀ M1 H1, St0 M H M1 H1 → PR (if r = true then evalE G ta s else evalE G tb s) (PE1 n M H Q) (PX n M H fun cls d H' => W cls d σ H') → if r = true then WE X a σ H1 Q else WE X b σ H1 Q := by
    intro r M1 H1 s1 q
    have up : ∀ {t : Tm}, PR (evalE G t s) (PE1 n M H Q) (PX n M H fun cls d H' => W cls d σ H') → PR (evalE G t s) (PE1 n M1 H1 Q) (PX n M1 H1 fun cls d H' => W cls d σ H') := fun q =>
      q.imp (fun d _ q v' M' H' l' st' r' f' n' => q v' M' H' l' (s1.trans st') r' (fun a ha => s1.fresh (f' a ha)) n') fun _ _ q => q.step s1
    cases r with
    | true => exact iteT (ha W tk M1 s σ H1 Q (R.step s1) (up q))
    | false => exact iteF (hb W tk M1 s σ H1 Q (R.step s1) (up q))
  revert h
  cases evalE G tc s with
  | ok d =>
    simp only [Res.bind_ok]
    cases vTru d with
    | ok r => exact fun h M1 H1 s1 => key r M1 H1 s1 h
    | ex c ds => exact fun h => h
    | stuck => exact fun h => h
  | ex c ds => exact fun h => h
  | stuck => exact fun h => h
end
end GS

namespace GS
open PySem PySem.Spec PyProof.Rows L2

/-! ## what a call promises -/
structure StS (M : MM) (H : Hp) (M' : MM) (H' : Hp) : Prop where
  k : ∀ a, H a ≠ none → M a ≠ some .own → H' a = H a ∧ M' a = M a
  o : ∀ a, M a = some .own → M' a = some .own ∨ M' a = some .fz
  d : Dom M' H'
structure StSX (M : MM) (H : Hp) (M' : MM) (H' : Hp) : Prop where
  k : ∀ a, H a ≠ none → M a ≠ some .own → Keep1 H H' a ∧ M' a = M a
  o : ∀ a, M a = some .own → M' a = some .own ∨ M' a = some .fz
  d : Dom M' H'
def RepF (c : RC) (M : MM) (H : Hp) : Sl → List V → List Addr → Prop
  | [], _, l => l = []
  | none :: fs, _ :: vs, l => RepF c M H fs vs l
  | some d :: fs, v :: vs, l => ∃ l1 l2, Rep c M H d v l1 ∧ RepF c M H fs vs l2 ∧ l = l1 ++ l2
  | _ :: _, [], l => l = []
def PostRO (n : Env') (M : MM) (H : Hp) (vs : List V) (r : RO) (Q : VK) (E : XK) : Prop := match r with
  | .ret d fins => ∀ v M' H' lr lf, d.cl = true → StS M H M' H' → Rep n.c M' H' d v lr → RepF n.c M' H' fins vs lf → (lr ++ lf).Nodup → Q v H'
  | .ex e xs fins => ∀ dx M' H' lf, xs.all D.cl = true → StSX M H M' H' → XRep n.c n.xf M' H' e xs dx → RepF n.c M' H' fins vs lf → lf.Nodup → E (.ref (n.c.ca e)) dx H'
  | .stuck => False
def SpC (n : Env') (r : RO) (as : List D) (vs : List V) (H : Hp) (Q : VK) (E : XK) : Prop :=
  ∃ M l, RepA n.c M H as vs l ∧ (∀ d ∈ as, d.md ≠ .vw) ∧ l.Nodup ∧ Dom M H ∧ PostRO n M H vs r Q E

/-- the facts of the module, as a body uses them -/
structure FC (n : Env') (G : GE) (X : Cx) : Prop extends FX n X where
  call : ∀ f as, G.call f as ≠ .stuck → ∃ (k : Nat) (fd : FuncData) (ps : List Str) (dvs : List V) (ds : List Value) (sp : Sp), FnOk X.prog X.w X.K X.mg X.base (L2.CX X.prog X.w) k (n.fa f) fd ps sp ∧ Room k X.A ∧
    PySem.W.keepIn X.K (.ref (n.fa f)) = true ∧ Vals dvs ds ∧ Binds X.K fd ps ds ∧ ∀ vs H Q E, SpC n (G.call f as) as vs H Q E → sp (vs ++ dvs) H Q E
  make : ∀ f as, G.make f as ≠ .stuck → ∃ (k : Nat) (fd : FuncData) (ps : List Str) (dvs : List V) (ds : List Value) (sp : Sp), FnOk X.prog X.w X.K X.mg X.base (L2.CX X.prog X.w) k (n.fa f) fd ps sp ∧ Room (k + 1) X.A ∧
    Vals dvs ds ∧ Binds X.K fd ps ds ∧ ∀ vs H Q E, SpC n (G.make f as) as vs H Q E → sp (vs ++ dvs) H Q E
  cls : ∀ k m f, G.meth k m = some f → Cls X.K (n.c.ca k) ∧ Meth X.K (n.c.ca k) (n.c.an m) (n.fa f)
  mki : ∀ k f, G.init k = some f → Mk X.K (n.c.ca k) (n.fa f)
  fok : ∀ k f, G.fok k f = true → Cls X.K (n.c.ca k) ∧ NoAttr X.K (n.c.ca k) (n.c.an f)
  fnm : ∀ f, n.okf f = true → X.mg (n.fn f) = some (.ref (n.fa f)) ∧ PySem.W.keepIn X.K (.ref (n.fa f)) = true
  cnm : ∀ k, n.okc k = true → X.mg (n.cn k) = some (.ref (n.c.ca k)) ∧ PySem.W.keepIn X.K (.ref (n.c.ca k)) = true
  free : ∀ x ∈ (["len", "abs", "min", "max", "any", "all", "str", "int", "list", "tuple", "dict", "sorted", "isinstance", "bool", "range", "enumerate", "zip", "reversed", "set"] : List Str), X.mg x = none
  ity : ∀ k, G.sub k ≠ [] → Cls X.K (n.c.ca k) ∧ PySem.W.findIn X.K (.ref (n.c.ca k)) "__class__" = some (some (.builtin "object.__class__")) ∧ PySem.W.mroIn X.K (n.c.ca k) (.type "object") = some true ∧
    (∀ T ∈ ["int", "bool", "str", "list", "tuple", "dict"], PySem.W.kitOne X.K (.ref (n.c.ca k)) (.type T) = some false) ∧ ∀ c, n.okc c = true → PySem.W.kitOne X.K (.ref (n.c.ca k)) (.ref (n.c.ca c)) = some (decide (c ∈ G.sub k))
  itk : (∃ k, G.sub k ≠ []) → PySem.W.specialIn X.K (.builtin "object.__class__") "__get__" = some (some (.builtin "getset_descriptor.__get__")) ∧ PySem.W.takesIn X.K (.builtin "object.__class__") = some true
  itb : ∀ T ∈ ["NoneType", "bool", "int", "str", "list", "tuple", "dict"], ∀ c, n.okc c = true → PySem.W.kitOne X.K (.type T) (.ref (n.c.ca c)) = some false
  inj : ∀ f g, n.c.an f = n.c.an g → f = g

section
variable {n : Env'} {G : GE} {X : Cx} {W : WX} {M M0 : MM} {H H0 : Hp} {s : Sl} {σ : L2.St}

/-! ### running a def from here -/
theorem run_fnW {k : Nat} {f : Addr} {fd : FuncData} {ps : List Str} {sp : Sp} {dvs : List V} {ds : List Value} {pins : List (Addr × Obj)} {sh : Shared} {Q : VK} {us : List Value} {vs : List V} (tk : Takes X W)
    (F : FnOk X.prog X.w X.K X.mg X.base (L2.CX X.prog X.w) k f fd ps sp) (hr : Room k X.A) (hb : Binds X.K fd ps ds) (hd : Vals dvs ds) (I : Inv X pins σ H sh) (r : Vals vs us) (h : sp (vs ++ dvs) H Q (fun cls d H' => W cls d σ H')) :
    wpAny (model X.prog X.w) X.A (call (.ref f) us) (EP X pins σ Q) X.xe sh := by
  have r2 : Vals (vs ++ dvs) (us ++ ds) := r.append hd
  have hl : (us ++ ds).length = ps.length := r2.length.symm.trans (F.len _ _ _ _ h)
  refine wpAny_call (codeAny_mono (F.run X.A X.stack sh H ⟨us, []⟩ (us ++ ds) (vs ++ dvs) Q (fun cls d H' => W cls d σ H') hr I.env0 (hb sh us I.kIn hl) r2 h) fun r s' hq => ?_)
  cases r with
  | error e => exact tk e s' (XE.of_call I (fun _ _ _ z => z) hq)
  | ok fl => cases fl <;> first | exact I.after hq | exact False.elim hq
def tCallW (W : WX) (sp : Sp) (dvs : List V) (t : TA) : TE := fun σ H Q => t σ H fun vs H1 => sp (vs ++ dvs) H1 Q fun cls d H' => W cls d σ H'
theorem noStar {pos : Pos} {env : Env} : ∀ {es : List Expr}, (∀ e ∈ es, okE e = true) → (backTo pos (starEach es env)).any (·.1) = false
  | [], _ => rfl
  | e :: es, h => by
    rw [okE_star (h e (by simp))]
    unfold backTo
    rw [List.map_cons, List.any_cons]
    exact noStar (es := es) fun x hx => h x (by simp [hx])
theorem pe_callW {k : Nat} {f : Addr} {fd : FuncData} {ps : List Str} {sp : Sp} {dvs : List V} {ds : List Value} {x : Str} {p pos : Pos} {e : Expr} {es : List Expr} {t : TA} (tk : Takes X W)
    (F : FnOk X.prog X.w X.K X.mg X.base (L2.CX X.prog X.w) k f fd ps sp) (hr : Room k X.A) (hg : Gl X x) (hm : X.mg x = some (.ref f)) (hk : PySem.W.keepIn X.K (.ref f) = true) (hb : Binds X.K fd ps ds) (hd : Vals dvs ds)
    (ha : PA X (e :: es) t) (ho : ∀ q ∈ e :: es, okE q = true) (hdb : (x == ("__debug__" : Str)) = false) : PE X (.Call (.Name x p) (e :: es) [] pos) (tCallW W sp dvs t) := by
  refine ⟨fun pins sh σ H Q I h => wpAny_Call_Name_kw (ld_glob I hg hm ?_ hdb)⟩
  refine PySem.W.callWith_K (h₀ := X.base) I.ok.mod.kin hk (thn (ha.run pos pins sh σ H _ I h) fun us s1 ⟨vs, H1, I1, r, q⟩ => ⟨I1.kIn, run_fnW tk F hr hb hd I1 r q⟩) (okE_star (ho e (by simp)) _ _) (noStar fun x hx => ho x (by simp [hx]))
/-- o.m(..) -/
def tMethW (W : WX) (C : Addr) (m : Str) (sp : Sp) (dvs : List V) (ta : TE) (t : TA) : TE := fun σ H Q => ta σ H fun x H1 => ∃ a dx fs, x = .ref a ∧ H1 a = some (.ins C dx fs) ∧ fs.lookup m = none ∧
  t σ H1 fun vs H2 => sp (.ref a :: (vs ++ dvs)) H2 Q fun cls d H' => W cls d σ H'
/-- the tree of a method's call where nothing but the object is asked -/
def methForm (o : Expr) : Bool := match o with
  | .Call (.Name _ _) [] [] _ => false
  | _ => okE o
theorem base_of {o : Expr} (h : methForm o = true) (m : Str) (env : Env) (whole : Sem Value) : attributeBase o m env whole = whole := by
  unfold attributeBase
  split
  · cases h
  · rfl
theorem starLess {pos : Pos} {env : Env} : ∀ {es : List Expr}, (∀ e ∈ es, okE e = true) → (backTo pos (starEach es env)).all (fun x => !x.1) = true
  | [], _ => rfl
  | e :: es, h => by
    rw [okE_star (h e (by simp))]
    unfold backTo
    rw [List.map_cons, List.all_cons]
    exact starLess (es := es) fun x hx => h x (by simp [hx])
theorem ev_meth {o : Expr} {m : Str} {apos pos : Pos} {es : List Expr} {env : Env} (hf : methForm o = true) (ho : ∀ q ∈ es, okE q = true) (hl : es.length < 29) (hln : (apos.endLine == pos.line) = true) :
    eval (.Call (.Attribute o m apos) es [] pos) env = (do
      let ov ← eval o env
      standAt apos.atName
      let (f, first) ← holding [ov] (getMethod ov m (plainOf o env))
      callWith pos f first (backTo pos (starEach es env)) (backToKw pos (keywordEach [] env))) := by
  have e1 := base_of hf m env (eval o env)
  have few : methodCallForm (es.length + ([] : List Keyword).length) (backTo pos (starEach es env)) (backToKw pos (keywordEach [] env)) = true := by
    have e0 : backToKw pos (keywordEach [] env) = [] := rfl
    unfold methodCallForm
    rw [starLess ho, e0]
    simp
    omega
  have e2 : ∀ ov, methodCall o m apos pos env ov (es.length + ([] : List Keyword).length) (backTo pos (starEach es env)) (backToKw pos (keywordEach [] env)) = _ := fun ov => mcall_line few hln
  rw [arm_eval_Call, e1]
  simp only [e2]
theorem pe_methW {C f : Addr} {k : Nat} {fd : FuncData} {ps : List Str} {sp : Sp} {dvs : List V} {ds : List Value} {m : Str} {apos pos : Pos} {o e : Expr} {es : List Expr} {ta : TE} {t : TA} (tk : Takes X W)
    (he : PE X o ta) (c : Cls X.K C) (hm : Meth X.K C m f) (F : FnOk X.prog X.w X.K X.mg X.base (L2.CX X.prog X.w) k f fd ps sp) (hr : Room k X.A) (hb : Binds X.K fd ps ds) (hd : Vals dvs ds) (ha : PA X (e :: es) t)
    (ho : ∀ q ∈ e :: es, okE q = true) (hl : (e :: es).length < 29) (hln : (apos.endLine == pos.line) = true) (hf : methForm o = true) : PE X (.Call (.Attribute o m apos) (e :: es) [] pos) (tMethW W C m sp dvs ta t) := by
  refine ⟨fun pins sh σ H Q I h => ?_⟩
  refine PySem.W.methodCall_KW (pl := plainOf o X.env) (thn (he.run pins sh σ H _ I h) fun u s1 ⟨x, H1, I1, rx, a, dx, fs, ex, ea, l, q⟩ => ?_) (ev_meth hf ho hl hln)
  subst ex
  obtain rfl : u = Value.ref a := rx
  refine getmeth_ok I1 ea c hm l ?_
  exact PySem.W.callWith_K (first := [.ref a]) (h₀ := X.base) I.ok.mod.kin hm.kp (thn (ha.run pos pins s1 σ H1 _ I1 q) fun us s2 ⟨vs, H2, I2, r, q2⟩ => ⟨I2.kIn, run_fnW (us := .ref a :: us) (vs := .ref a :: vs) tk F hr hb hd I2 (.cons rfl r) q2⟩) (okE_star (ho e (by simp)) _ _) (noStar fun x hx => ho x (by simp [hx]))
theorem pe_meth0W {C f : Addr} {k : Nat} {fd : FuncData} {ps : List Str} {sp : Sp} {dvs : List V} {ds : List Value} {m : Str} {apos pos : Pos} {o : Expr} {ta : TE} (tk : Takes X W)
    (he : PE X o ta) (c : Cls X.K C) (hm : Meth X.K C m f) (F : FnOk X.prog X.w X.K X.mg X.base (L2.CX X.prog X.w) k f fd ps sp) (hr : Room k X.A) (hb : Binds X.K fd ps ds) (hd : Vals dvs ds)
    (hln : (apos.endLine == pos.line) = true) (hf : methForm o = true) : PE X (.Call (.Attribute o m apos) [] [] pos) (tMethW W C m sp dvs ta tNil) := by
  refine ⟨fun pins sh σ H Q I h => ?_⟩
  refine PySem.W.methodCall_KW (pl := plainOf o X.env) (thn (he.run pins sh σ H _ I h) fun u s1 ⟨x, H1, I1, rx, a, dx, fs, ex, ea, l, q⟩ => ?_) (ev_meth hf (fun _ z => nomatch z) (by simp) hln)
  subst ex
  obtain rfl : u = Value.ref a := rx
  refine getmeth_ok I1 ea c hm l ?_
  exact PySem.W.callWith_K0 (first := [.ref a]) I1.kIn hm.kp (run_fnW (us := [.ref a]) (vs := [.ref a]) tk F hr hb hd I1 (.cons rfl .nil) q)
/-- C(..) -/
def tMakeW (W : WX) (C : Addr) (sp : Sp) (dvs : List V) (t : TA) : TE := fun σ H Q => t σ H fun vs H1 => ∀ x dx, H1 x = none → H1 dx = none → dx ≠ x →
  sp (.ref x :: (vs ++ dvs)) (upd (upd H1 dx (.own x)) x (.ins C dx [])) (fun v H2 => v = .non ∧ Q (.ref x) H2) fun cls d H' => W cls d σ H'
theorem run_makeW {C f : Addr} {k : Nat} {fd : FuncData} {ps : List Str} {sp : Sp} {dvs : List V} {ds : List Value} {pins : List (Addr × Obj)} {sh : Shared} {Q : VK} {us : List Value} {vs : List V} (tk : Takes X W) (Mk_ : Mk X.K C f)
    (F : FnOk X.prog X.w X.K X.mg X.base (L2.CX X.prog X.w) k f fd ps sp) (hr : Room (k + 1) X.A) (hb : Binds X.K fd ps ds) (hd : Vals dvs ds) (I : Inv X pins σ H sh) (r : Vals vs us)
    (h : ∀ x dx, H x = none → H dx = none → dx ≠ x → sp (.ref x :: (vs ++ dvs)) (upd (upd H dx (.own x)) x (.ins C dx [])) (fun v H2 => v = .non ∧ Q (.ref x) H2) fun cls d H' => W cls d σ H') :
    wpAny (model X.prog X.w) X.A (call (.ref C) us) (EP X pins σ Q) X.xe sh := by
  have n0 : sh.heap.objs.size ≠ sh.heap.objs.size + 1 := Nat.ne_of_lt (Nat.lt_succ_self _)
  have hq := h (sh.heap.objs.size + 1) sh.heap.objs.size (I.hok.fresh (Nat.le_succ _)) (I.hok.fresh (Nat.le_refl _)) n0
  have J := Inv.made (C := C) I
  have r2 : Vals (V.ref (sh.heap.objs.size + 1) :: (vs ++ dvs)) (Value.ref (sh.heap.objs.size + 1) :: (us ++ ds)) := .cons rfl (r.append hd)
  have hl : ((Value.ref (sh.heap.objs.size + 1) :: us) ++ ds).length = ps.length := r2.length.symm.trans (F.len _ _ _ _ hq)
  refine wpAny_call (make_map (f := f) I.kIn Mk_.makes Mk_.init (beq_iff_eq.mp Mk_.fn) (codeAny_mono (F.run _ X.stack _ _ ⟨_, []⟩ _ _ _ _ (hr.make C us []) (J.env0.make C us []) (hb _ _ J.kIn hl) r2 hq) fun o s' ho => ?_))
  cases o with
  | error e => exact tk e s' (XE.of_call J (fun _ _ _ z => z) ho)
  | ok fl =>
    cases fl with
    | ret u =>
      obtain ⟨v, H', I3, rv, ev, q3⟩ := J.after ho
      subst ev
      exact ⟨rv, ⟨V.ref (sh.heap.objs.size + 1), H', I3, rfl, q3⟩⟩
    | _ => exact False.elim ho
theorem pe_makeW {C f : Addr} {k : Nat} {fd : FuncData} {ps : List Str} {sp : Sp} {dvs : List V} {ds : List Value} {x : Str} {p pos : Pos} {e : Expr} {es : List Expr} {t : TA} (tk : Takes X W) (Mk_ : Mk X.K C f)
    (F : FnOk X.prog X.w X.K X.mg X.base (L2.CX X.prog X.w) k f fd ps sp) (hr : Room (k + 1) X.A) (hg : Gl X x) (hm : X.mg x = some (.ref C)) (hb : Binds X.K fd ps ds) (hd : Vals dvs ds)
    (ha : PA X (e :: es) t) (ho : ∀ q ∈ e :: es, okE q = true) (hdb : (x == ("__debug__" : Str)) = false) : PE X (.Call (.Name x p) (e :: es) [] pos) (tMakeW W C sp dvs t) := by
  refine ⟨fun pins sh σ H Q I h => wpAny_Call_Name_kw (ld_glob I hg hm ?_ hdb)⟩
  exact PySem.W.callWith_K (h₀ := X.base) I.ok.mod.kin Mk_.kp (thn (ha.run pos pins sh σ H _ I h) fun us s1 ⟨vs, H1, I1, r, q⟩ => ⟨I1.kIn, run_makeW tk Mk_ F hr hb hd I1 r q⟩) (okE_star (ho e (by simp)) _ _) (noStar fun x hx => ho x (by simp [hx]))
theorem pe_make0W {C f : Addr} {k : Nat} {fd : FuncData} {ps : List Str} {sp : Sp} {dvs : List V} {ds : List Value} {x : Str} {p pos : Pos} (tk : Takes X W) (Mk_ : Mk X.K C f)
    (F : FnOk X.prog X.w X.K X.mg X.base (L2.CX X.prog X.w) k f fd ps sp) (hr : Room (k + 1) X.A) (hg : Gl X x) (hm : X.mg x = some (.ref C)) (hb : Binds X.K fd ps ds) (hd : Vals dvs ds)
    (hdb : (x == ("__debug__" : Str)) = false) : PE X (.Call (.Name x p) [] [] pos) (tMakeW W C sp dvs tNil) := by
  refine ⟨fun pins sh σ H Q I h => wpAny_Call_Name_kw (ld_glob I hg hm ?_ hdb)⟩
  exact PySem.W.callWith_K0 I.kIn Mk_.kp (run_makeW (us := []) (vs := []) tk Mk_ F hr hb hd I .nil h)
end
end GS

namespace GS
open PySem PySem.Spec PyProof.Rows L2

section
variable {n : Env'} {G : GE} {X : Cx} {W : WX} {M M0 M1 : MM} {H H0 H1 : Hp} {s : Sl} {σ : L2.St}

/-! ### arguments -/
theorem arg_rep {L : List Addr} (hL : ∀ a ∈ L, M a = some .own) {d : D} {v : V} {l : List Addr} (r : Rep n.c M H d v l) (hs : ∀ a ∈ l, a ∈ L) : Rep n.c (lendM (frzM M L)) H d.arg v [] := by
  by_cases ho : d.md = .own
  · have e : d.arg = d.own2 .fz := by unfold D.arg; rw [ho]
    have hm : (d.own2 .fz).md = .fz := by rw [own2_md, if_pos ho]
    have q := Rep.freeze L d r hs hL (by unfold D.cl; rw [ho])
    have q2 := Rep.lend _ q (by rw [hm]; simp)
    rw [e, ← brd_id (d := d.own2 .fz) (by rw [hm]; simp)]
    exact q2
  · have hl : l = [] := Rep.noOwn d r ho
    subst hl
    have q := Rep.lend _ (Rep.frzAny L hL d r ho) ho
    have e : d.arg = d.brd := by
      unfold D.arg
      cases hm : d.md with
      | own => exact absurd hm ho
      | vw => rfl
      | fz => exact (brd_id (by rw [hm]; simp)).symm
      | br => exact (brd_id (by rw [hm]; simp)).symm
    rw [e]
    exact q
theorem args_rep {L : List Addr} (hL : ∀ a ∈ L, M a = some .own) : ∀ {ds : List D} {vs : List V} {l : List Addr}, RepA n.c M H ds vs l → (∀ a ∈ l, a ∈ L) → RepA n.c (lendM (frzM M L)) H (ds.map D.arg) vs []
  | [], _, _, h, _ => ⟨h.1, rfl⟩
  | d :: ds, vs, l, ⟨v, vs', l1, l2, e, r1, r2, hl⟩, hs =>
    ⟨v, vs', [], [], e, arg_rep hL r1 (fun b hb => hs b (by rw [hl]; simp [hb])), args_rep hL r2 (fun b hb => hs b (by rw [hl]; simp [hb])), rfl⟩
theorem arg_md (d : D) : d.arg.md ≠ .vw := by
  unfold D.arg
  cases hm : d.md with
  | own => show (d.own2 .fz).md ≠ _; rw [own2_md, if_pos hm]; simp
  | vw => show d.brd.md ≠ _; rw [brd_md, if_pos hm]; simp
  | fz => show d.md ≠ _; rw [hm]; simp
  | br => show d.md ≠ _; rw [hm]; simp
theorem args_md (ds : List D) : ∀ d ∈ ds.map D.arg, d.md ≠ .vw := fun d hd => by
  obtain ⟨x, _, e⟩ := List.mem_map.mp hd
  rw [← e]; exact arg_md x
theorem lend_frz_own {L : List Addr} {a : Addr} : lendM (frzM M L) a ≠ some .own := fun e => by
  by_cases h : frzM M L a = some .own
  · rw [lendM_own h] at e; cases e
  · rw [lendM_ne h] at e; exact h e
/-- the modes behind a call: what was own is own again -/
def backM (M : MM) (L : List Addr) (M' : MM) : MM := fun a => if M a = some .own ∧ a ∉ L then some .own else M' a
theorem Dom.lend {L : List Addr} (d : Dom M H) (hL : ∀ a ∈ L, M a = some .own) : Dom (lendM (frzM M L)) H := fun a ha => Dom.frz d hL a (lendM_none ha)
theorem back_st {L : List Addr} {M' : MM} {H' : Hp} (d : Dom M H) (hL : ∀ a ∈ L, M a = some .own) (k : ∀ a, H a ≠ none → M' a = lendM (frzM M L) a) (hk : ∀ a, H a ≠ none → H' a ≠ none) (d' : Dom M' H') :
    (∀ a, H a ≠ none → a ∉ L → backM M L M' a = M a) ∧ Dom (backM M L M') H' := by
  refine ⟨fun a ha hn => ?_, fun a ha => ?_⟩
  · by_cases e : M a = some .own
    · unfold backM; rw [if_pos ⟨e, hn⟩, e]
    · have q := k a ha
      rw [lendM_ne (by rw [frzM_out hn]; exact e), frzM_out hn] at q
      unfold backM; rw [if_neg (fun z => e z.1), q]
  · by_cases e : M a = some .own ∧ a ∉ L
    · exact hk a (d a (by rw [e.1]; simp))
    · unfold backM at ha; rw [if_neg e] at ha; exact d' a ha
theorem back_rep {L : List Addr} {M' : MM} {H' : Hp} (dm : Dom M H) (hL : ∀ a ∈ L, M a = some .own) (k : ∀ a, H a ≠ none → M' a = lendM (frzM M L) a) {d : D} {v : V} {l : List Addr} (r : Rep n.c M' H' d v l) (hc : d.cl = true) : Rep n.c (backM M L M') H' d v l :=
  Rep.mono d r fun a ha h1 h2 => by
    have e : ¬ (M a = some .own ∧ a ∉ L) := fun ⟨e1, e2⟩ => by
      have q := k a (dm a (by rw [e1]; simp))
      rw [lendM_own (by rw [frzM_out e2]; exact e1)] at q
      have z := h2 q
      rcases cl_md hc with y | y <;> (rw [y] at z; simp at z)
    exact ⟨by unfold backM; rw [if_neg e], .inl rfl, fun _ => rfl⟩
theorem back_reps {L : List Addr} {M' : MM} {H' : Hp} (dm : Dom M H) (hL : ∀ a ∈ L, M a = some .own) (k : ∀ a, H a ≠ none → M' a = lendM (frzM M L) a) : ∀ {ds : List D} {vs : List V} {l : List Addr}, RepA n.c M' H' ds vs l → ds.all D.cl = true → RepA n.c (backM M L M') H' ds vs l
  | [], _, _, h, _ => h
  | d :: ds, vs, l, ⟨v, vs', l1, l2, e, r1, r2, hl⟩, hc => by
    rw [List.all_cons, Bool.and_eq_true] at hc
    exact ⟨v, vs', l1, l2, e, back_rep dm hL k r1 hc.1, back_reps dm hL k r2 hc.2, hl⟩
/-- a call's promise, from what is wanted of its value -/
theorem call_spec {ds : List D} {vs : List V} {l : List Addr} {r : RO} {Q : VK} {E : XK} (st : St0 M0 H0 M H) (ra : RepA n.c M H ds vs l) (f : ∀ a ∈ l, H0 a = none)
    (h : PR r.val (PE1 n M0 H0 Q) (PX n M0 H0 E)) : SpC n r (ds.map D.arg) vs H Q E := by
  have hL : ∀ a ∈ l, M a = some .own := fun a ha => (RepA.own ra a ha).1
  have hH : ∀ a ∈ l, H a ≠ none := fun a ha => (RepA.own ra a ha).2
  refine ⟨lendM (frzM M l), [], args_rep hL ra (fun _ z => z), args_md ds, .nil, Dom.lend st.d hL, ?_⟩
  cases r with
  | ret d fins =>
    intro v M' H' lr lf hc ss rv rf nd
    have k : ∀ a, H a ≠ none → H' a = H a ∧ M' a = lendM (frzM M l) a := fun a ha => ss.k a ha lend_frz_own
    obtain ⟨b1, b2⟩ := back_st st.d hL (fun a ha => (k a ha).2) (fun a ha => by rw [(k a ha).1]; exact ha) ss.d
    have nl : ∀ a, H0 a ≠ none → a ∉ l := fun a ha z => ha (f a z)
    refine h v (backM M l M') H' lr ⟨fun a ha => ?_, b2⟩ (back_rep st.d hL (fun a ha => (k a ha).2) rv hc) (fun a ha => ?_) (List.nodup_append.mp nd).1
    · obtain ⟨e1, e2⟩ := st.k a ha
      have hh : H a ≠ none := by rw [e1]; exact ha
      exact ⟨(k a hh).1.trans e1, (b1 a hh (nl a ha)).trans e2⟩
    · cases e : H a with
      | none => exact st.fresh e
      | some o =>
        have q := (k a (by rw [e]; simp)).2
        rw [(Rep.owns d rv a ha).1] at q
        exact absurd q.symm lend_frz_own
  | ex c xs fins =>
    intro dx M' H' lf hc ss xr rf nd
    have k : ∀ a, H a ≠ none → Keep1 H H' a ∧ M' a = lendM (frzM M l) a := fun a ha => ss.k a ha lend_frz_own
    obtain ⟨b1, b2⟩ := back_st st.d hL (fun a ha => (k a ha).2) (fun a ha => (k a ha).1.there ha) ss.d
    have nl : ∀ a, H0 a ≠ none → a ∉ l := fun a ha z => ha (f a z)
    refine h dx (backM M l M') H' ⟨fun a ha => ?_, b2⟩ ?_
    · obtain ⟨e1, e2⟩ := st.k a ha
      have hh : H a ≠ none := by rw [e1]; exact ha
      obtain ⟨k1, k2⟩ := k a hh
      exact ⟨Keep1.trans (.inl e1) k1, (b1 a hh (nl a ha)).trans e2⟩
    · unfold XRep at xr ⊢
      cases xs with
      | nil => exact xr
      | cons x xs =>
        obtain ⟨a, us, e1, r1, e2⟩ := xr
        exact ⟨a, us, e1, back_reps st.d hL (fun a ha => (k a ha).2) r1 hc, e2⟩
  | stuck => exact False.elim h
end
end GS

namespace GS
open PySem PySem.Spec PyProof.Rows L2

section
variable {n : Env'} {G : GE} {X : Cx} {W : WX} {M M0 M1 : MM} {H H0 H1 : Hp} {s : Sl} {σ : L2.St}
abbrev OkSE (n : Env') (G : GE) (X : Cx) (e : Expr) (t : Tm) : Prop := okE e = true ∧ SE n G X e t
theorem All2.ok {es : List Expr} {ts : List Tm} (h : All2 (OkSE n G X) es ts) : ∀ e ∈ es, okE e = true := by
  induction h with
  | nil => exact fun _ z => nomatch z
  | cons a _ ih => exact fun e he => (List.mem_cons.mp he).elim (fun z => by rw [z]; exact a.1) (ih e)
theorem All2.len {α β : Type} {R : α → β → Prop} {as : List α} {bs : List β} (h : All2 R as bs) : as.length = bs.length := by
  induction h with
  | nil => rfl
  | cons _ _ ih => simp [ih]

/-! ### f(..) -/
theorem pe_callX {f : Addr} {x : Str} {p pos : Pos} {e : Expr} {es : List Expr} {t : TA} (hg : Gl X x) (hm : X.mg x = some (.ref f)) (hk : PySem.W.keepIn X.K (.ref f) = true) (ha : PA X (e :: es) t) (ho : ∀ q ∈ e :: es, okE q = true) (hdb : (x == ("__debug__" : Str)) = false) :
    PE X (.Call (.Name x p) (e :: es) [] pos) (fun σ H _ => t σ H fun _ _ => False) :=
  ⟨fun pins sh σ H Q I h => wpAny_Call_Name_kw (ld_glob I hg hm (PySem.W.callWith_K (h₀ := X.base) I.ok.mod.kin hk (thn (ha.run pos pins sh σ H _ I h) fun us s1 ⟨_, _, _, _, q⟩ => q.elim) (okE_star (ho e (by simp)) _ _) (noStar fun x hx => ho x (by simp [hx]))) hdb)⟩
theorem se_cal (F : FC n G X) {f : Nat} {x : Str} {p pos : Pos} {es : List Expr} {ts : List Tm} (hx : x = n.fn f) (ok : n.okf f = true) (hg : Gl X x) (hdb : (x == ("__debug__" : Str)) = false) (ha : All2 (OkSE n G X) es ts) (h0 : es ≠ []) :
    SE n G X (.Call (.Name x p) es [] pos) (.cal f ts) := by
  intro W tk M s σ H Q R h
  unfold evalE at h
  have hsa := sa_of ha
  have ho := All2.ok ha
  obtain ⟨hm, hk⟩ := F.fnm f ok
  rw [← hx] at hm
  cases es with
  | nil => exact absurd rfl h0
  | cons e es =>
    cases he : evalL G ts s with
    | stuck => rw [he] at h; exact False.elim h
    | ex c xs =>
      rw [he] at h
      exact ⟨_, pe_callX hg hm hk wa ho hdb, hsa W tk M s σ H _ R (by rw [he]; exact h)⟩
    | ok ds =>
      rw [he] at h
      have hns : G.call f (ds.map D.arg) ≠ .stuck := fun z => by rw [Res.bind_ok, z] at h; exact h
      obtain ⟨k, fd, ps, dvs, dsv, sp, hF, hr, hk, hd, hb, hsp⟩ := F.call f _ hns
      refine ⟨_, pe_callW tk hF hr hg hm hk hb hd wa ho hdb, hsa W tk M s σ H _ R ?_⟩
      rw [he]
      exact fun vs M' H' l st ra f nd => hsp vs H' Q _ (call_spec st ra f h)

/-! ### o.m(..) -/
theorem pe_methX1 {m : Str} {apos pos : Pos} {o : Expr} {es : List Expr} {ta : TE} (he : PE X o ta) (ho : ∀ q ∈ es, okE q = true) (hl : es.length < 29) (hln : (apos.endLine == pos.line) = true) (hf : methForm o = true) :
    PE X (.Call (.Attribute o m apos) es [] pos) (fun σ H _ => ta σ H fun _ _ => False) :=
  ⟨fun pins sh σ H Q I h => PySem.W.methodCall_KW (pl := plainOf o X.env) (thn (he.run pins sh σ H _ I h) fun u s1 ⟨_, _, _, _, q⟩ => q.elim) (ev_meth hf ho hl hln)⟩
theorem pe_methX2 {C f : Addr} {m : Str} {apos pos : Pos} {o e : Expr} {es : List Expr} {ta : TE} {t : TA} (he : PE X o ta) (c : Cls X.K C) (hm : Meth X.K C m f) (ha : PA X (e :: es) t) (ho : ∀ q ∈ e :: es, okE q = true) (hl : (e :: es).length < 29) (hln : (apos.endLine == pos.line) = true) (hf : methForm o = true) :
    PE X (.Call (.Attribute o m apos) (e :: es) [] pos) (fun σ H _ => ta σ H fun x H1 => ∃ a dx fs, x = .ref a ∧ H1 a = some (.ins C dx fs) ∧ fs.lookup m = none ∧ t σ H1 fun _ _ => False) := by
  refine ⟨fun pins sh σ H Q I h => PySem.W.methodCall_KW (pl := plainOf o X.env) (thn (he.run pins sh σ H _ I h) fun u s1 ⟨x, H1, I1, rx, a, dx, fs, ex, ea, l, q⟩ => ?_) (ev_meth hf ho hl hln)⟩
  subst ex
  obtain rfl : u = Value.ref a := rx
  refine getmeth_ok I1 ea c hm l ?_
  exact PySem.W.callWith_K (first := [.ref a]) (h₀ := X.base) I.ok.mod.kin hm.kp (thn (ha.run pos pins s1 σ H1 _ I1 q) fun us s2 ⟨_, _, _, _, q⟩ => q.elim) (okE_star (ho e (by simp)) _ _) (noStar fun x hx => ho x (by simp [hx]))
theorem lookup_no {an : Nat → Str} (inj : ∀ f g, an f = an g → f = g) {m : Nat} : ∀ {fs : List Nat} {fvs : List (Str × V)}, fvs.map (·.1) = fs.map an → (fs.any fun g => decide (g = m)) = false → fvs.lookup (an m) = none
  | [], fvs, e, _ => by
    have : fvs = [] := by simpa using e
    rw [this]; rfl
  | f :: fs, [], e, _ => by simp at e
  | f :: fs, (x, v) :: fvs, e, h => by
    simp only [List.map_cons, List.cons.injEq] at e
    rw [List.any_cons, Bool.or_eq_false_iff] at h
    have hne : (an m == x) = false := by
      rw [beq_eq_false_iff_ne, e.1]
      intro z
      exact of_decide_eq_false h.1 (inj _ _ z).symm
    rw [List.lookup_cons, hne]
    exact lookup_no inj e.2 h.2
theorem lookup_at {p : Md} {an : Nat → Str} (inj : ∀ f g, an f = an g → f = g) {f : Nat} {d : D} : ∀ {fs : List Nat} {ds : List D} {fvs : List (Str × V)} {l : List Addr}, fvs.map (·.1) = fs.map an → Reps n.c M H p ds (fvs.map (·.2)) l → atFld f fs ds = some d →
    ∃ v l', fvs.lookup (an f) = some v ∧ Rep n.c M H d v l' ∧ l'.Sublist l ∧ chOk p d.md = true
  | [], _, _, _, _, _, e => by unfold atFld at e; cases e
  | q :: fs, [], _, _, _, _, e => by unfold atFld at e; cases e
  | q :: fs, x :: ds, [], _, e, _, _ => by simp at e
  | q :: fs, x :: ds, (y, v) :: fvs, l, e, r, ha => by
    simp only [List.map_cons, List.cons.injEq] at e
    obtain ⟨w, vs', l1, l2, ev, ck, r1, r2, hl⟩ := r
    simp only [List.map_cons, List.cons.injEq] at ev
    obtain ⟨rfl, rfl⟩ := ev
    unfold atFld at ha
    split at ha
    · next hq =>
      cases ha
      exact ⟨v, l1, by rw [List.lookup_cons, e.1, hq, beq_self_eq_true], r1, by rw [hl]; exact List.sublist_append_left _ _, ck⟩
    · next hq =>
      obtain ⟨w, l', e1, r', hs, ck'⟩ := lookup_at inj e.2 r2 ha
      have hne : (an f == y) = false := by
        rw [beq_eq_false_iff_ne, e.1]
        exact fun z => hq (inj _ _ z).symm
      exact ⟨w, l', by rw [List.lookup_cons, hne]; exact e1, r', by rw [hl]; exact hs.trans (List.sublist_append_right _ _), ck'⟩
theorem se_met (F : FC n G X) {m : Nat} {mn : Str} {apos pos : Pos} {o : Expr} {to : Tm} {es : List Expr} {ts : List Tm} (hmn : mn = n.c.an m) (ho : SE n G X o to) (ha : All2 (OkSE n G X) es ts) (hl : es.length < 29) (hln : (apos.endLine == pos.line) = true) (hf : methForm o = true) :
    SE n G X (.Call (.Attribute o mn apos) es [] pos) (.met to m ts) := by
  intro W tk M s σ H Q R h
  unfold evalE at h
  subst hmn
  have hsa := sa_of ha
  have hok := All2.ok ha
  cases hx : evalE G to s with
  | stuck => rw [hx] at h; exact False.elim h
  | ex c xs =>
    rw [hx] at h
    exact ⟨_, pe_methX1 we hok hl hln hf, ho W tk M s σ H _ R (by rw [hx]; exact h)⟩
  | ok x =>
    rw [hx, Res.bind_ok] at h
    cases x with
    | ins mo k fs ds0 =>
      dsimp only at h
      cases hm : G.meth k m with
      | none => rw [hm] at h; exact False.elim h
      | some f =>
        rw [hm] at h
        obtain ⟨hg, h⟩ := PR.guard h
        rw [Bool.not_eq_true'] at hg
        obtain ⟨hc, hme⟩ := F.cls k m f hm
        cases he : evalL G ts s with
        | stuck => rw [he] at h; exact False.elim h
        | ex c xs =>
          rw [he] at h
          cases es with
          | nil => cases ha; unfold evalL at he; cases he
          | cons e es =>
            refine ⟨_, pe_methX2 we hc hme wa hok hl hln hf, ho W tk M s σ H _ R ?_⟩
            rw [hx]
            intro v M1 H1 l1 s1 r1 f1 n1
            obtain ⟨a, dx, fvs, l', rfl, nd, ek, rr, el⟩ := r1
            refine ⟨a, dx, fvs, rfl, nd.2, lookup_no F.inj ek hg, hsa W tk M1 s σ H1 _ (R.step s1) ?_⟩
            rw [he]
            exact PX.step (H := H) (M := M) s1 (show PX n M H (fun cls d H' => W cls d σ H') c xs from h)
        | ok ds =>
          rw [he, Res.bind_ok] at h
          have hns : G.call f ((.ins mo k fs ds0 :: ds).map D.arg) ≠ .stuck := fun z => by rw [z] at h; exact h
          obtain ⟨kk, fd, ps, dvs, dsv, sp, hF, hr, hk, hd, hb, hsp⟩ := F.call f _ hns
          cases es with
          | nil =>
            refine ⟨_, pe_meth0W tk we hc hme hF hr hb hd hln hf, ho W tk M s σ H _ R ?_⟩
            rw [hx]
            intro v M1 H1 l1 s1 r1 f1 n1
            have r1' := r1
            obtain ⟨a, dx, fvs, l', rfl, nd, ek, rr, el⟩ := r1
            cases ha
            have : ds = [] := by unfold evalL at he; cases he; rfl
            subst this
            refine ⟨a, dx, fvs, rfl, nd.2, lookup_no F.inj ek hg, ?_⟩
            have sc := call_spec (ds := [.ins mo k fs ds0]) (vs := [.ref a]) (l := l1) (Q := Q) (E := fun cls d H' => W cls d σ H') s1 ⟨.ref a, [], l1, [], rfl, r1', ⟨rfl, rfl⟩, by simp⟩ f1 h
            exact hsp _ _ _ _ sc
          | cons e es =>
            refine ⟨_, pe_methW tk we hc hme hF hr hb hd wa hok hl hln hf, ho W tk M s σ H _ R ?_⟩
            rw [hx]
            intro v M1 H1 l1 s1 r1 f1 n1
            have r1' := r1
            obtain ⟨a, dx, fvs, l', rfl, nd, ek, rr, el⟩ := r1
            refine ⟨a, dx, fvs, rfl, nd.2, lookup_no F.inj ek hg, hsa W tk M1 s σ H1 _ (R.step s1) ?_⟩
            rw [he]
            intro vs M2 H2 l2 s2 r2 f2 n2
            have fr : ∀ q ∈ l1 ++ l2, H q = none := fun q hq => (List.mem_append.mp hq).elim (f1 q) fun hq => s1.fresh (f2 q hq)
            have sc := call_spec (ds := .ins mo k fs ds0 :: ds) (vs := .ref a :: vs) (l := l1 ++ l2) (Q := Q) (E := fun cls d H' => W cls d σ H') (s1.trans s2) ⟨.ref a, vs, l1, l2, rfl, r1'.step s1.d s2, r2, rfl⟩ fr h
            exact hsp _ _ _ _ sc
    | _ => exact False.elim h
end
end GS

namespace GS
open PySem PySem.Spec PyProof.Rows L2

section
variable {n : Env'} {G : GE} {X : Cx} {W : WX} {M M0 M1 : MM} {H H0 H1 : Hp} {s : Sl} {σ : L2.St}

/-! ### C(..) -/
theorem pe_makeX {C : Addr} {x : Str} {p pos : Pos} {e : Expr} {es : List Expr} {t : TA} (hg : Gl X x) (hm : X.mg x = some (.ref C)) (hk : PySem.W.keepIn X.K (.ref C) = true) (ha : PA X (e :: es) t) (ho : ∀ q ∈ e :: es, okE q = true) (hdb : (x == ("__debug__" : Str)) = false) :
    PE X (.Call (.Name x p) (e :: es) [] pos) (fun σ H _ => t σ H fun _ _ => False) := pe_callX hg hm hk ha ho hdb
theorem made_spec {c : Nat} {ds : List D} {vs : List V} {l : List Addr} {r : RO} {Q : VK} {E : XK} {x dx : Addr} {fz : Bool} (st : St0 M0 H0 M H) (ra : RepA n.c M H ds vs l) (f : ∀ a ∈ l, H0 a = none) (hx : H x = none) (hdx : H dx = none) (hne : dx ≠ x)
    (h : PR (r.made fz) (PE1 n M0 H0 Q) (PX n M0 H0 E)) : SpC n r (.ins .own c [] [] :: ds.map D.arg) (.ref x :: vs) (upd (upd H dx (.own x)) x (.ins (n.c.ca c) dx [])) (fun v H2 => v = .non ∧ Q (.ref x) H2) E := by
  have hL : ∀ a ∈ l, M a = some .own := fun a ha => (RepA.own ra a ha).1
  have hH : ∀ a ∈ l, H a ≠ none := fun a ha => (RepA.own ra a ha).2
  have dc := Dom.lend (L := l) st.d hL
  -- the heap with the instance's dict, then with the instance
  have a1 := args_rep hL ra (fun _ z => z)
  have hxd : upd H dx (.own x) x = none := by rw [upd_ne (fun z => hne z.symm)]; exact hx
  have dd : Dom (lendM (frzM M l)) (upd H dx (.own x)) := fun a ha => by
    by_cases z : a = dx
    · rw [z, upd_same]; simp
    · rw [upd_ne z]; exact dc a ha
  have sd : St0 (lendM (frzM M l)) H (lendM (frzM M l)) (upd H dx (.own x)) := ⟨fun a ha => ⟨upd_ne (fun z => ha (by rw [z]; exact hdx)), rfl⟩, dd⟩
  have sx : St0 (lendM (frzM M l)) (upd H dx (.own x)) (layM (lendM (frzM M l)) x .own) (upd (upd H dx (.own x)) x (.ins (n.c.ca c) dx [])) := St0.lay dd hxd
  have a2 := a1.step dc (sd.trans sx)
  refine ⟨layM (lendM (frzM M l)) x .own, [x], ⟨.ref x, vs, [x], [], rfl, ⟨x, dx, [], [], rfl, ⟨layM_same, upd_same⟩, rfl, ⟨rfl, rfl⟩, rfl⟩, a2, rfl⟩, ?_, by simp, sx.d, ?_⟩
  · intro d hd
    rcases List.mem_cons.mp hd with e | hd
    · rw [e]; simp [D.md]
    · exact args_md ds d hd
  have old : ∀ {a}, H a ≠ none → a ≠ x ∧ a ≠ dx := fun {a} ha => ⟨fun z => ha (by rw [z]; exact hx), fun z => ha (by rw [z]; exact hdx)⟩
  have nl : ∀ a, H0 a ≠ none → a ∉ l := fun a ha z => ha (f a z)
  have kk : ∀ {M' : MM} {a : Addr}, H a ≠ none → layM (lendM (frzM M l)) x .own a = lendM (frzM M l) a ∧ upd (upd H dx (.own x)) x (.ins (n.c.ca c) dx []) a = H a := fun {M' a} ha => by
    obtain ⟨z1, z2⟩ := old ha
    exact ⟨layM_ne z1, by rw [upd_ne z1, upd_ne z2]⟩
  cases r with
  | stuck => exact False.elim h
  | ret d fins =>
    intro v M' H' lr lf hc ss rv rf nd
    cases d with
    | non =>
      cases fins with
      | nil => exact False.elim h
      | cons o fins =>
        cases o with
        | none => exact False.elim h
        | some d =>
          obtain ⟨l1, l2, rd, _, el⟩ := rf
          refine ⟨rv.1, ?_⟩
          have k : ∀ a, H a ≠ none → H' a = H a ∧ M' a = lendM (frzM M l) a := fun a ha => by
            obtain ⟨e1, e2⟩ := kk (M' := M') ha
            have q := ss.k a (by rw [e2]; exact ha) (by rw [e1]; exact lend_frz_own)
            exact ⟨q.1.trans e2, q.2.trans e1⟩
          obtain ⟨b1, b2⟩ := back_st st.d hL (fun a ha => (k a ha).2) (fun a ha => by rw [(k a ha).1]; exact ha) ss.d
          have fr1 : ∀ a ∈ l1, H0 a = none := fun a ha => by
            cases e : H a with
            | none => exact st.fresh e
            | some o =>
              have q := (k a (by rw [e]; simp)).2
              rw [(Rep.owns d rd a ha).1] at q
              exact absurd q.symm lend_frz_own
          have s2 : St0 M0 H0 (backM M l M') H' := ⟨fun a ha => by
            obtain ⟨e1, e2⟩ := st.k a ha
            have hh : H a ≠ none := by rw [e1]; exact ha
            exact ⟨(k a hh).1.trans e1, (b1 a hh (nl a ha)).trans e2⟩, b2⟩
          have nd1 : l1.Nodup := by
            have := (List.nodup_append.mp nd).2.1
            rw [el] at this
            exact (List.nodup_append.mp this).1
          have rb : d.cl = true → Rep n.c (backM M l M') H' d (.ref x) l1 := fun hcl => back_rep st.d hL (fun a ha => (k a ha).2) rd hcl
          obtain ⟨hcl, h⟩ := PR.guard (show PR (Res.guard d.cl (.ok (if fz then d.own2 .fz else d))) _ _ from h)
          cases fz with
          | false => exact h (.ref x) _ H' l1 s2 (rb hcl) fr1 nd1
          | true =>
            have ow : ∀ a ∈ l1, backM M l M' a = some .own := fun a ha => (Rep.owns d (rb hcl) a ha).1
            have ow2 : ∀ a ∈ l1, H' a ≠ none := fun a ha => (Rep.owns d (rb hcl) a ha).2
            exact h (.ref x) (frzM (backM M l M') l1) H' [] (st0_frz s2 fr1 ow2) (Rep.freeze l1 d (rb hcl) (fun _ z => z) ow hcl) (fun _ z => nomatch z) .nil
    | _ => exact False.elim h
  | ex e xs fins =>
    intro dx' M' H' lf hc ss xr rf nd
    have k : ∀ a, H a ≠ none → Keep1 H H' a ∧ M' a = lendM (frzM M l) a := fun a ha => by
      obtain ⟨e1, e2⟩ := kk (M' := M') ha
      have q := ss.k a (by rw [e2]; exact ha) (by rw [e1]; exact lend_frz_own)
      exact ⟨Keep1.trans (.inl e2) q.1, q.2.trans e1⟩
    obtain ⟨b1, b2⟩ := back_st st.d hL (fun a ha => (k a ha).2) (fun a ha => (k a ha).1.there ha) ss.d
    refine h dx' (backM M l M') H' ⟨fun a ha => ?_, b2⟩ ?_
    · obtain ⟨e1, e2⟩ := st.k a ha
      have hh : H a ≠ none := by rw [e1]; exact ha
      exact ⟨Keep1.trans (.inl e1) (k a hh).1, (b1 a hh (nl a ha)).trans e2⟩
    · unfold XRep at xr ⊢
      cases xs with
      | nil => exact xr
      | cons y ys =>
        obtain ⟨a, us, e1, r1, e2⟩ := xr
        exact ⟨a, us, e1, back_reps st.d hL (fun a ha => (k a ha).2) r1 hc, e2⟩
theorem se_mak (F : FC n G X) {c : Nat} {x : Str} {p pos : Pos} {es : List Expr} {ts : List Tm} (hx : x = n.cn c) (ok : n.okc c = true) (hg : Gl X x) (hdb : (x == ("__debug__" : Str)) = false) (ha : All2 (OkSE n G X) es ts) : SE n G X (.Call (.Name x p) es [] pos) (.mak c ts) := by
  intro W tk M s σ H Q R h
  unfold evalE at h
  have hsa := sa_of ha
  have ho := All2.ok ha
  obtain ⟨hm, hk⟩ := F.cnm c ok
  rw [← hx] at hm
  cases he : evalL G ts s with
  | stuck => rw [he] at h; exact False.elim h
  | ex c' xs =>
    rw [he] at h
    cases es with
    | nil => cases ha; unfold evalL at he; cases he
    | cons e es => exact ⟨_, pe_makeX hg hm hk wa ho hdb, hsa W tk M s σ H _ R (by rw [he]; exact h)⟩
  | ok ds =>
    rw [he, Res.bind_ok] at h
    cases hi : G.init c with
    | none => rw [hi] at h; exact False.elim h
    | some f =>
      rw [hi] at h
      have hns : G.make f (.ins .own c [] [] :: ds.map D.arg) ≠ .stuck := fun z => by dsimp only at h; rw [z] at h; exact h
      obtain ⟨k, fd, ps, dvs, dsv, sp, hF, hr, hd, hb, hsp⟩ := F.make f _ hns
      have mk := F.mki c f hi
      cases es with
      | nil =>
        cases ha
        have : ds = [] := by unfold evalL at he; cases he; rfl
        subst this
        refine ⟨_, pe_make0W tk mk hF hr hg hm hb hd hdb, ?_⟩
        intro y dx hy hdx hne
        exact hsp _ _ _ _ (made_spec (ds := []) (vs := []) (l := []) (St0.refl R.dom) ⟨rfl, rfl⟩ (fun _ z => nomatch z) hy hdx hne h)
      | cons e es =>
        refine ⟨_, pe_makeW tk mk hF hr hg hm hb hd wa ho hdb, hsa W tk M s σ H _ R ?_⟩
        rw [he]
        intro vs M1 H1 l s1 ra f1 n1 y dx hy hdx hne
        exact hsp _ _ _ _ (made_spec s1 ra f1 hy hdx hne h)

/-! ### fields, items -/
theorem PE1.old {Q : VK} {d : D} {v : V} {l : List Addr} (h : PE1 n M0 H0 Q d) (st : St0 M0 H0 M H) (r : Rep n.c M H d v l) (f : ∀ a ∈ l, H0 a = none) (nd : l.Nodup) : Q v H := h v M H l st r f nd
theorem PE1.part {Q : VK} {d : D} {v : V} {l l' : List Addr} (h : PE1 n M0 H0 Q d) (st : St0 M0 H0 M H) (r : Rep n.c M H d v l') (hs : l'.Sublist l) (f : ∀ a ∈ l, H0 a = none) (nd : l.Nodup) : Q v H := h v M H l' st r (fun a ha => f a (hs.subset ha)) (nd.sublist hs)
theorem consO_sub (m : Md) (a : Addr) (l : List Addr) : l.Sublist (consO m a l) := by
  cases m <;> first | exact List.Sublist.refl _ | exact List.sublist_cons_self _ _
theorem se_fld (F : FC n G X) {f : Nat} {fnm : Str} {o : Expr} {to : Tm} {pos : Pos} (hf : fnm = n.c.an f) (ho : SE n G X o to) (hm : methForm o = true) : SE n G X (.Attribute o fnm pos) (.fld to f) := by
  intro W tk M s σ H Q R h
  unfold evalE at h
  subst hf
  refine ⟨_, pe_fld we (base_of hm _ _ _), ho W tk M s σ H _ R (h.bind.imp (fun x ex hx v M1 H1 l1 s1 r1 f1 n1 => ?_) fun _ _ q => q)⟩
  cases x with
  | ins mo k fs ds =>
    unfold vFld at hx
    obtain ⟨hg, hx⟩ := PR.guard hx
    obtain ⟨d, hd, hx⟩ := PR.ofOpt hx
    obtain ⟨hc, hno⟩ := F.fok k f hg
    obtain ⟨a, dx, fvs, l', rfl, nd, ek, rr, el⟩ := r1
    obtain ⟨w, l2, e1, r2, hs, _⟩ := lookup_at F.inj ek rr hd
    exact ⟨a, _, dx, fvs, w, rfl, nd.2, hc, hno, e1, PE1.part hx s1 r2 (hs.trans (by rw [el]; exact consO_sub _ _ _)) f1 n1⟩
  | _ => exact False.elim hx
/-- the value of a key -/
theorem key_val {p : Md} {k : Key} {d : D} : ∀ {ks : List Key} {ds : List D} {kvs : List (Key × V)} {l : List Addr}, kvs.map (·.1) = ks → Reps n.c M H p ds (kvs.map (·.2)) l → atKeyD k ks ds = some d →
    ∃ v l', valV kvs k = some v ∧ Rep n.c M H d v l' ∧ l'.Sublist l ∧ chOk p d.md = true
  | [], _, _, _, _, _, e => by unfold atKeyD at e; cases e
  | q :: ks, [], _, _, _, _, e => by unfold atKeyD at e; cases e
  | q :: ks, x :: ds, [], _, e, _, _ => by simp at e
  | q :: ks, x :: ds, (y, v) :: kvs, l, e, r, ha => by
    simp only [List.map_cons, List.cons.injEq] at e
    obtain ⟨w, vs', l1, l2, ev, ck, r1, r2, hl⟩ := r
    simp only [List.map_cons, List.cons.injEq] at ev
    obtain ⟨rfl, rfl⟩ := ev
    unfold atKeyD at ha
    split at ha
    · next hq =>
      cases ha
      exact ⟨v, l1, valV_pos (e.1.trans hq), r1, by rw [hl]; exact List.sublist_append_left _ _, ck⟩
    · next hq =>
      obtain ⟨w, l', e1, r', hs, ck'⟩ := key_val e.2 r2 ha
      exact ⟨w, l', (valV_neg (fun z => hq (e.1.symm.trans z))).trans e1, r', by rw [hl]; exact hs.trans (List.sublist_append_right _ _), ck'⟩
theorem key_no {p : Md} {k : Key} : ∀ {ks : List Key} {ds : List D} {kvs : List (Key × V)} {l : List Addr}, kvs.map (·.1) = ks → Reps n.c M H p ds (kvs.map (·.2)) l → atKeyD k ks ds = none → valV kvs k = none
  | _, _, [], _, _, _, _ => rfl
  | [], _, (y, v) :: kvs, _, e, _, _ => by simp at e
  | q :: ks, [], (y, v) :: kvs, _, _, r, _ => by have := r.1; simp at this
  | q :: ks, x :: ds, (y, v) :: kvs, l, e, r, ha => by
    simp only [List.map_cons, List.cons.injEq] at e
    obtain ⟨w, vs', l1, l2, ev, ck, r1, r2, hl⟩ := r
    simp only [List.map_cons, List.cons.injEq] at ev
    obtain ⟨rfl, rfl⟩ := ev
    unfold atKeyD at ha
    split at ha
    · cases ha
    · next hq => exact (valV_neg (fun z => hq (e.1.symm.trans z))).trans (key_no e.2 r2 ha)
theorem atI_of {p : Md} {ds : List D} {vs : List V} {l : List Addr} {i : Int} {d : D} (r : Reps n.c M H p ds vs l) (h : atI ds i = some d) : ∃ v l', atI vs i = some v ∧ Rep n.c M H d v l' ∧ l'.Sublist l ∧ chOk p d.md = true := by
  unfold atI at h ⊢
  rw [r.len]
  obtain ⟨j, e1, e2⟩ := Option.bind_eq_some_iff.mp h
  obtain ⟨v, l', e3, r', hs, ck⟩ := r.get e2
  exact ⟨v, l', by rw [e1]; exact e3, r', hs, ck⟩
theorem wix : IxR X (WIx X) := fun val sl pins sh σ H x y v u Q I rx ry ⟨_, h, q⟩ e => h val sl pins sh σ H x y v u Q I rx ry q e
theorem ix_val (F : FX n X) {x y : D} {v u : V} {l1 l2 : List Addr} {Q : VK} {E : Nat → List D → Prop} (st : St0 M0 H0 M H) (rx : Rep n.c M H x v l1) (ry : Rep n.c M H y u l2) (f : ∀ a ∈ l1, H0 a = none) (nd : l1.Nodup)
    (hx : ∀ m ks ds, x ≠ .dic m ks ds) (h : PR (vIx x y) (PE1 n M0 H0 Q) E) : WIx X v u H Q := by
  unfold vIx at h
  split at h
  · obtain ⟨rfl, _⟩ := ry
    obtain ⟨d, hd, h⟩ := PR.ofOpt h
    obtain ⟨p, vs, l', rfl, nx, rr, el⟩ := rx
    obtain ⟨w, l3, e1, r3, hs, _⟩ := atI_of rr hd
    exact ⟨_, ix_list, p, vs, _, w, rfl, rfl, lst_sql F.K nx, e1, PE1.part h st r3 (hs.trans (by rw [el]; exact consO_sub _ _ _)) f nd⟩
  · obtain ⟨rfl, _⟩ := ry
    obtain ⟨d, hd, h⟩ := PR.ofOpt h
    obtain ⟨p, vs, l', rfl, nx, rr, el⟩ := rx
    obtain ⟨w, l3, e1, r3, hs, _⟩ := atI_of rr hd
    exact ⟨_, ix_tup, p, vs, _, w, rfl, rfl, tup_sqt F.K nx, e1, PE1.part h st r3 (hs.trans (by rw [el]; exact consO_sub _ _ _)) f nd⟩
  · obtain ⟨rfl, _⟩ := rx
    obtain ⟨rfl, _⟩ := ry
    obtain ⟨h1, h⟩ := PR.guard h
    obtain ⟨d, hd, h⟩ := PR.ofOpt h
    obtain ⟨c, hc, e⟩ := Option.map_eq_some_iff.mp hd
    subst e
    exact ⟨_, ix_str, _, _, c, rfl, rfl, of_decide_eq_true h1, hc, PE1.sc (d := .str _) h st ⟨rfl, rfl⟩⟩
  · next m ks ds k => exact absurd rfl (hx _ _ _)
  · exact False.elim h
theorem dget_val {m : Md} {ks : List Key} {ds : List D} {y : D} {v u : V} {l1 l2 : List Addr} {Q : VK} {E : Nat → List D → Prop} (st : St0 M0 H0 M H) (rx : Rep n.c M H (.dic m ks ds) v l1) (ry : Rep n.c M H y u l2) (f : ∀ a ∈ l1, H0 a = none) (nd : l1.Nodup)
    (h : PR (vIx (.dic m ks ds) y) (PE1 n M0 H0 Q) E) : ∃ a w, v = .ref a ∧ DGet H a u (some w) ∧ Q w H := by
  have h : PR (Res.ofOpt (y.key.bind fun k => atKeyD k ks ds)) (PE1 n M0 H0 Q) E := by
    unfold vIx at h
    split at h <;> first | (rename_i e; cases e; done) | (rename_i e _; cases e; done) | (rename_i e; cases e; exact h) | skip
    all_goals first | exact h | exact False.elim h
  obtain ⟨d, hd, h⟩ := PR.ofOpt h
  obtain ⟨k, hk, hd⟩ := Option.bind_eq_some_iff.mp hd
  obtain ⟨a, kvs, l', rfl, nx, ek, rr, el⟩ := rx
  obtain ⟨w, l3, e1, r3, hs, _⟩ := key_val ek rr hd
  exact ⟨a, w, rfl, .inl ⟨kvs, k, nx.2.1, rep_key ry hk, e1.symm⟩, PE1.part h st r3 (hs.trans (by rw [el]; exact consO_sub _ _ _)) f nd⟩
theorem se_ix (F : FX n X) {a b : Expr} {ta tb : Tm} {pos : Pos} (ha : SE n G X a ta) (hb : SE n G X b tb) (ho : okE b = true) : SE n G X (.Subscript a b pos) (.ix ta tb) := by
  intro W tk M s σ H Q R h
  unfold evalE at h
  by_cases hd : ∃ m ks ds, evalE G ta s = .ok (.dic m ks ds)
  · obtain ⟨m, ks, ds, hd⟩ := hd
    refine ⟨_, pe_dget F.hu1 we we (okE_ix ho), ?_⟩
    refine two' ha hb tk R (P := fun v u H' => ∃ a w, v = .ref a ∧ DGet H' a u (some w) ∧ Q w H') h fun x y v u M' H' l1 l2 ex ey st rx ry f nd hp => ?_
    rw [hd] at ex
    cases ex
    exact dget_val st rx ry (fun a ha => f a (by simp [ha])) (List.nodup_append.mp nd).1 hp
  · refine ⟨_, pe_ix wix we we (okE_ix ho), ?_⟩
    exact two' ha hb tk R h fun x y v u M' H' l1 l2 ex ey st rx ry f nd hp => ix_val F st rx ry (fun a ha => f a (by simp [ha])) (List.nodup_append.mp nd).1 (fun m ks ds e => hd ⟨m, ks, ds, by rw [ex, e]⟩) hp

/-! ### slices -/
def WSl (X : Cx) : V → Option Int → Option Int → Hp → VK → Prop := fun x lo hi H Q => ∃ r, SlR X r ∧ r x lo hi H Q
theorem wsl : SlR X (WSl X) := fun pins sh σ H x v vl vu lo hi sl Q I rx hs pl pu ⟨_, h, q⟩ => h pins sh σ H x v vl vu lo hi sl Q I rx hs pl pu q
def SO (n : Env') (G : GE) (X : Cx) (e : Option Expr) (t : Option Tm) : Prop := match e, t with
  | none, none => True
  | some e, some t => SE n G X e t
  | _, _ => False
def WO (X : Cx) (e : Option Expr) : TO := fun σ H Q => ∃ t, PO X e t ∧ t σ H Q
theorem wo {e : Option Expr} : PO X e (WO X e) := ⟨fun pins sh σ H Q I ⟨_, h, q⟩ => h.run pins sh σ H Q I q⟩
theorem so_run {e : Option Expr} {t : Option Tm} (h : SO n G X e t) (tk : Takes X W) (R : RelS n.c M s σ H) {Q : Option Int → Hp → Prop} (hq : PR (evalO G t s) (fun o => ∀ M' H', St0 M H M' H' → Q o H') (PX n M H fun cls d H' => W cls d σ H')) : WO X e σ H Q := by
  cases e with
  | none =>
    cases t with
    | none => exact ⟨_, po_none, by unfold evalO at hq; exact hq M H (St0.refl R.dom)⟩
    | some t => exact False.elim h
  | some e =>
    cases t with
    | none => exact False.elim h
    | some t =>
      unfold evalO at hq
      refine ⟨_, po_some we, ?_⟩
      refine h W tk M s σ H _ R (hq.bind.imp (fun x ex hx v M1 H1 l1 s1 r1 f1 n1 => ?_) fun _ _ q => q)
      cases x with
      | int i =>
        obtain ⟨rfl, _⟩ := r1
        exact ⟨i, rfl, hx M1 H1 s1⟩
      | _ => exact False.elim hx
theorem cut_len (ds : List D) (vs : List V) (lo hi : Option Int) (h : vs.length = ds.length) : cutV vs lo hi = (vs.drop (HT.sIx ds.length 0 lo)).take (HT.sIx ds.length ds.length hi - HT.sIx ds.length 0 lo) := by
  unfold cutV; rw [h]
theorem sl_val (F : FX n X) {x : D} {v : V} {lo hi : Option Int} {l1 : List Addr} {Q : VK} {E : Nat → List D → Prop} (st : St0 M0 H0 M H) (rx : Rep n.c M H x v l1) (f : ∀ a ∈ l1, H0 a = none)
    (h : PR (vSlc x lo hi) (PE1 n M0 H0 Q) E) : WSl X v lo hi H Q := by
  cases x with
  | lst m ds =>
    obtain ⟨hc, h⟩ := PR.guard (show PR (Res.guard ((cutD ds lo hi).all D.cl) (Res.ok (D.lst .own (D.own2s .fz (cutD ds lo hi))))) (PE1 n M0 H0 Q) E from h)
    obtain ⟨p, vs, l', rfl, nx, rr, el⟩ := rx
    refine ⟨_, sl_list, p, vs, rfl, lst_sql F.K nx, fun q hq => ?_⟩
    rw [cut_len ds vs lo hi rr.len]
    obtain ⟨l2, r2, h2⟩ := Reps.drop (HT.sIx ds.length 0 lo) rr
    obtain ⟨l3, r3, h3⟩ := Reps.take (HT.sIx ds.length ds.length hi - HT.sIx ds.length 0 lo) r2
    exact new_lst st r3 hc (fun a ha => f a (by rw [el]; exact mem_consO.mpr (.inr (h2 a (h3 a ha))))) h q hq
  | str z =>
    obtain ⟨rfl, _⟩ := rx
    obtain ⟨h1, h⟩ := PR.guard (show PR (Res.guard (decide (z.length ≤ sizeLine)) (Res.ok (D.str (cutS z lo hi)))) (PE1 n M0 H0 Q) E from h)
    exact ⟨_, sl_str, _, rfl, of_decide_eq_true h1, PE1.sc (d := .str _) h st ⟨rfl, rfl⟩⟩
  | _ => exact False.elim h
theorem se_slc (F : FX n X) {a : Expr} {lo hi : Option Expr} {ta : Tm} {tl th : Option Tm} {p2 pos : Pos} (ha : SE n G X a ta) (hl : SO n G X lo tl) (hh : SO n G X hi th) : SE n G X (.Subscript a (.Slice lo hi none p2) pos) (.slc ta tl th) := by
  intro W tk M s σ H Q R h
  unfold evalE at h
  refine ⟨_, pe_slice wsl we wo wo, ?_⟩
  refine ha W tk M s σ H _ R (h.bind.imp (fun x ex hx v M1 H1 l1 s1 r1 f1 n1 => ?_) fun _ _ q => q)
  refine so_run hl tk (R.step s1) (hx.bind.imp (fun o eo ho M2 H2 s2 => ?_) fun _ _ q => q.step s1)
  refine so_run hh tk (R.step (s1.trans s2)) (ho.bind.imp (fun o' eo' ho' M3 H3 s3 => ?_) fun _ _ q => q.step (s1.trans s2))
  exact sl_val F (s1.trans (s2.trans s3)) (r1.step s1.d (s2.trans s3)) f1 ho'

/-! ### displays -/
theorem se_lst {es : List Expr} {ts : List Tm} {pos : Pos} (ha : All2 (OkSE n G X) es ts) : SE n G X (.List es pos) (.lst ts) := by
  intro W tk M s σ H Q R h
  unfold evalE at h
  refine ⟨_, pe_lst wa, sa_of ha W tk M s σ H _ R (h.bind.imp (fun ds ed hd vs M1 H1 l s1 ra f1 n1 => ?_) fun _ _ q => q)⟩
  obtain ⟨hc, hd⟩ := PR.guard hd
  rw [Bool.and_eq_true, decide_eq_true_eq] at hc
  exact ⟨by rw [ra.len]; exact hc.2, fun p hp => new_lstO s1 (ra.to hc.1) f1 n1 hd p hp⟩
theorem se_tup {es : List Expr} {ts : List Tm} {k : Nat} {pos : Pos} (ha : All2 (OkSE n G X) es ts) : SE n G X (.Tuple es k pos) (.tup ts) := by
  intro W tk M s σ H Q R h
  unfold evalE at h
  refine ⟨_, pe_tup wa, sa_of ha W tk M s σ H _ R (h.bind.imp (fun ds ed hd vs M1 H1 l s1 ra f1 n1 => ?_) fun _ _ q => q)⟩
  obtain ⟨hc, hd⟩ := PR.guard hd
  rw [Bool.and_eq_true, decide_eq_true_eq] at hc
  exact ⟨by rw [ra.len]; exact hc.2, fun p hp => new_tupO s1 (ra.to hc.1) f1 n1 hd p hp⟩
theorem se_dct0 {pos : Pos} : SE n G X (.Dict [] [] pos) (.dct [] []) := by
  intro W tk M s σ H Q R h
  unfold evalE evalL at h
  refine ⟨_, pe_dnewK, fun p hp => ?_⟩
  exact h (.ref p) _ _ [p] (St0.lay (m := .own) (o := .dK []) R.dom hp) ⟨p, [], [], rfl, ⟨layM_same, .inl upd_same, fun _ => upd_same⟩, rfl, ⟨rfl, rfl⟩, rfl⟩ (fun a ha => by rw [List.mem_singleton.mp ha]; exact hp) (by simp)
end
end GS

namespace GS
open PySem PySem.Spec PyProof.Rows L2

section
variable {n : Env'} {G : GE} {X : Cx} {W : WX} {M M0 M1 : MM} {H H0 H1 : Hp} {s : Sl} {σ : L2.St}

/-! ### calls of built-ins -/
def bltV : Blt → Value
  | .len => .builtin "len"
  | .abs => .builtin "abs"
  | .min2 => .builtin "min"
  | .max2 => .builtin "max"
  | .any => .builtin "any"
  | .all => .builtin "all"
  | .str => .type "str"
  | .int => .type "int"
  | .list => .type "list"
  | .tuple => .type "tuple"
  | .dict => .type "dict"
  | .lenset => .none
  | .sorted => .builtin "sorted"
def bltN : Blt → Str
  | .len => "len"
  | .abs => "abs"
  | .min2 => "min"
  | .max2 => "max"
  | .any => "any"
  | .all => "all"
  | .str => "str"
  | .int => "int"
  | .list => "list"
  | .tuple => "tuple"
  | .dict => "dict"
  | .lenset => ""
  | .sorted => "sorted"
theorem call_lenRd : CallR X (.builtin "len") (fun xs H Q => ∃ a kvs, xs = [V.ref a] ∧ Rd H a (.dK kvs) ∧ Q (.int kvs.length) H) := by
  intro pins sh σ H xs us Q I r ⟨a, kvs, e, rd, q⟩
  subst e
  obtain ⟨u, rfl, ru⟩ := vals1 r
  obtain rfl : u = Value.ref a := ru
  exact d_len I rd fun t s' I' => ⟨.int kvs.length, H, I', ⟨t, rfl⟩, q⟩
theorem call_dictRd : CallR X (.type "dict") (fun xs H Q => ∃ a kvs, xs = [V.ref a] ∧ Rd H a (.dK kvs) ∧ ∀ p, H p = none → Q (.ref p) (upd H p (.dK kvs))) := by
  intro pins sh σ H xs us Q I r ⟨a, kvs, e, rd, q⟩
  subst e
  obtain ⟨u, rfl, ru⟩ := vals1 r
  obtain rfl : u = Value.ref a := ru
  exact d_copyOf I rd fun p s' hp I' => ⟨.ref p, _, I', rfl, q p hp⟩
theorem call_listRd (hc : X.calm = true) : CallR X (.type "list") (fun xs H Q => ∃ a kvs, xs = [V.ref a] ∧ Rd H a (.dK kvs) ∧ ∀ q, H q = none → Q (.ref q) (upd H q (.lst ((kvs.map (·.1)).map kV)))) := by
  intro pins sh σ H xs us Q I r ⟨a, kvs, e, rd, k⟩
  subst e
  obtain ⟨u, rfl, ru⟩ := vals1 r
  obtain rfl : u = Value.ref a := ru
  obtain ⟨hz, lo, vs, kv, hd⟩ := dk_rd I.hok rd
  obtain ⟨ep, hat⟩ := hd.dictAt
  have lk : kvs.length = vs.length := Paired.length kv
  refine PySem.W.kdl_call (PySem.W.kdl_dict (knd := mixKind X.prog X.w) (kvs := vs) (ep := ep) lo) (I.ok.hd hc) hat (by omega) fun h' tk acc c hk hS hacc => ?_
  have lv : Vals ((kvs.map (·.1)).map kV) acc.toList := by
    refine vals_of_at (by simp [hacc.1, lk]) fun j x w h1 h2 => ?_
    obtain ⟨q, y, h3, h4⟩ := hacc.2 j w (by rw [← Array.getElem?_toList]; exact h2)
    have e1 : (kvs.map (·.1))[j]? = some q := by rw [KV.keys kv, List.getElem?_map, h3]; rfl
    rw [List.getElem?_map, e1] at h1
    cases h1
    exact keyIs_rel h4
  exact ⟨.ref sh.heap.objs.size, _, I.laid (a := sh.heap.objs.size) (o := .lst ((kvs.map (·.1)).map kV)) hk (Nat.le_refl _) ⟨by simp; exact hz, acc.toList, c, lv, by rw [Array.toArray_toList]; exact hS⟩, rfl, k _ (I.hok.fresh (Nat.le_refl _))⟩
theorem reps_keys : ∀ (ks : List Key), Reps n.c M H .own (ks.map keyD) (ks.map kV) []
  | [] => ⟨rfl, rfl⟩
  | .inl i :: ks => ⟨_, _, [], [], rfl, rfl, ⟨rfl, rfl⟩, reps_keys ks, rfl⟩
  | .inr x :: ks => ⟨_, _, [], [], rfl, rfl, ⟨rfl, rfl⟩, reps_keys ks, rfl⟩
theorem new_dic {p : Md} {ds : List D} {kvs : List (Key × V)} {l : List Addr} {Q : VK} (st : St0 M0 H0 M H) (r : Reps n.c M H p ds (kvs.map (·.2)) l) (hc : ds.all D.cl = true) (f : ∀ a ∈ l, H0 a = none) (h : PE1 n M0 H0 Q (.dic .own (kvs.map (·.1)) (D.own2s .fz ds))) (q : Addr) (hq : H q = none) : Q (.ref q) (upd H q (.dK kvs)) := by
  have ow := Reps.owns ds r
  have r1 := Reps.frz (L := l) r hc (fun _ z => z) (fun a z => (ow a z).1)
  have d1 := Dom.frz st.d (fun a z => (ow a z).1) (L := l)
  have s1 := st0_frz st f (fun a z => (ow a z).2)
  refine h _ _ _ [q] (s1.trans (St0.lay (m := .own) (o := .dK kvs) d1 hq)) ?_ (fun a ha => ?_) (by simp)
  · exact ⟨q, kvs, [], rfl, ⟨layM_same, .inl upd_same, fun _ => upd_same⟩, rfl, (r1.step d1 (St0.lay d1 hq)).under, rfl⟩
  · have : a = q := by simpa using ha
    subst this
    exact st.fresh hq
theorem reps_bl {p : Md} : ∀ {ds : List D} {vs : List V} {bs : List Bool} {l : List Addr}, Reps n.c M H p ds vs l → allBl ds = some bs → vs = bs.map V.bl
  | [], _, _, _, r, e => by cases e; exact r.1
  | d :: ds, vs, bs, _, r, e => by
    obtain ⟨v, vs', l1, l2, rfl, ck, r1, r2, _⟩ := r
    cases d with
    | bl b =>
      unfold allBl at e
      obtain ⟨cs, ec, e⟩ := Option.map_eq_some_iff.mp e
      subst e
      rw [reps_bl r2 ec, r1.1]; rfl
    | _ => cases e
theorem RepA.one {d : D} {vs : List V} {l : List Addr} (r : RepA n.c M H [d] vs l) : ∃ v, vs = [v] ∧ Rep n.c M H d v l := by
  obtain ⟨v, vs', l1, l2, e, r1, r2, hl⟩ := r
  have e2 : vs' = [] := r2.1
  have e3 : l2 = [] := r2.2
  subst e2 e3
  exact ⟨v, e, by rw [hl, List.append_nil]; exact r1⟩
theorem RepA.two {d d' : D} {vs : List V} {l : List Addr} (r : RepA n.c M H [d, d'] vs l) : ∃ v u l1 l2, vs = [v, u] ∧ Rep n.c M H d v l1 ∧ Rep n.c M H d' u l2 ∧ l = l1 ++ l2 := by
  obtain ⟨v, vs', l1, l2, e, r1, r2, hl⟩ := r
  obtain ⟨u, e2, r3⟩ := RepA.one r2
  exact ⟨v, u, l1, l2, by rw [e, e2], r1, r3, hl⟩
theorem blt_val (F : FX n X) {b : Blt} {ds : List D} {vs : List V} {l : List Addr} {Q : VK} {E : Nat → List D → Prop} (st : St0 M0 H0 M H) (ra : RepA n.c M H ds vs l) (f : ∀ a ∈ l, H0 a = none) (h : PR (vBlt b ds) (PE1 n M0 H0 Q) E) : WCall X (bltV b) vs H Q := by
  unfold vBlt at h
  split at h
  · obtain ⟨v, rfl, a, us, l', rfl, nx, rr, _⟩ := ra.one
    exact ⟨_, call_len_seq, a, us, rfl, .inl (lst_sql F.K nx), by rw [rr.len]; exact PE1.sc (d := .int _) h st ⟨rfl, rfl⟩⟩
  · obtain ⟨v, rfl, a, us, l', rfl, nx, rr, _⟩ := ra.one
    exact ⟨_, call_len_seq, a, us, rfl, .inr (tup_sqt F.K nx), by rw [rr.len]; exact PE1.sc (d := .int _) h st ⟨rfl, rfl⟩⟩
  · obtain ⟨v, rfl, a, kvs, l', rfl, nx, ek, rr, _⟩ := ra.one
    refine ⟨_, call_lenRd, a, kvs, rfl, nx.2.1, ?_⟩
    have e : kvs.length = (kvs.map (·.1)).length := by simp
    rw [e, ek]; exact PE1.sc (d := .int _) h st ⟨rfl, rfl⟩
  · obtain ⟨v, rfl, rfl, _⟩ := ra.one
    obtain ⟨h1, h⟩ := PR.guard h
    exact ⟨_, call_len_str, _, rfl, of_decide_eq_true h1, PE1.sc (d := .int _) h st ⟨rfl, rfl⟩⟩
  · obtain ⟨v, rfl, rfl, _⟩ := ra.one
    exact ⟨_, call_abs, _, rfl, PE1.sc (d := .int _) h st ⟨rfl, rfl⟩⟩
  · obtain ⟨v, u, l1, l2, rfl, ⟨rfl, _⟩, ⟨rfl, _⟩, _⟩ := ra.two
    exact ⟨_, call_min2 F.calm, _, _, rfl, PE1.sc (d := .int _) h st ⟨rfl, rfl⟩⟩
  · obtain ⟨v, u, l1, l2, rfl, ⟨rfl, _⟩, ⟨rfl, _⟩, _⟩ := ra.two
    exact ⟨_, call_max2 F.calm, _, _, rfl, PE1.sc (d := .int _) h st ⟨rfl, rfl⟩⟩
  · obtain ⟨v, rfl, rfl, _⟩ := ra.one
    obtain ⟨h1, h⟩ := PR.guard h
    exact ⟨_, call_str_int, _, rfl, of_decide_eq_true h1, PE1.sc (d := .str _) h st ⟨rfl, rfl⟩⟩
  · obtain ⟨v, rfl, rfl, _⟩ := ra.one
    exact ⟨_, call_int1, .inl ⟨_, rfl, PE1.sc (d := .int _) h st ⟨rfl, rfl⟩⟩⟩
  · obtain ⟨v, rfl, rfl, _⟩ := ra.one
    exact ⟨_, call_int1, .inr ⟨_, rfl, PE1.sc (d := .int _) h st ⟨rfl, rfl⟩⟩⟩
  · split at h
    · next z he =>
      obtain ⟨v, rfl, rfl, _⟩ := ra.one
      obtain ⟨h1, h⟩ := PR.guard h
      exact ⟨_, call_int_str, _, _, rfl, he, of_decide_eq_true h1, PE1.sc (d := .int _) h st ⟨rfl, rfl⟩⟩
    · exact False.elim h
  · obtain ⟨hc, h⟩ := PR.guard h
    obtain ⟨v, rfl, a, us, l', rfl, nx, rr, el⟩ := ra.one
    exact ⟨_, call_list_of, a, us, rfl, .inl (lst_sql F.K nx), fun q hq => new_lst st rr hc (fun b hb => f b (by rw [el]; exact mem_consO.mpr (.inr hb))) h q hq⟩
  · obtain ⟨hc, h⟩ := PR.guard h
    obtain ⟨v, rfl, a, us, l', rfl, nx, rr, el⟩ := ra.one
    exact ⟨_, call_list_of, a, us, rfl, .inr (tup_sqt F.K nx), fun q hq => new_lst st rr hc (fun b hb => f b (by rw [el]; exact mem_consO.mpr (.inr hb))) h q hq⟩
  · next m ks ds =>
    obtain ⟨v, rfl, a, kvs, l', rfl, nx, ek, rr, el⟩ := ra.one
    refine ⟨_, call_listRd F.calm, a, kvs, rfl, nx.2.1, fun q hq => ?_⟩
    rw [ek]
    exact new_lstO st (reps_keys ks) (fun _ z => nomatch z) .nil h q hq
  · obtain ⟨hc, h⟩ := PR.guard h
    obtain ⟨v, rfl, a, kvs, l', rfl, nx, ek, rr, el⟩ := ra.one
    subst ek
    exact ⟨_, call_dictRd, a, kvs, rfl, nx.2.1, fun q hq => new_dic st rr hc (fun b hb => f b (by rw [el]; exact mem_consO.mpr (.inr hb))) h q hq⟩
  · obtain ⟨d, hd, h⟩ := PR.ofOpt h
    obtain ⟨bs, hb, e⟩ := Option.map_eq_some_iff.mp hd
    subst e
    obtain ⟨v, rfl, a, us, l', rfl, nx, rr, el⟩ := ra.one
    exact ⟨_, cr_any F.calm, a, bs, rfl, by rw [← reps_bl rr hb]; exact lst_sql F.K nx, PE1.sc (d := .bl _) h st ⟨rfl, rfl⟩⟩
  · obtain ⟨d, hd, h⟩ := PR.ofOpt h
    obtain ⟨bs, hb, e⟩ := Option.map_eq_some_iff.mp hd
    subst e
    obtain ⟨v, rfl, a, us, l', rfl, nx, rr, el⟩ := ra.one
    exact ⟨_, cr_all F.calm, a, bs, rfl, by rw [← reps_bl rr hb]; exact lst_sql F.K nx, PE1.sc (d := .bl _) h st ⟨rfl, rfl⟩⟩
  · exact False.elim h
theorem notName : ∀ b : Blt, bltN b ≠ "__name__" := by intro b; cases b <;> decide +kernel
theorem notDebug : ∀ b : Blt, (bltN b == ("__debug__" : Str)) = false := by intro b; cases b <;> decide +kernel
def bltF (b : Blt) : Bool := match b with
  | .lenset => false
  | _ => true
theorem boot_blt : ∀ b : Blt, bltF b = true → bootBuiltins (bltN b) = some (bltV b) := by intro b h; cases b <;> first | (cases h; done) | decide +kernel
theorem wcall_pe {b : Blt} (hb : bltF b = true) {p pos : Pos} {e : Expr} {es : List Expr} {t : TA} (hg : Gl X (bltN b)) (hm : X.mg (bltN b) = none) (ha : PA X (e :: es) t) (ho : ∀ q ∈ e :: es, okE q = true) : PE X (.Call (.Name (bltN b) p) (e :: es) [] pos) (tCB (WCall X (bltV b)) t) := by
  have h1 := okE_star (ho e (by simp)) es X.env
  have h2 : (backTo pos (starEach es X.env)).any (·.1) = false := noStar fun x hx => ho x (by simp [hx])
  have h3 := notName b
  have h4 := notDebug b
  have h5 := boot_blt b hb
  cases b <;> first | (cases hb; done) | exact pe_callB wcall hg hm h5 ha h3 h4 h1 h2 | exact pe_callTy wcall hg hm h5 ha h3 h4 h1 h2
theorem se_blt (F : FX n X) {b : Blt} (hb : bltF b = true) {x : Str} {p pos : Pos} {es : List Expr} {ts : List Tm} (hx : x = bltN b) (hg : Gl X x) (hm : X.mg x = none) (ha : All2 (OkSE n G X) es ts) (h0 : es ≠ []) : SE n G X (.Call (.Name x p) es [] pos) (.blt b ts) := by
  intro W tk M s σ H Q R h
  unfold evalE at h
  subst hx
  cases es with
  | nil => exact absurd rfl h0
  | cons e es =>
    refine ⟨_, wcall_pe hb hg hm wa (All2.ok ha), sa_of ha W tk M s σ H _ R (h.bind.imp (fun ds ed hd vs M1 H1 l s1 ra f1 n1 => ?_) fun _ _ q => q)⟩
    exact blt_val F s1 ra f1 hd

/-! ### d.get(k, x), d.get(k) -/
theorem get_form {o : Expr} {m : Str} {apos cpos : Pos} {e f : Expr} (h1 : methForm o = true) (hl : (apos.endLine == cpos.line) = true) (he : okE e = true) (hf : okE f = true) : M2 X o m apos e f cpos where
  base := base_of h1 _ _ _
  few := by
    rw [okE_star he, okE_star hf]
    rfl
  line := hl
  trees := by rw [okE_star he, okE_star hf]; rfl
theorem se_get2 (F : FX n X) {o e f : Expr} {to te tf : Tm} {apos cpos : Pos} (ho : SE n G X o to) (he : SE n G X e te) (hf : SE n G X f tf) (h1 : methForm o = true) (hl : (apos.endLine == cpos.line) = true) (oe : okE e = true) (of_ : okE f = true) :
    SE n G X (.Call (.Attribute o "get" apos) [e, f] [] cpos) (.bmt .get2 to [te, tf]) := by
  intro W tk M s σ H Q R h
  unfold evalE at h
  refine ⟨_, pe_dget2 F.hu1 we we we (get_form h1 hl oe of_), ?_⟩
  refine ho W tk M s σ H _ R (h.bind.imp (fun x ex hx v M1 H1 l1 s1 r1 f1 n1 => ?_) fun _ _ q => q)
  obtain ⟨hg, hx⟩ := PR.guard hx
  unfold evalL at hx
  unfold evalL at hx
  unfold evalL at hx
  cases x with
  | dic m ks ds =>
    have r1' := r1
    obtain ⟨a, kvs, l', rfl, nx, ek, rr, el⟩ := r1
    refine ⟨a, rfl, .inl ⟨kvs, nx.2.1⟩, ?_⟩
    refine he W tk M1 s σ H1 _ (R.step s1) (hx.bind.bind.imp (fun k ke hk u M2 H2 l2 s2 r2 f2 n2 => ?_) fun _ _ q => q.step s1)
    refine hf W tk M2 s σ H2 _ (R.step (s1.trans s2)) (hk.bind.bind.imp (fun y ye hy w M3 H3 l3 s3 r3 f3 n3 => ?_) fun _ _ q => q.step (s1.trans s2))
    have hy : PR ((vKey k).bind fun k => (.ok ((atKeyD k ks ds).getD y) : Res D)) (PE1 n M H Q) (PX n M H fun cls d H' => W cls d σ H') := hy
    have st := s1.trans (s2.trans s3)
    have r1'' := (r1'.step s1.d (s2.trans s3))
    obtain ⟨a', kvs', l'', ea, nx', ek', rr', el'⟩ := r1''
    cases ea
    cases hk2 : vKey k with
    | stuck => rw [hk2] at hy; exact False.elim hy
    | ex c xs =>
      unfold vKey at hk2
      split at hk2 <;> cases hk2
    | ok q =>
      rw [hk2] at hy
      have hy : PE1 n M H Q ((atKeyD q ks ds).getD y) := hy
      have ekq : k.key = some q := by
        unfold vKey at hk2
        unfold D.key
        split at hk2 <;> cases hk2 <;> rfl
      refine ⟨valV kvs' q, .inl ⟨kvs', q, nx'.2.1, rep_key (r2.step s2.d s3) ekq, rfl⟩, ?_⟩
      cases hat : atKeyD q ks ds with
      | some d =>
        rw [hat] at hy
        obtain ⟨w', l4, e1, r4, hs, _⟩ := key_val ek' rr' hat
        rw [e1]
        exact PE1.part hy st r4 (hs.trans (by rw [el']; exact consO_sub _ _ _)) f1 n1
      | none =>
        rw [hat] at hy
        rw [key_no ek' rr' hat]
        exact PE1.old hy st r3 (fun b hb => (s1.trans s2).fresh (f3 b hb)) n3
  | _ => cases hg
end
end GS

namespace GS
open PySem PySem.Spec PyProof.Rows L2

section
variable {n : Env'} {G : GE} {X : Cx} {W : WX} {M M0 M1 : MM} {H H0 H1 : Hp} {s : Sl} {σ : L2.St}

/-! ### isinstance -/
def tyV' (n : Env') : String ⊕ Nat → Value
  | .inl T => .type T
  | .inr k => .ref (n.c.ca k)
theorem rep_ty (F : FC n G X) {d : D} {v : V} {l : List Addr} (r : Rep n.c M H d v l) (hs : ∀ k, d.ty = .inr k → G.sub k ≠ []) : TyX X.K H v (tyV' n d.ty) := by
  cases d with
  | non => obtain ⟨rfl, _⟩ := r; exact .base .non
  | bl b => obtain ⟨rfl, _⟩ := r; exact .base (.bl b)
  | int i => obtain ⟨rfl, _⟩ := r; exact .base (.int i)
  | str x => obtain ⟨rfl, _⟩ := r; exact .base (.str x)
  | tup m ds =>
    obtain ⟨a, vs, l', rfl, nx, _⟩ := r
    rcases nx with nx | ⟨_, o, its, k, h1, h2, _⟩
    · exact .base (.tup nx.2)
    · exact .kTuple (by rw [← F.K]; exact h1) h2
  | lst m ds =>
    obtain ⟨a, vs, l', rfl, nx, _⟩ := r
    rcases nx with nx | ⟨_, ⟨o, its, k, h1, h2, _⟩ | ⟨_, o, h1⟩⟩
    · exact .base (.lst nx.2)
    · exact .kList (by rw [← F.K]; exact h1) h2
    · exact .base (.frz h1)
  | dic m ks ds =>
    obtain ⟨a, kvs, l', rfl, nx, _⟩ := r
    rcases nx.2.1 with h1 | ⟨o, h1⟩
    · exact .base (.dK h1)
    · exact .fDict h1
  | ins m k fs ds =>
    obtain ⟨a, dx, fvs, l', rfl, nx, _⟩ := r
    obtain ⟨h1, h2, h3, _⟩ := F.ity k (hs k rfl)
    exact .base (.ins nx.2 h1 h2 (F.itk ⟨k, hs k rfl⟩).1 (F.itk ⟨k, hs k rfl⟩).2 h3)
/-- the class that is asked -/
def isiC (n : Env') : Isi → Value
  | .cls c => .ref (n.c.ca c)
  | k => .type (isiN k)
def isiV (n : Env') : Isi → V
  | .cls c => .ref (n.c.ca c)
  | k => .ty (isiN k)
theorem isi_cls (k : Isi) : ClsV (isiV n k) (isiC n k) := by cases k <;> first | exact .ty _ | exact .own _
theorem kit_bb : ∀ T ∈ ["NoneType", "bool", "int", "str", "list", "tuple", "dict"], ∀ U ∈ ["int", "bool", "str", "list", "tuple", "dict"], kitB T U = some (decide (T = U) || (decide (T = "bool") && decide (U = "int"))) := by decide +kernel
theorem isi_val (F : FC n G X) {k : Isi} (hk : ∀ c, k = .cls c → n.okc c = true) {d : D} {v : V} {l : List Addr} {Q : VK} {K : Bool → Prop} {E : Nat → List D → Prop} (r : Rep n.c M H d v l) (h : PR (vIsi G.sub k d) K E) (hq : ∀ b, K b → Q (.bl b) H) : rIsi X.K [v, isiV n k] H Q := by
  unfold vIsi at h
  have isiU : ∀ k : Isi, (∀ c, k ≠ .cls c) → isiN k ∈ ["int", "bool", "str", "list", "tuple", "dict"] := by intro k hk; cases k <;> first | exact absurd rfl (hk _) | decide
  have tyIn : ∀ T, d.ty = .inl T → T ∈ ["NoneType", "bool", "int", "str", "list", "tuple", "dict"] := by
    intro T e; cases d <;> cases e <;> decide
  cases ht : d.ty with
  | inl T =>
    rw [ht] at h
    have t1 := rep_ty F r (fun q e => by rw [ht] at e; cases e)
    rw [ht] at t1
    cases k with
    | cls c => exact ⟨v, _, _, _, false, rfl, isi_cls (.cls c), t1, F.itb T (tyIn T ht) c (hk c rfl), hq _ h⟩
    | int => exact ⟨v, _, _, _, _, rfl, isi_cls .int, t1, kit_ty (kit_bb T (tyIn T ht) _ (isiU .int (fun c e => by cases e))), hq _ h⟩
    | bool => exact ⟨v, _, _, _, _, rfl, isi_cls .bool, t1, kit_ty (kit_bb T (tyIn T ht) _ (isiU .bool (fun c e => by cases e))), hq _ h⟩
    | str => exact ⟨v, _, _, _, _, rfl, isi_cls .str, t1, kit_ty (kit_bb T (tyIn T ht) _ (isiU .str (fun c e => by cases e))), hq _ h⟩
    | list => exact ⟨v, _, _, _, _, rfl, isi_cls .list, t1, kit_ty (kit_bb T (tyIn T ht) _ (isiU .list (fun c e => by cases e))), hq _ h⟩
    | tuple => exact ⟨v, _, _, _, _, rfl, isi_cls .tuple, t1, kit_ty (kit_bb T (tyIn T ht) _ (isiU .tuple (fun c e => by cases e))), hq _ h⟩
    | dict => exact ⟨v, _, _, _, _, rfl, isi_cls .dict, t1, kit_ty (kit_bb T (tyIn T ht) _ (isiU .dict (fun c e => by cases e))), hq _ h⟩
  | inr q =>
    rw [ht] at h
    have hsub : (!(G.sub q).isEmpty) = true → G.sub q ≠ [] := fun z e => by rw [e] at z; cases z
    cases k with
    | cls c =>
      obtain ⟨hg, h⟩ := PR.guard h
      obtain ⟨_, _, _, h4, h5⟩ := F.ity q (hsub hg)
      have t1 := rep_ty F r (fun p e => by rw [ht] at e; cases e; exact hsub hg)
      rw [ht] at t1
      exact ⟨v, _, _, _, _, rfl, isi_cls (.cls c), t1, h5 c (hk c rfl), hq _ h⟩
    | int =>
      obtain ⟨hg, h⟩ := PR.guard h
      obtain ⟨_, _, _, h4, h5⟩ := F.ity q (hsub hg)
      have t1 := rep_ty F r (fun p e => by rw [ht] at e; cases e; exact hsub hg)
      rw [ht] at t1
      exact ⟨v, _, _, _, _, rfl, isi_cls .int, t1, h4 _ (by decide), hq _ h⟩
    | bool =>
      obtain ⟨hg, h⟩ := PR.guard h
      obtain ⟨_, _, _, h4, h5⟩ := F.ity q (hsub hg)
      have t1 := rep_ty F r (fun p e => by rw [ht] at e; cases e; exact hsub hg)
      rw [ht] at t1
      exact ⟨v, _, _, _, _, rfl, isi_cls .bool, t1, h4 _ (by decide), hq _ h⟩
    | str =>
      obtain ⟨hg, h⟩ := PR.guard h
      obtain ⟨_, _, _, h4, h5⟩ := F.ity q (hsub hg)
      have t1 := rep_ty F r (fun p e => by rw [ht] at e; cases e; exact hsub hg)
      rw [ht] at t1
      exact ⟨v, _, _, _, _, rfl, isi_cls .str, t1, h4 _ (by decide), hq _ h⟩
    | list =>
      obtain ⟨hg, h⟩ := PR.guard h
      obtain ⟨_, _, _, h4, h5⟩ := F.ity q (hsub hg)
      have t1 := rep_ty F r (fun p e => by rw [ht] at e; cases e; exact hsub hg)
      rw [ht] at t1
      exact ⟨v, _, _, _, _, rfl, isi_cls .list, t1, h4 _ (by decide), hq _ h⟩
    | tuple =>
      obtain ⟨hg, h⟩ := PR.guard h
      obtain ⟨_, _, _, h4, h5⟩ := F.ity q (hsub hg)
      have t1 := rep_ty F r (fun p e => by rw [ht] at e; cases e; exact hsub hg)
      rw [ht] at t1
      exact ⟨v, _, _, _, _, rfl, isi_cls .tuple, t1, h4 _ (by decide), hq _ h⟩
    | dict =>
      obtain ⟨hg, h⟩ := PR.guard h
      obtain ⟨_, _, _, h4, h5⟩ := F.ity q (hsub hg)
      have t1 := rep_ty F r (fun p e => by rw [ht] at e; cases e; exact hsub hg)
      rw [ht] at t1
      exact ⟨v, _, _, _, _, rfl, isi_cls .dict, t1, h4 _ (by decide), hq _ h⟩
/-- the second argument: a class's name -/
def isiName (n : Env') : Isi → Str
  | .cls c => n.cn c
  | .int => "int" | .bool => "bool" | .str => "str" | .list => "list" | .tuple => "tuple" | .dict => "dict"
theorem isi_pe (F : FC n G X) {k : Isi} (hk : ∀ c, k = .cls c → n.okc c = true) {x : Str} {p : Pos} (hx : x = isiName n k) (hg : Gl X x) (hdb : (x == ("__debug__" : Str)) = false) : PE X (.Name x p) (tC (isiV n k)) := by
  subst hx
  cases k with
  | cls c => exact pe_glob hg (F.cnm c (hk c rfl)).1 rfl hdb
  | int => exact pe_bltn hg (F.free "int" (by simp)) (by decide +kernel : bootBuiltins "int" = some (.type "int")) rfl (show ("int" : Str) ≠ "__name__" by decide +kernel) hdb
  | bool => exact pe_bltn hg (F.free "bool" (by simp)) (by decide +kernel : bootBuiltins "bool" = some (.type "bool")) rfl (show ("bool" : Str) ≠ "__name__" by decide +kernel) hdb
  | str => exact pe_bltn hg (F.free "str" (by simp)) (by decide +kernel : bootBuiltins "str" = some (.type "str")) rfl (show ("str" : Str) ≠ "__name__" by decide +kernel) hdb
  | list => exact pe_bltn hg (F.free "list" (by simp)) (by decide +kernel : bootBuiltins "list" = some (.type "list")) rfl (show ("list" : Str) ≠ "__name__" by decide +kernel) hdb
  | tuple => exact pe_bltn hg (F.free "tuple" (by simp)) (by decide +kernel : bootBuiltins "tuple" = some (.type "tuple")) rfl (show ("tuple" : Str) ≠ "__name__" by decide +kernel) hdb
  | dict => exact pe_bltn hg (F.free "dict" (by simp)) (by decide +kernel : bootBuiltins "dict" = some (.type "dict")) rfl (show ("dict" : Str) ≠ "__name__" by decide +kernel) hdb
theorem se_isi (F : FC n G X) {k : Isi} (hk : ∀ c, k = .cls c → n.okc c = true) {a : Expr} {ta : Tm} {x : Str} {p p2 pos : Pos} (hx : x = isiName n k) (hgi : Gl X "isinstance") (hg : Gl X x) (hdb : (x == ("__debug__" : Str)) = false) (oa : okE a = true) (ha : SE n G X a ta) :
    SE n G X (.Call (.Name "isinstance" p) [a, .Name x p2] [] pos) (.isi ta k) := by
  intro W tk M s σ H Q R h
  unfold evalE at h
  have hpa : PA X [a, .Name x p2] (tCons (WE X a) (tCons (tC (isiV n k)) tNil)) := pa_cons we (pa_cons (isi_pe F hk hx hg hdb) pa_nil rfl) (okE_star oa _ _)
  refine ⟨_, pe_callB call_isi hgi (F.free "isinstance" (by simp)) boot_isinstance hpa (by decide) (by decide) (okE_star oa _ _) (noStar (es := [.Name x p2]) fun e he => by rw [List.mem_singleton.mp he]; rfl), ?_⟩
  refine ha W tk M s σ H _ R (h.bind.imp (fun d ed hd v M1 H1 l s1 r1 f1 n1 => ?_) fun _ _ q => q)
  exact isi_val F hk r1 hd.bind fun b q => PE1.sc (d := .bl b) q s1 ⟨rfl, rfl⟩
end
end GS

namespace GS
open PySem PySem.Spec PyProof.Rows L2

/-! ## what is walked -/
def Stq (st : Bool) (M : MM) (H : Hp) (M' : MM) (H' : Hp) : Prop := if st = true then StS M H M' H' else St0 M H M' H'
theorem Stq.d {st : Bool} {M M' : MM} {H H' : Hp} (s : Stq st M H M' H') : Dom M' H' := by
  unfold Stq at s; cases st <;> exact s.d
/-- the walked dict may have been locked -/
def Lk (X : Cx) (st : Bool) (M : MM) (H H' : Hp) : Prop := H' = H ∨ ∃ d od kvs, H d = some (.dK kvs) ∧ M d ≠ none ∧ (st = true → M d ≠ some .own) ∧ H' = upd H d (.frz od (.dK kvs)) ∧ ∀ o' u', X.H_0 d ≠ some (.frz o' u')
structure Yl (n : Env') (st : Bool) (M : MM) (H : Hp) (J : It) (ds : List D) : Prop where
  turn : ∀ M' H', Stq st M H M' H' → (∀ i, ds.length ≤ i → J.stop i H') ∧ ∀ i d, ds[i]? = some d → J.go i H' ∧ ∀ x H'', J.yld i H' x H'' → ∃ M'', St0 M' H' M'' H'' ∧ Rep n.c M'' H'' d x []
def WI (X : Cx) (tg iter : Expr) : TI := fun σ H R => ∃ wi, PI X tg iter wi ∧ wi σ H R
theorem wi_ {X : Cx} {tg iter : Expr} : PI X tg iter (WI X tg iter) := ⟨fun pins s σ H R I ⟨t, h, q⟩ => h.run pins s σ H R I q⟩
def SI (n : Env') (G : GE) (X : Cx) (st : Bool) (tg iter : Expr) (it : Itr) : Prop := ∀ (W : WX), Takes X W → ∀ M s σ H R, RelS n.c M s σ H →
  PR (evalI G st it s) (fun ds => ∀ J M1 H1 H1', St0 M H M1 H1 → Lk X st M1 H1 H1' → Yl n st M1 H1' J ds → R J H1') (PX n M H fun cls d H' => W cls d σ H') → WI X tg iter σ H R

section
variable {n : Env'} {G : GE} {X : Cx} {W : WX} {M M0 M1 : MM} {H H0 H1 : Hp} {s : Sl} {σ : L2.St} {st : Bool} {tg : Expr}

theorem Rep.stp {M' : MM} {H' : Hp} {d : D} {v : V} (r : Rep n.c M H d v []) (hv : st = true → d.md ≠ .vw) (hd : Dom M H) (s : Stq st M H M' H') : Rep n.c M' H' d v [] := by
  unfold Stq at s
  cases st with
  | false => exact r.step hd s
  | true =>
    refine Rep.mono d r fun a ha h1 h2 => ?_
    have e := s.k a (hd a ha) (fun e => (h1 e).elim (fun z => nomatch z) (hv rfl))
    exact ⟨e.2, .inl e.1, fun z => nomatch z⟩
theorem Rep.lk {H' : Hp} {d : D} {v : V} (r : Rep n.c M H d v []) (k : Lk X st M H H') : Rep n.c M H' d v [] := by
  rcases k with e | ⟨q, od, kvs, h1, h2, h3, e, h4⟩
  · rw [e]; exact r
  · refine Rep.mono d r fun a ha _ _ => ⟨rfl, ?_, fun z => nomatch z⟩
    by_cases z : a = q
    · subst z
      exact .inr ⟨kvs, .inl h1, .inr ⟨od, by rw [e, upd_same]⟩⟩
    · exact .inl (by rw [e, upd_ne z])
theorem Lk.dom {H' : Hp} (d : Dom M H) (k : Lk X st M H H') : Dom M H' := by
  rcases k with e | ⟨q, od, kvs, h1, h2, h3, e, h4⟩
  · rw [e]; exact d
  · intro a ha
    rw [e]
    by_cases z : a = q
    · rw [z, upd_same]; simp
    · rw [upd_ne z]; exact d a ha
theorem RelS.lk {H' : Hp} (R : RelS n.c M s σ H) (k : Lk X st M H H') : RelS n.c M s σ H' := ⟨R.len, k.dom R.dom, fun i d e => let ⟨v, h1, h2⟩ := R.at_ i d e; ⟨v, h1, h2.lk k⟩⟩

/-- a walked thing that nobody holds is frozen -/
def D.wk (d : D) : D := if d.md = .own then d.own2 .fz else d
theorem wk_own (d : D) : d.wk.md ≠ .own := by
  unfold D.wk
  split
  · next h => rw [own2_md, if_pos h]; simp
  · next h => exact h
theorem wk_vw {d : D} (h : walkOk st d = true) : st = true → d.wk.md ≠ .vw := by
  intro e
  subst e
  unfold walkOk at h
  unfold D.wk
  split
  · next h => rw [own2_md, if_pos h]; simp
  · intro z; rw [z] at h; simp at h
theorem wk_rep {d : D} {v : V} {l L : List Addr} (r : Rep n.c M H d v l) (hs : ∀ a ∈ l, a ∈ L) (hL : ∀ a ∈ L, M a = some .own) : Rep n.c (frzM M L) H d.wk v [] := by
  unfold D.wk
  split
  · next h => exact Rep.freeze L d r hs hL (by unfold D.cl; rw [h])
  · next h =>
    have : l = [] := Rep.noOwn d r h
    subst this
    exact Rep.frzAny L hL d r h
theorem vLst_wk {d : D} {ds : List D} (h : vLst d = .ok ds) : ∃ m, d.wk = .lst m ds := by
  unfold vLst at h
  cases d with
  | lst m xs => cases m <;> cases h <;> exact ⟨_, rfl⟩
  | _ => cases h
theorem vSeq_wk {d : D} {ds : List D} (h : vSeq d = .ok ds) : (∃ m, d.wk = .lst m ds) ∨ ∃ m, d.wk = .tup m ds := by
  unfold vSeq at h
  cases d with
  | lst m xs => cases m <;> cases h <;> exact .inl ⟨_, rfl⟩
  | tup m xs => cases m <;> cases h <;> exact .inr ⟨_, rfl⟩
  | _ => cases h
theorem vDic_wk {d : D} {p : List Key × List D} (h : vDic d = .ok p) : ∃ m, d.wk = .dic m p.1 p.2 := by
  unfold vDic at h
  cases d with
  | dic m ks xs => cases m <;> cases h <;> exact ⟨_, rfl⟩
  | _ => cases h
theorem PR.val {α : Type} {r : Res α} {K : α → Prop} {E : Nat → List D → Prop} (h : PR r K E) (ne : ∀ c ds, r ≠ .ex c ds) : ∃ a, r = .ok a ∧ K a := by
  cases r with
  | ok a => exact ⟨a, rfl, h⟩
  | ex c ds => exact absurd rfl (ne c ds)
  | stuck => exact False.elim h
theorem vLst_ne (d : D) : ∀ c ds, vLst d ≠ .ex c ds := by
  intro c ds h
  unfold vLst at h; split at h <;> cases h
theorem vSeq_ne (d : D) : ∀ c ds, vSeq d ≠ .ex c ds := by
  intro c ds h
  unfold vSeq at h; split at h <;> cases h
theorem vDic_ne (d : D) : ∀ c ds, vDic d ≠ .ex c ds := by
  intro c ds h
  unfold vDic at h; split at h <;> cases h
theorem vInt_ne (d : D) : ∀ c ds, vInt d ≠ .ex c ds := by
  intro c ds h
  unfold vInt at h; split at h <;> cases h
theorem vInt_ok {d : D} {i : Int} (h : vInt d = .ok i) : d = .int i := by
  unfold vInt at h; split at h <;> cases h; rfl

/-! ### what is yielded -/
theorem yl_lst (F : FX n X) {m : Md} {ds : List D} {a : Addr} (r : Rep n.c M H (.lst m ds) (.ref a) []) (hv : st = true → m ≠ .vw) (hd : Dom M H) : Yl n st M H (Itl X.K a) ds := by
  refine ⟨fun M' H' s => ?_⟩
  obtain ⟨a', vs, l', e, nx, rr, el⟩ := r.stp (st := st) (d := .lst m ds) hv hd s
  cases e
  have sq := lst_sql F.K nx
  refine ⟨fun i hi => ⟨vs, sq, by rw [rr.len]; exact hi⟩, fun i d hi => ?_⟩
  obtain ⟨v, l2, e1, r2, hs, ck⟩ := Reps.get rr hi
  refine ⟨⟨vs, v, sq, e1⟩, fun x H'' ⟨e, y⟩ => ?_⟩
  subst e
  have e2 := y vs sq
  rw [e1] at e2
  cases e2
  have : l2 = [] := List.sublist_nil.mp (by
    have : l' = [] := by
      have z := el.symm
      cases m <;> first | (simp [consO] at z; done) | exact z
    rw [this] at hs; exact hs)
  subst this
  exact ⟨M', St0.refl s.d, r2⟩
theorem nil_of {m : Md} {a : Addr} {l' l2 : List Addr} (e : [] = consO m a l') (hs : l2.Sublist l') : l2 = [] := by
  have : l' = [] := by
    have z := e.symm
    cases m <;> first | (simp [consO] at z; done) | exact z
  rw [this] at hs; exact List.sublist_nil.mp hs
theorem yl_tup (F : FX n X) {m : Md} {ds : List D} {a : Addr} (r : Rep n.c M H (.tup m ds) (.ref a) []) (hv : st = true → m ≠ .vw) (hd : Dom M H) : Yl n st M H (Itt X.K a) ds := by
  refine ⟨fun M' H' s => ?_⟩
  obtain ⟨a', vs, l', e, nx, rr, el⟩ := r.stp (st := st) (d := .tup m ds) hv hd s
  cases e
  have sq := tup_sqt F.K nx
  refine ⟨fun i hi => ⟨vs, sq, by rw [rr.len]; exact hi⟩, fun i d hi => ?_⟩
  obtain ⟨v, l2, e1, r2, hs, ck⟩ := Reps.get rr hi
  refine ⟨⟨vs, v, sq, e1⟩, fun x H'' ⟨e, y⟩ => ?_⟩
  subst e
  have e2 := y vs sq
  rw [e1] at e2
  cases e2
  have := nil_of el hs
  subst this
  exact ⟨M', St0.refl s.d, r2⟩
theorem yl_rev (F : FX n X) {m : Md} {ds : List D} {a : Addr} (r : Rep n.c M H (.lst m ds) (.ref a) []) (hv : st = true → m ≠ .vw) (hd : Dom M H) : Yl n st M H (Itv X.K a ds.length) ds.reverse := by
  refine ⟨fun M' H' s => ?_⟩
  obtain ⟨a', vs, l', e, nx, rr, el⟩ := r.stp (st := st) (d := .lst m ds) hv hd s
  cases e
  have sq := lst_sql F.K nx
  refine ⟨fun i hi => show ds.length ≤ i by simpa using hi, fun i d hi => ?_⟩
  have hlt : i < ds.length := by
    have := (List.getElem?_eq_some_iff.mp hi).1
    simpa using this
  rw [List.getElem?_reverse hlt] at hi
  obtain ⟨v, l2, e1, r2, hs, ck⟩ := Reps.get rr hi
  refine ⟨⟨hlt, vs, v, sq, e1⟩, fun x H'' ⟨e, y⟩ => ?_⟩
  subst e
  have e2 := y vs sq
  rw [e1] at e2
  cases e2
  have := nil_of el hs
  subst this
  exact ⟨M', St0.refl s.d, r2⟩
theorem yl_rng {lo : Int} {k : Nat} : Yl n st M H (L2.Itr lo k) (rangeD lo k) := by
  refine ⟨fun M' H' s => ⟨fun i hi => show k ≤ i by simpa [rangeD] using hi, fun i d hi => ?_⟩⟩
  have hlt : i < k := by
    have := (List.getElem?_eq_some_iff.mp hi).1
    simpa [rangeD] using this
  refine ⟨hlt, fun x H'' ⟨e, y⟩ => ?_⟩
  subst e y
  refine ⟨M', St0.refl s.d, ?_⟩
  have : d = .int (lo + (i : Nat)) := by
    unfold rangeD at hi
    rw [List.getElem?_map, List.getElem?_range hlt] at hi
    simpa using hi.symm
  rw [this]
  exact ⟨rfl, rfl⟩
theorem yl_sgn {z : Str} : Yl n st M H (Its z) (z.cps.toList.map fun c => D.str ⟨#[c]⟩) := by
  refine ⟨fun M' H' s => ⟨fun i hi => show z.cps.size ≤ i by simpa using hi, fun i d hi => ?_⟩⟩
  have hlt : i < z.cps.size := by
    have := (List.getElem?_eq_some_iff.mp hi).1
    simpa using this
  refine ⟨hlt, fun x H'' ⟨e, c, hc, y⟩ => ?_⟩
  subst e y
  refine ⟨M', St0.refl s.d, ?_⟩
  rw [List.getElem?_map, Array.getElem?_toList, hc] at hi
  cases hi
  exact ⟨rfl, rfl⟩
/-- a new pair -/
theorem new_pair {d d' : D} {v u : V} {T : Addr} (r : Rep n.c M H d v []) (r' : Rep n.c M H d' u []) (hd : Dom M H) (hT : H T = none) : ∃ M'', St0 M H M'' (upd H T (.tup [v, u])) ∧ Rep n.c M'' (upd H T (.tup [v, u])) (.tup .vw [d, d']) (.ref T) [] := by
  have s1 : St0 M H (layM M T .own) (upd H T (.tup [v, u])) := St0.lay hd hT
  have ck : ∀ {d : D} {v : V}, Rep n.c M H d v [] → chOk .vw d.md = true := fun {d v} r => by
    have hne : d.md ≠ .own := fun e => by
      cases d with
      | tup m ds => obtain ⟨_, _, _, _, _, _, el⟩ := r; cases e; cases el
      | lst m ds => obtain ⟨_, _, _, _, _, _, el⟩ := r; cases e; cases el
      | dic m ks ds => obtain ⟨_, _, _, _, _, _, _, el⟩ := r; cases e; cases el
      | ins m k fs ds => obtain ⟨_, _, _, _, _, _, _, _, el⟩ := r; cases e; cases el
      | _ => cases e
    cases hm : d.md <;> first | rfl | exact absurd hm hne
  exact ⟨_, s1, T, [v, u], [], rfl, .inl ⟨.inl layM_same, upd_same⟩, ⟨v, [u], [], [], rfl, ck r, r.step hd s1, ⟨u, [], [], [], rfl, ck r', r'.step hd s1, ⟨rfl, rfl⟩, rfl⟩, rfl⟩, rfl⟩
theorem enums_at : ∀ (ds : List D) (k i : Nat) (d : D), (enums k ds)[i]? = some d → ∃ x, ds[i]? = some x ∧ d = .tup .vw [.int ((k + i : Nat) : Int), x]
  | [], k, i, d, h => by simp [enums] at h
  | x :: ds, k, 0, d, h => by simp [enums] at h; exact ⟨x, rfl, by simp [← h]⟩
  | x :: ds, k, i + 1, d, h => by
    simp [enums] at h
    obtain ⟨y, h1, h2⟩ := enums_at ds (k + 1) i d h
    exact ⟨y, by simpa using h1, by rw [h2]; congr 4; omega⟩
theorem enums_len : ∀ (ds : List D) (k : Nat), (enums k ds).length = ds.length
  | [], k => rfl
  | x :: ds, k => by simp [enums, enums_len ds]
theorem yl_enm (F : FX n X) {m : Md} {ds : List D} {a : Addr} (r : Rep n.c M H (.lst m ds) (.ref a) []) (hv : st = true → m ≠ .vw) (hd : Dom M H) : Yl n st M H (Ite X.K a) (enums 0 ds) := by
  refine ⟨fun M' H' s => ?_⟩
  obtain ⟨a', vs, l', e, nx, rr, el⟩ := r.stp (st := st) (d := .lst m ds) hv hd s
  cases e
  have sq := lst_sql F.K nx
  refine ⟨fun i hi => ⟨vs, sq, by rw [rr.len, ← enums_len ds 0]; exact hi⟩, fun i d hi => ?_⟩
  obtain ⟨y, hy, ed⟩ := enums_at ds 0 i d hi
  subst ed
  obtain ⟨v, l2, e1, r2, hs, ck⟩ := Reps.get rr hy
  refine ⟨⟨vs, v, sq, e1⟩, fun x H'' ⟨T, w, ex, hT, eH, hw⟩ => ?_⟩
  subst ex eH
  have e2 := hw vs sq
  rw [e1] at e2
  cases e2
  have := nil_of el hs
  subst this
  rw [Nat.zero_add]
  exact new_pair (d := .int (i : Nat)) ⟨rfl, rfl⟩ r2 s.d hT
theorem pairs_at : ∀ (xs ys : List D) (i : Nat) (d : D), (pairs xs ys)[i]? = some d → ∃ x y, xs[i]? = some x ∧ ys[i]? = some y ∧ d = .tup .vw [x, y]
  | [], ys, i, d, h => by simp [pairs] at h
  | x :: xs, [], i, d, h => by simp [pairs] at h
  | x :: xs, y :: ys, 0, d, h => by simp [pairs] at h; exact ⟨x, y, rfl, rfl, h.symm⟩
  | x :: xs, y :: ys, i + 1, d, h => by
    simp [pairs] at h
    obtain ⟨p, q, h1, h2, h3⟩ := pairs_at xs ys i d h
    exact ⟨p, q, by simpa using h1, by simpa using h2, h3⟩
theorem pairs_len : ∀ (xs ys : List D), (pairs xs ys).length = min xs.length ys.length
  | [], ys => by simp [pairs]
  | x :: xs, [] => by simp [pairs]
  | x :: xs, y :: ys => by simp [pairs, pairs_len xs ys]
theorem yl_zip (F : FX n X) {m m' : Md} {xs ys : List D} {a b : Addr} (r : Rep n.c M H (.lst m xs) (.ref a) []) (r' : Rep n.c M H (.lst m' ys) (.ref b) []) (hv : st = true → m ≠ .vw) (hv' : st = true → m' ≠ .vw) (hd : Dom M H) : Yl n st M H (Itz X.K a b) (pairs xs ys) := by
  refine ⟨fun M' H' s => ?_⟩
  obtain ⟨a', vs, l', e, nx, rr, el⟩ := r.stp (st := st) (d := .lst m xs) hv hd s
  cases e
  obtain ⟨b', us, l'', e, nx', rr', el'⟩ := r'.stp (st := st) (d := .lst m' ys) hv' hd s
  cases e
  have sq := lst_sql F.K nx
  have sq' := lst_sql F.K nx'
  refine ⟨fun i hi => ⟨vs, us, sq, sq', ?_⟩, fun i d hi => ?_⟩
  · rw [rr.len, rr'.len]
    rw [pairs_len] at hi
    omega
  obtain ⟨x, y, hx, hy, ed⟩ := pairs_at xs ys i d hi
  subst ed
  obtain ⟨v, l2, e1, r2, hs, ck⟩ := Reps.get rr hx
  obtain ⟨u, l3, e2, r3, hs', ck'⟩ := Reps.get rr' hy
  refine ⟨⟨vs, us, v, u, sq, sq', e1, e2⟩, fun x H'' ⟨T, w, z, ex, hT, eH, hw, hz⟩ => ?_⟩
  subst ex eH
  have e3 := hw vs sq
  have e4 := hz us sq'
  rw [e1] at e3
  rw [e2] at e4
  cases e3
  cases e4
  have := nil_of el hs
  have := nil_of el' hs'
  subst l2 l3
  exact new_pair r2 r3 s.d hT
end
end GS

namespace GS
open PySem PySem.Spec PyProof.Rows L2

section
variable {n : Env'} {G : GE} {X : Cx} {W : WX} {M M0 M1 : MM} {H H0 H1 : Hp} {s : Sl} {σ : L2.St} {st : Bool} {tg : Expr}

/-! ### the walks of dicts, the dict locked -/
/-- behind an expression a dict is locked -/
def tLockA (X : Cx) (t : TE) : TE := fun σ H Q => t σ H fun x H1 => Q x H1 ∨ ∃ d kvs, x = .ref d ∧ H1 d = some (.dK kvs) ∧ ∀ od, (∀ o' u', X.H_0 d ≠ some (.frz o' u')) → Q x (upd H1 d (.frz od (.dK kvs)))
theorem pe_lockA {e : Expr} {t : TE} (h : PE X e t) : PE X e (tLockA X t) := by
  refine ⟨fun pins s σ H Q I hw => ?_⟩
  refine thn (h.run pins s σ H _ I hw) fun v s1 ⟨x, H1, I1, r, q⟩ => ?_
  rcases q with q | ⟨d, kvs, ex, hd, q⟩
  · exact ⟨x, H1, I1, r, q⟩
  · obtain ⟨od, I2⟩ := I1.lock hd trivial
    exact ⟨x, _, I2, r, q od (I1.nofrz hd trivial)⟩
theorem Reps.at_ {p : Md} {ds : List D} {vs : List V} {a : Addr} {l' : List Addr} {m : Md} {i : Nat} {d : D} (rr : Reps n.c M H p ds vs l') (el : [] = consO m a l') (h : ds[i]? = some d) : ∃ v, vs[i]? = some v ∧ Rep n.c M H d v [] := by
  obtain ⟨v, l2, e1, r2, hs, ck⟩ := Reps.get rr h
  have := nil_of el hs
  subst this
  exact ⟨v, e1, r2⟩
/-- a locked dict stays -/
theorem frz_stq {M' : MM} {H' : Hp} {d : Addr} {u : HO} (h : H d = some u) (hm : st = true → M d ≠ some .own) (s : Stq st M H M' H') : H' d = some u := by
  unfold Stq at s
  cases st with
  | false => rw [(s.k d (by rw [h]; simp)).1]; exact h
  | true => rw [(s.k d (by rw [h]; simp) (hm rfl)).1]; exact h
theorem keyD_rep (k : Key) : Rep n.c M H (keyD k) (kV k) [] := by
  cases k <;> exact ⟨rfl, rfl⟩
theorem keys_at {kvs : List (Key × V)} {i : Nat} {d : D} {ks : List Key} (e : kvs.map (·.1) = ks) (h : (ks.map keyD)[i]? = some d) : ∃ k v, kvs[i]? = some (k, v) ∧ d = keyD k := by
  subst e
  rw [List.getElem?_map, List.getElem?_map] at h
  cases hk : kvs[i]? with
  | none => rw [hk] at h; cases h
  | some p => rw [hk] at h; cases h; exact ⟨p.1, p.2, rfl, rfl⟩
theorem yl_keys {ks : List Key} {a : Addr} {od : Obj} {kvs : List (Key × V)} (ek : kvs.map (·.1) = ks) (hl : H a = some (.frz od (.dK kvs))) (hm : st = true → M a ≠ some .own) : Yl n st M H (Itk a od kvs) (ks.map keyD) := by
  refine ⟨fun M' H' s => ?_⟩
  have e := frz_stq hl hm s
  have hlen : ks.length = kvs.length := by rw [← ek]; simp
  refine ⟨fun i hi => ⟨e, by rw [← hlen]; simpa using hi⟩, fun i d hi => ?_⟩
  obtain ⟨k, v, e1, e2⟩ := keys_at ek hi
  refine ⟨⟨e, (List.getElem?_eq_some_iff.mp e1).1⟩, fun x H'' ⟨e3, k', v', e4, e5⟩ => ?_⟩
  rw [e1] at e4
  cases e4
  subst e3 e5 e2
  exact ⟨M', St0.refl s.d, keyD_rep k⟩
theorem yl_vals {m : Md} {ks : List Key} {ds : List D} {a : Addr} {od : Obj} {kvs : List (Key × V)} (r : Rep n.c M H (.dic m ks ds) (.ref a) []) (hl : H a = some (.frz od (.dK kvs))) (hv : st = true → m ≠ .vw) (hm : st = true → M a ≠ some .own) (hd : Dom M H) : Yl n st M H (Itd a od kvs) ds := by
  refine ⟨fun M' H' s => ?_⟩
  have e := frz_stq hl hm s
  obtain ⟨a', kvs', l', ea, nx, ek, rr, el⟩ := r.stp (st := st) (d := .dic m ks ds) hv hd s
  cases ea
  obtain rfl : kvs = kvs' := rd_uniq (.inr ⟨od, e⟩) nx.2.1
  have hlen : kvs.length = ds.length := by have := rr.len; simpa using this
  refine ⟨fun i hi => ⟨e, by rw [hlen]; exact hi⟩, fun i d hi => ?_⟩
  obtain ⟨v, e1, r2⟩ := rr.at_ el hi
  refine ⟨⟨e, by rw [hlen]; exact (List.getElem?_eq_some_iff.mp hi).1⟩, fun x H'' ⟨e3, k', e4⟩ => ?_⟩
  rw [List.getElem?_map, e4] at e1
  cases e1
  subst e3
  exact ⟨M', St0.refl s.d, r2⟩
theorem yl_items {m : Md} {ks : List Key} {ds : List D} {a : Addr} {od : Obj} {kvs : List (Key × V)} (r : Rep n.c M H (.dic m ks ds) (.ref a) []) (hl : H a = some (.frz od (.dK kvs))) (hv : st = true → m ≠ .vw) (hm : st = true → M a ≠ some .own) (hd : Dom M H) : Yl n st M H (Iti a od kvs) (pairs (ks.map keyD) ds) := by
  refine ⟨fun M' H' s => ?_⟩
  have e := frz_stq hl hm s
  obtain ⟨a', kvs', l', ea, nx, ek, rr, el⟩ := r.stp (st := st) (d := .dic m ks ds) hv hd s
  cases ea
  obtain rfl : kvs = kvs' := rd_uniq (.inr ⟨od, e⟩) nx.2.1
  have hlen : kvs.length = ds.length := by have := rr.len; simpa using this
  have hlen2 : ks.length = kvs.length := by rw [← ek]; simp
  refine ⟨fun i hi => ⟨e, ?_⟩, fun i d hi => ?_⟩
  · rw [pairs_len, List.length_map] at hi
    omega
  obtain ⟨x, y, hx, hy, ed⟩ := pairs_at _ _ i d hi
  obtain ⟨k, v, e1, e2⟩ := keys_at ek hx
  obtain ⟨u, e5, r2⟩ := rr.at_ el hy
  rw [List.getElem?_map, e1] at e5
  cases e5
  refine ⟨⟨e, (List.getElem?_eq_some_iff.mp e1).1⟩, fun x H'' ⟨T, k', v', e4, e6, hT, eH⟩ => ?_⟩
  rw [e1] at e4
  cases e4
  subst e6 eH e2 ed
  exact new_pair (keyD_rep k) r2 s.d hT

/-! ### the rules -/
/-- what the walked value is, at the place where the walk begins -/
theorem walk_it {x : D} {v : V} {l : List Addr} (st1 : St0 M0 H0 M H) (r : Rep n.c M H x v l) (f : ∀ a ∈ l, H0 a = none) : St0 M0 H0 (frzM M l) H ∧ Rep n.c (frzM M l) H x.wk v [] := by
  have ow := Rep.owns x r
  exact ⟨st0_frz st1 f (fun a z => (ow a z).2), wk_rep r (fun _ z => z) fun a z => (ow a z).1⟩
theorem si_rng1 (F : FC n G X) {a : Expr} {ta : Tm} {p pos : Pos} (hg : Gl X "range") (ha : SE n G X a ta) (ho : okE a = true) : SI n G X st tg (.Call (.Name "range" p) [a] [] pos) (.rng1 ta) := by
  intro W tk M s σ H R Rl h
  unfold evalI at h
  refine ⟨_, pi_range1 hg (F.free _ (by simp)) (pa_cons we pa_nil (okE_star ho _ _)) (okE_star ho _ _), ?_⟩
  refine ha W tk M s σ H _ Rl (h.bind.imp (fun x ex hx v M1 H1 l1 s1 r1 f1 n1 => ?_) fun _ _ q => q)
  obtain ⟨i, hi, hx'⟩ := PR.val hx.bind (vInt_ne x)
  clear hx
  obtain rfl := vInt_ok hi
  have hx := hx'
  obtain ⟨h1, hx⟩ := PR.guard hx
  unfold small62 at h1
  rw [Bool.and_eq_true, decide_eq_true_eq, decide_eq_true_eq] at h1
  obtain ⟨rfl, _⟩ := r1
  exact ⟨i, rfl, h1.1, h1.2, hx _ M1 H1 H1 s1 (.inl rfl) yl_rng⟩
theorem si_rng2 (F : FC n G X) {a b : Expr} {ta tb : Tm} {p pos : Pos} (hg : Gl X "range") (ha : SE n G X a ta) (hb : SE n G X b tb) (ho : okE a = true) (hob : okE b = true) : SI n G X st tg (.Call (.Name "range" p) [a, b] [] pos) (.rng2 ta tb) := by
  intro W tk M s σ H R Rl h
  unfold evalI at h
  refine ⟨_, pi_range2 hg (F.free _ (by simp)) (pa_cons we (pa_cons we pa_nil (okE_star hob _ _)) (okE_star ho _ _)) (by rw [okE_star ho, okE_star hob]; rfl) (okE_star hob _ _), ?_⟩
  refine ha W tk M s σ H _ Rl (h.bind.imp (fun x ex hx v M1 H1 l1 s1 r1 f1 n1 => ?_) fun _ _ q => q)
  obtain ⟨i, hi, hx'⟩ := PR.val hx.bind (vInt_ne x)
  clear hx
  obtain rfl := vInt_ok hi
  have hx := hx'
  refine hb W tk M1 s σ H1 _ (Rl.step s1) (hx.bind.imp (fun y ey hy u M2 H2 l2 s2 r2 f2 n2 => ?_) fun _ _ q => q.step s1)
  obtain ⟨j, hj, hy'⟩ := PR.val hy.bind (vInt_ne y)
  clear hy
  obtain rfl := vInt_ok hj
  have hy := hy'
  obtain ⟨h1, hy⟩ := PR.guard hy
  unfold small62 at h1
  simp only [Bool.and_eq_true, decide_eq_true_eq] at h1
  obtain ⟨rfl, _⟩ := r1
  obtain ⟨rfl, _⟩ := r2
  exact ⟨i, j, rfl, ⟨h1.1.1, h1.1.2, h1.2.1, h1.2.2⟩, hy _ M2 H2 H2 (s1.trans s2) (.inl rfl) yl_rng⟩
theorem si_seq (F : FC n G X) {a : Expr} {ta : Tm} (ha : SE n G X a ta) : SI n G X st tg a (.seq ta) := by
  intro W tk M s σ H R Rl h
  unfold evalI at h
  by_cases hd : ∃ m ds, evalE G ta s = .ok (.tup m ds)
  · obtain ⟨m, ds, hd⟩ := hd
    refine ⟨_, pi_tup we, ?_⟩
    refine ha W tk M s σ H _ Rl (h.bind.imp (fun x ex hx v M1 H1 l1 s1 r1 f1 n1 => ?_) fun _ _ q => q)
    rw [hd] at ex
    cases ex
    obtain ⟨hw, hx⟩ := PR.guard hx
    obtain ⟨es, he, hx⟩ := PR.val hx (vSeq_ne _)
    obtain ⟨s2, r2⟩ := walk_it s1 r1 f1
    have hv := wk_vw (st := st) hw
    rcases vSeq_wk he with ⟨m', e⟩ | ⟨m', e⟩
    · cases m <;> cases e
    rw [e] at r2 hv
    have r3 := r2
    obtain ⟨a', vs, l', rfl, nx, rr, el⟩ := r2
    exact ⟨a', rfl, ⟨vs, tup_sqt F.K nx⟩, hx _ _ H1 H1 s2 (.inl rfl) (yl_tup F.toFX r3 hv s2.d)⟩
  · refine ⟨_, pi_list we, ?_⟩
    refine ha W tk M s σ H _ Rl (h.bind.imp (fun x ex hx v M1 H1 l1 s1 r1 f1 n1 => ?_) fun _ _ q => q)
    obtain ⟨hw, hx⟩ := PR.guard hx
    obtain ⟨es, he, hx⟩ := PR.val hx (vSeq_ne _)
    obtain ⟨s2, r2⟩ := walk_it s1 r1 f1
    have hv := wk_vw (st := st) hw
    rcases vSeq_wk he with ⟨m', e⟩ | ⟨m', e⟩
    · rw [e] at r2 hv
      have r3 := r2
      obtain ⟨a', vs, l', rfl, nx, rr, el⟩ := r2
      exact ⟨a', rfl, ⟨vs, lst_sql F.K nx⟩, hx _ _ H1 H1 s2 (.inl rfl) (yl_lst F.toFX r3 hv s2.d)⟩
    · exfalso
      cases x with
      | tup m ds => exact hd ⟨m, ds, ex⟩
      | lst m ds => cases m <;> cases e
      | _ => unfold vSeq at he; cases he
theorem si_enm (F : FC n G X) {a : Expr} {ta : Tm} {p pos tpos : Pos} {elts : List Expr} {kk : Nat} (hg : Gl X "enumerate") (ha : SE n G X a ta) (ho : okE a = true) : SI n G X st (.Tuple elts kk tpos) (.Call (.Name "enumerate" p) [a] [] pos) (.enm ta) := by
  intro W tk M s σ H R Rl h
  unfold evalI at h
  refine ⟨_, pi_enum hg (F.free _ (by simp)) (pa_cons we pa_nil (okE_star ho _ _)) (okE_star ho _ _), ?_⟩
  refine ha W tk M s σ H _ Rl (h.bind.imp (fun x ex hx v M1 H1 l1 s1 r1 f1 n1 => ?_) fun _ _ q => q)
  obtain ⟨hw, hx⟩ := PR.guard hx
  obtain ⟨es, he, hx⟩ := PR.val hx.bind (vLst_ne _)
  obtain ⟨s2, r2⟩ := walk_it s1 r1 f1
  have hv := wk_vw (st := st) hw
  obtain ⟨m', e⟩ := vLst_wk he
  rw [e] at r2 hv
  have r3 := r2
  obtain ⟨a', vs, l', rfl, nx, rr, el⟩ := r2
  exact ⟨a', vs, rfl, lst_sql F.K nx, hx _ _ H1 H1 s2 (.inl rfl) (yl_enm F.toFX r3 hv s2.d)⟩
theorem si_rev (F : FC n G X) {a : Expr} {ta : Tm} {p pos : Pos} (hg : Gl X "reversed") (ha : SE n G X a ta) (ho : okE a = true) : SI n G X st tg (.Call (.Name "reversed" p) [a] [] pos) (.rev ta) := by
  intro W tk M s σ H R Rl h
  unfold evalI at h
  refine ⟨_, pi_reversed hg (F.free _ (by simp)) (pa_cons we pa_nil (okE_star ho _ _)) (okE_star ho _ _), ?_⟩
  refine ha W tk M s σ H _ Rl (h.bind.imp (fun x ex hx v M1 H1 l1 s1 r1 f1 n1 => ?_) fun _ _ q => q)
  obtain ⟨hw, hx⟩ := PR.guard hx
  obtain ⟨es, he, hx⟩ := PR.val hx.bind (vLst_ne _)
  obtain ⟨s2, r2⟩ := walk_it s1 r1 f1
  have hv := wk_vw (st := st) hw
  obtain ⟨m', e⟩ := vLst_wk he
  rw [e] at r2 hv
  have r3 := r2
  obtain ⟨a', vs, l', rfl, nx, rr, el⟩ := r2
  refine ⟨a', vs, rfl, lst_sql F.K nx, ?_⟩
  rw [rr.len]
  exact hx _ _ H1 H1 s2 (.inl rfl) (yl_rev F.toFX r3 hv s2.d)
theorem si_sgn {a : Expr} {ta : Tm} (ha : SE n G X a ta) : SI n G X st tg a (.sgn ta) := by
  intro W tk M s σ H R Rl h
  unfold evalI at h
  refine ⟨_, pi_str we, ?_⟩
  refine ha W tk M s σ H _ Rl (h.bind.imp (fun x ex hx v M1 H1 l1 s1 r1 f1 n1 => ?_) fun _ _ q => q)
  cases x with
  | str z =>
    obtain ⟨rfl, _⟩ := r1
    exact ⟨z, rfl, hx _ M1 H1 H1 s1 (.inl rfl) yl_sgn⟩
  | _ => exact False.elim hx
theorem frz_other {x : D} {v : V} {l l' : List Addr} (r : Rep n.c M H x v l) (hL : ∀ a ∈ l', M a = some .own) (hd : ∀ a ∈ l, a ∉ l') : Rep n.c (frzM M l') H x v l := by
  by_cases h : x.md = .own
  · refine Rep.mono x r fun a ha h1 _ => ⟨?_, .inl rfl, fun _ => rfl⟩
    by_cases z : a ∈ l'
    · rcases h1 (hL a z) with q | q
      · exact absurd z (hd a q)
      · rw [h] at q; cases q
    · exact frzM_out z
  · have : l = [] := Rep.noOwn x r h
    subst this
    exact Rep.frzAny l' hL x r h
theorem si_zip (F : FC n G X) {a b : Expr} {ta tb : Tm} {p pos tpos : Pos} {elts : List Expr} {kk : Nat} (hg : Gl X "zip") (ha : SE n G X a ta) (hb : SE n G X b tb) (ho : okE a = true) (hob : okE b = true) : SI n G X st (.Tuple elts kk tpos) (.Call (.Name "zip" p) [a, b] [] pos) (.zip ta tb) := by
  intro W tk M s σ H R Rl h
  unfold evalI at h
  refine ⟨_, pi_zip hg (F.free _ (by simp)) (pa_cons we (pa_cons we pa_nil (okE_star hob _ _)) (okE_star ho _ _)) (okE_star ho _ _) (by rw [okE_star hob]; rfl), ?_⟩
  refine ha W tk M s σ H _ Rl (h.bind.imp (fun x ex hx v M1 H1 l1 s1 r1 f1 n1 => ?_) fun _ _ q => q)
  refine hb W tk M1 s σ H1 _ (Rl.step s1) (hx.bind.imp (fun y ey hy u M2 H2 l2 s2 r2 f2 n2 => ?_) fun _ _ q => q.step s1)
  obtain ⟨hw, hy⟩ := PR.guard hy
  rw [Bool.and_eq_true] at hw
  obtain ⟨xs, hxs, hy⟩ := PR.val hy.bind (vLst_ne _)
  obtain ⟨ys, hys, hy⟩ := PR.val hy.bind (vLst_ne _)
  have ow1 := Rep.owns x r1
  have ow2 := Rep.owns y r2
  have r1b := r1.step s1.d s2
  have ow1b := Rep.owns x r1b
  have own : ∀ z ∈ l1 ++ l2, M2 z = some .own ∧ H2 z ≠ none := fun z hz => (List.mem_append.mp hz).elim (ow1b z) (ow2 z)
  have fr : ∀ q ∈ l1 ++ l2, H q = none := fun q hq => (List.mem_append.mp hq).elim (f1 q) fun hq => s1.fresh (f2 q hq)
  have s3 : St0 M H (frzM M2 (l1 ++ l2)) H2 := st0_frz (s1.trans s2) fr fun z hz => (own z hz).2
  have rx := wk_rep (L := l1 ++ l2) r1b (fun z hz => by simp [hz]) fun z hz => (own z hz).1
  have ry := wk_rep (L := l1 ++ l2) r2 (fun z hz => by simp [hz]) fun z hz => (own z hz).1
  have hv := wk_vw (st := st) hw.1
  have hv' := wk_vw (st := st) hw.2
  obtain ⟨m, e⟩ := vLst_wk hxs
  obtain ⟨m', e'⟩ := vLst_wk hys
  rw [e] at rx hv
  rw [e'] at ry hv'
  have rx' := rx
  have ry' := ry
  obtain ⟨a1, vs, la, rfl, nx, rr, el⟩ := rx
  obtain ⟨a2, us, lb, rfl, nx', rr', el'⟩ := ry
  exact ⟨a1, a2, vs, us, rfl, lst_sql F.K nx, lst_sql F.K nx', hy _ _ H2 H2 s3 (.inl rfl) (yl_zip F.toFX rx' ry' hv hv' s3.d)⟩
/-- a dict about to be walked: locked now, or it was -/
theorem dict_it {m : Md} {ks : List Key} {ds : List D} {v : V} {J : Addr → Obj → List (Key × V) → It} {es : List D} {R : It → Hp → Prop} (s2 : St0 M0 H0 M H) (r : Rep n.c M H (.dic m ks ds) v []) (ho : m ≠ .own) (hv : st = true → m ≠ .vw)
    (hy : ∀ H' a od kvs, Dom M H' → Rep n.c M H' (.dic m ks ds) (.ref a) [] → H' a = some (.frz od (.dK kvs)) → kvs.map (·.1) = ks → (st = true → M a ≠ some .own) → Yl n st M H' (J a od kvs) es)
    (hx : ∀ J M1 H1 H1', St0 M0 H0 M1 H1 → Lk X st M1 H1 H1' → Yl n st M1 H1' J es → R J H1') :
    (∃ d od kvs, v = .ref d ∧ H d = some (.frz od (.dK kvs)) ∧ R (J d od kvs) H) ∨ ∃ d kvs, v = .ref d ∧ H d = some (.dK kvs) ∧ ∀ od, (∀ o' u', X.H_0 d ≠ some (.frz o' u')) → R (J d od kvs) (upd H d (.frz od (.dK kvs))) := by
  have r' := r
  obtain ⟨a, kvs, l', rfl, nx, ek, rr, el⟩ := r
  have hm : st = true → M a ≠ some .own := fun e z => by
    rcases nx.1.own z with q | q
    · exact ho q
    · exact hv e q
  have hne : M a ≠ none := nx.1.ne_none
  rcases nx.2.1 with h | ⟨od, h⟩
  · refine .inr ⟨a, kvs, rfl, h, fun od hn => ?_⟩
    have lk : Lk X st M H (upd H a (.frz od (.dK kvs))) := .inr ⟨a, od, kvs, h, hne, hm, rfl, hn⟩
    exact hx _ M H _ s2 lk (hy _ a od kvs (lk.dom s2.d) (r'.lk lk) upd_same ek hm)
  · exact .inl ⟨a, od, kvs, rfl, h, hx _ M H H s2 (.inl rfl) (hy _ a od kvs s2.d r' h ek hm)⟩
theorem si_keys (F : FC n G X) {a : Expr} {ta : Tm} (ha : SE n G X a ta) : SI n G X st tg a (.keys ta) := by
  intro W tk M s σ H R Rl h
  unfold evalI at h
  refine ⟨_, pi_keys (pe_lockA we), ?_⟩
  refine ha W tk M s σ H _ Rl (h.bind.imp (fun x ex hx v M1 H1 l1 s1 r1 f1 n1 => ?_) fun _ _ q => q)
  obtain ⟨hw, hx⟩ := PR.guard hx
  obtain ⟨es, he, hx⟩ := PR.val hx.bind (vDic_ne _)
  obtain ⟨s2, r2⟩ := walk_it s1 r1 f1
  have hv := wk_vw (st := st) hw
  have ho := wk_own x
  obtain ⟨m', e⟩ := vDic_wk he
  rw [e] at r2 hv ho
  rcases dict_it (X := X) (R := R) (J := Itk) (es := es.1.map keyD) s2 r2 ho hv (fun H' a od kvs hd rr hl ek hm => yl_keys ek hl hm) hx with ⟨d, od, kvs, ev, hl, q⟩ | ⟨d, kvs, ev, hl, q⟩
  · exact .inl ⟨d, od, ev, .inl ⟨kvs, hl, q⟩⟩
  · exact .inr ⟨d, kvs, ev, hl, fun od hn => ⟨d, od, ev, .inl ⟨kvs, upd_same, q od hn⟩⟩⟩
theorem si_vals (F : FC n G X) {a : Expr} {ta : Tm} {apos cpos : Pos} (ha : SE n G X a ta) (h1 : methForm a = true) (hl : (apos.endLine == cpos.line) = true) : SI n G X st tg (.Call (.Attribute a "values" apos) [] [] cpos) (.vals ta) := by
  intro W tk M s σ H R Rl h
  unfold evalI at h
  refine ⟨_, pi_values (pe_lockA we) (base_of h1 _ _ _) hl, ?_⟩
  refine ha W tk M s σ H _ Rl (h.bind.imp (fun x ex hx v M1 H1 l1 s1 r1 f1 n1 => ?_) fun _ _ q => q)
  obtain ⟨hw, hx⟩ := PR.guard hx
  obtain ⟨es, he, hx⟩ := PR.val hx.bind (vDic_ne _)
  obtain ⟨s2, r2⟩ := walk_it s1 r1 f1
  have hv := wk_vw (st := st) hw
  have ho := wk_own x
  obtain ⟨m', e⟩ := vDic_wk he
  rw [e] at r2 hv ho
  rcases dict_it (X := X) (R := R) (J := Itd) (es := es.2) s2 r2 ho hv (fun H' a od kvs hd rr hl ek hm => yl_vals rr hl hv hm hd) hx with ⟨d, od, kvs, ev, hl, q⟩ | ⟨d, kvs, ev, hl, q⟩
  · exact .inl ⟨d, od, kvs, ev, hl, q⟩
  · exact .inr ⟨d, kvs, ev, hl, fun od hn => ⟨d, od, kvs, ev, upd_same, q od hn⟩⟩
theorem si_items (F : FC n G X) {a : Expr} {ta : Tm} {apos cpos tpos : Pos} {elts : List Expr} {kk : Nat} (ha : SE n G X a ta) (h1 : methForm a = true) (hl : (apos.endLine == cpos.line) = true) : SI n G X st (.Tuple elts kk tpos) (.Call (.Attribute a "items" apos) [] [] cpos) (.items ta) := by
  intro W tk M s σ H R Rl h
  unfold evalI at h
  refine ⟨_, pi_items (pe_lockA we) (base_of h1 _ _ _) hl, ?_⟩
  refine ha W tk M s σ H _ Rl (h.bind.imp (fun x ex hx v M1 H1 l1 s1 r1 f1 n1 => ?_) fun _ _ q => q)
  obtain ⟨hw, hx⟩ := PR.guard hx
  obtain ⟨es, he, hx⟩ := PR.val hx.bind (vDic_ne _)
  obtain ⟨s2, r2⟩ := walk_it s1 r1 f1
  have hv := wk_vw (st := st) hw
  have ho := wk_own x
  obtain ⟨m', e⟩ := vDic_wk he
  rw [e] at r2 hv ho
  rcases dict_it (X := X) (R := R) (J := Iti) (es := pairs (es.1.map keyD) es.2) s2 r2 ho hv (fun H' a od kvs hd rr hl ek hm => yl_items rr hl hv hm hd) hx with ⟨d, od, kvs, ev, hl, q⟩ | ⟨d, kvs, ev, hl, q⟩
  · exact .inl ⟨d, od, kvs, ev, hl, q⟩
  · exact .inr ⟨d, kvs, ev, hl, fun od hn => ⟨d, od, kvs, ev, upd_same, q od hn⟩⟩
end
end GS

namespace GS
open PySem PySem.Spec PyProof.Rows L2

section
variable {n : Env'} {G : GE} {X : Cx} {W : WX} {M M0 M1 : MM} {H H0 H1 : Hp} {s : Sl} {σ : L2.St} {st : Bool}

/-! ## targets -/
def WG (X : Cx) (e : Expr) : TG := fun v σ H Q => ∃ t, PG X e t ∧ t v σ H Q
theorem wg {e : Expr} : PG X e (WG X e) := ⟨fun pins s σ H v u Q I r ⟨t, h, q⟩ => h.run pins s σ H v u Q I r q⟩
def WGs (X : Cx) (es : List Expr) : TGs := fun vs σ H Q => ∃ t, PGs X es t ∧ t vs σ H Q
theorem wgs {es : List Expr} : PGs X es (WGs X es) := ⟨fun pins s σ H v u Q I r ⟨t, h, q⟩ => h.run pins s σ H v u Q I r q⟩
def locC (sc : Scope) (fn : Str → Bool) (x : Str) : Bool := decide (sc.names.lookup x = some .local) || (decide (sc.names.lookup x = some .cell) && fn x)
mutual
def tgC (N : List Str) (sc : Scope) (fn : Str → Bool) : Tg → Expr → Bool
  | .nm i, .Name x _ => decide (N[i]? = some x) && locC sc fn x
  | .tp gs, .Tuple es _ _ => tgCs N sc fn gs es
  | _, _ => false
def tgCs (N : List Str) (sc : Scope) (fn : Str → Bool) : List Tg → List Expr → Bool
  | [], [] => true
  | g :: gs, e :: es => tgC N sc fn g e && tgCs N sc fn gs es
  | _, _ => false
end
theorem loc_of {sc : Scope} {fn : Str → Bool} {x : Str} (h : locC sc fn x = true) : Loc sc x ∧ (fn x = true ∨ sc.names.lookup x = some .local) := by
  unfold locC at h
  simp only [Bool.or_eq_true, Bool.and_eq_true, decide_eq_true_eq] at h
  rcases h with h | ⟨h, h'⟩
  · exact ⟨.inl h, .inr h⟩
  · exact ⟨.inr h, .inl h'⟩
theorem tgC_form {N : List Str} {sc : Scope} {fn : Str → Bool} {g : Tg} {e : Expr} (h : tgC N sc fn g e = true) (es : List Expr) (env : Env) : assignEach (e :: es) env = (false, assign e env) :: assignEach es env := by
  cases g <;> cases e <;> first | rfl | (unfold tgC at h; cases h)
theorem tgCs_form {N : List Str} {sc : Scope} {fn : Str → Bool} (env : Env) : ∀ {gs : List Tg} {es : List Expr}, tgCs N sc fn gs es = true → (assignEach es env).length = gs.length ∧ (assignEach es env).findIdx? (·.1) = none
  | [], [], _ => ⟨rfl, rfl⟩
  | g :: gs, e :: es, h => by
    unfold tgCs at h
    rw [Bool.and_eq_true] at h
    obtain ⟨i1, i2⟩ := tgCs_form env h.2
    rw [tgC_form h.1 es env]
    exact ⟨by simp [i1], by rw [List.findIdx?_cons]; simp [i2]⟩
  | [], e :: es, h => by unfold tgCs at h; cases h
  | g :: gs, [], h => by unfold tgCs at h; cases h
theorem wipe_set {σ : L2.St} {i : Nat} {v : Option V} : ∀ {vs : List Nat}, i ∈ vs → wipe (σ.set i v) vs = wipe σ vs
  | [], h => nomatch h
  | j :: vs, h => by
    unfold wipe
    by_cases hj : i ∈ vs
    · rw [wipe_set hj]
    · have : i = j := by
        rcases List.mem_cons.mp h with e | e
        · exact e
        · exact absurd e hj
      subst this
      have : ∀ (ws : List Nat), i ∉ ws → wipe (σ.set i v) ws = (wipe σ ws).set i v := fun ws => by
        induction ws with
        | nil => intro _; rfl
        | cons k ws ih =>
          intro hk
          unfold wipe
          rw [ih (fun z => hk (by simp [z])), List.set_comm _ _ (fun z => hk (by simp [z]))]
      rw [this vs hj, List.set_set]
theorem RelS.set {i : Nat} {d : D} {v : V} (R : RelS n.c M s σ H) (r : Rep n.c M H d v []) : RelS n.c M (s.set i (some d)) (σ.set i (some v)) H := ⟨by simp [R.len], R.dom, fun j x e => by
  by_cases hj : i = j
  · subst hj
    rw [List.getElem?_set] at e
    have hl : i < s.length := by
      by_cases hl : i < s.length
      · exact hl
      · rw [if_pos rfl, if_neg hl] at e; cases e
    rw [if_pos rfl, if_pos hl] at e
    cases e
    refine ⟨v, ?_, r⟩
    rw [List.getElem?_set, if_pos rfl, if_pos (by rw [← R.len]; exact hl)]
  · rw [List.getElem?_set_ne hj] at e
    obtain ⟨w, h1, h2⟩ := R.at_ j x e
    exact ⟨w, by rw [List.getElem?_set_ne hj]; exact h1, h2⟩⟩
theorem nil2 {l1 l2 : List Addr} (h : [] = l1 ++ l2) : l1 = [] ∧ l2 = [] := List.append_eq_nil_iff.mp h.symm
mutual
/-- target = d, in a comprehension's block -/
theorem bt_run (F : FX n X) : ∀ (g : Tg) (e : Expr), tgC X.N X.env.scope X.fn g e = true → ∀ (s : Sl) (σ : L2.St) (d : D) (v : V) (s' : Sl) (Q : L2.St → Hp → Prop), RelS n.c M s σ H → Rep n.c M H d v [] → bindT g d s = some s' →
    (∀ σ', RelS n.c M s' σ' H → (∀ vs, (∀ i ∈ tgNames g, i ∈ vs) → wipe σ' vs = wipe σ vs) → Q σ' H) → WG X e v σ H Q
  | .nm i, .Name x p, h, s, σ, d, v, s', Q, R, r, hb, hq => by
    unfold tgC at h
    rw [Bool.and_eq_true, decide_eq_true_eq] at h
    obtain ⟨h1, h2⟩ := loc_of h.2
    unfold bindT at hb
    cases hb
    exact ⟨_, pg_name F.nd h.1 h1 h2, hq _ (R.set r) fun vs hv => wipe_set (hv i (by unfold tgNames; simp))⟩
  | .tp gs, .Tuple es k p, h, s, σ, d, v, s', Q, R, r, hb, hq => by
    unfold tgC at h
    cases d with
    | tup m ds =>
      unfold bindT at hb
      obtain ⟨a, vs, l', rfl, nx, rr, el⟩ := r
      obtain ⟨f1, f2⟩ := tgCs_form X.env h
      have hl' : l' = [] := by
        have z := el.symm
        cases m <;> first | (simp [consO] at z; done) | exact z
      subst hl'
      refine ⟨_, pg_tup F.calm wgs f1 f2, a, vs, rfl, tup_sqt F.K nx, ?_, ?_⟩
      · exact bts_len gs ds s s' hb ▸ rr.len
      · exact bts_run F gs es h s σ ds vs m s' Q R rr hb fun σ' R' hw => hq σ' R' fun ws hws => hw ws fun i hi => hws i (by unfold tgNames; exact hi)
    | _ => unfold bindT at hb; cases hb
  | .nm i, .Tuple _ _ _, h, _, _, _, _, _, _, _, _, _, _ => by unfold tgC at h; cases h
theorem bts_run (F : FX n X) : ∀ (gs : List Tg) (es : List Expr), tgCs X.N X.env.scope X.fn gs es = true → ∀ (s : Sl) (σ : L2.St) (ds : List D) (vs : List V) (p : Md) (s' : Sl) (Q : L2.St → Hp → Prop), RelS n.c M s σ H → Reps n.c M H p ds vs [] → bindTs gs ds s = some s' →
    (∀ σ', RelS n.c M s' σ' H → (∀ ws, (∀ i ∈ tgNamess gs, i ∈ ws) → wipe σ' ws = wipe σ ws) → Q σ' H) → WGs X es vs σ H Q
  | [], [], h, s, σ, ds, vs, p, s', Q, R, r, hb, hq => by
    cases ds with
    | nil =>
      unfold bindTs at hb
      cases hb
      obtain ⟨rfl, _⟩ := r
      exact ⟨_, pgs_nil, rfl, hq σ R fun _ _ => rfl⟩
    | cons d ds => unfold bindTs at hb; cases hb
  | g :: gs, e :: es, h, s, σ, ds, vs, p, s', Q, R, r, hb, hq => by
    cases ds with
    | nil => unfold bindTs at hb; cases hb
    | cons d ds =>
      unfold tgCs at h
      rw [Bool.and_eq_true] at h
      obtain ⟨v, vs', l1, l2, rfl, ck, r1, r2, el⟩ := r
      obtain ⟨rfl, rfl⟩ := nil2 el
      unfold bindTs at hb
      obtain ⟨s1, hb1, hb2⟩ := Option.bind_eq_some_iff.mp hb
      refine ⟨_, pgs_cons wg wgs (by rw [tgC_form h.1 es X.env]; rfl), v, vs', rfl, ?_⟩
      refine bt_run F g e h.1 s σ d v s1 _ R r1 hb1 fun σ1 R1 hw1 => ?_
      refine bts_run F gs es h.2 s1 σ1 ds vs' p s' Q R1 r2 hb2 fun σ2 R2 hw2 => hq σ2 R2 fun ws hws => ?_
      unfold tgNamess at hws
      rw [hw2 ws fun i hi => hws i (by simp [hi]), hw1 ws fun i hi => hws i (by simp [hi])]
  | [], e :: es, h, _, _, _, _, _, _, _, _, _, _, _ => by unfold tgCs at h; cases h
  | g :: gs, [], h, _, _, _, _, _, _, _, _, _, _, _ => by unfold tgCs at h; cases h
theorem bts_len : ∀ (gs : List Tg) (ds : List D) (s s' : Sl), bindTs gs ds s = some s' → ds.length = gs.length
  | [], [], _, _, _ => rfl
  | g :: gs, d :: ds, s, s', h => by
    unfold bindTs at h
    obtain ⟨s1, _, h2⟩ := Option.bind_eq_some_iff.mp h
    simp [bts_len gs ds s1 s' h2]
  | [], d :: ds, _, _, h => by unfold bindTs at h; cases h
  | g :: gs, [], _, _, h => by unfold bindTs at h; cases h
end
end
end GS

namespace GS
open PySem PySem.Spec PyProof.Rows L2

section
variable {n : Env'} {G : GE} {X : Cx} {W : WX} {M M0 M1 : MM} {H H0 H1 : Hp} {s : Sl} {σ : L2.St} {st : Bool}

/-! ## comprehensions -/
theorem FC.blk (F : FC n G X) (s : Shared) (H : Hp) (scope : Scope) (cenv : Env) (fp : List Addr) : FC n G (X.blk s H scope cenv fp) :=
  { K := F.K, calm := F.calm, hu := F.hu, nd := F.nd, call := F.call, make := F.make, cls := F.cls, mki := F.mki, fok := F.fok, fnm := F.fnm, cnm := F.cnm, free := F.free, ity := F.ity, itk := F.itk, itb := F.itb, inj := F.inj }
theorem wipe_rel (R : RelS n.c M s σ H) : ∀ vs : List Nat, RelS n.c M (wipeS s vs) (wipe σ vs) H
  | [] => R
  | i :: vs => by
    have I := wipe_rel R vs
    refine ⟨?_, R.dom, fun j d e => ?_⟩
    · unfold wipeS wipe; rw [List.length_set, List.length_set]; exact I.len
    · unfold wipeS at e
      by_cases hj : i = j
      · subst hj
        by_cases hl : i < (wipeS s vs).length
        · rw [List.getElem?_set_self hl] at e; cases e
        · rw [List.getElem?_eq_none (by rw [List.length_set]; omega)] at e; cases e
      · rw [List.getElem?_set_ne hj] at e
        obtain ⟨v, h1, h2⟩ := I.at_ j d e
        unfold wipe
        exact ⟨v, by rw [List.getElem?_set_ne hj]; exact h1, h2⟩
/-- a list that only the loop holds changes -/
theorem upd_keep {D0 : Addr} {u : HO} {d : D} {v : V} {l : List Addr} (r : Rep n.c M H d v l) (hm : d.md ≠ .vw) (hn : D0 ∉ l) (ho : M D0 = some .own) : Rep n.c M (upd H D0 u) d v l :=
  Rep.mono d r fun a ha h1 _ => by
    have hne : a ≠ D0 := fun z => by
      subst z
      rcases h1 ho with q | q
      · exact hn q
      · exact hm q
    exact ⟨rfl, .inl (upd_ne hne), fun _ => upd_ne hne⟩
theorem upd_keeps {D0 : Addr} {u : HO} {p : Md} {ds : List D} {vs : List V} {l : List Addr} (r : Reps n.c M H p ds vs l) (hm : p ≠ .vw) (hn : D0 ∉ l) (ho : M D0 = some .own) : Reps n.c M (upd H D0 u) p ds vs l :=
  Reps.mono ds r fun a ha h1 _ => by
    have hne : a ≠ D0 := fun z => by
      subst z
      rcases h1 ho with q | q
      · exact hn q
      · exact hm q
    exact ⟨rfl, .inl (upd_ne hne), fun _ => upd_ne hne⟩
/-- behind an expression a dict that was locked here may be unlocked -/
def tUnlA (X : Cx) (t : TE) : TE := fun σ H Q => t σ H fun x H1 => Q x H1 ∨ ∃ d od u, H1 d = some (.frz od u) ∧ (∀ o' u', X.H_0 d ≠ some (.frz o' u')) ∧ Q x (upd H1 d u)
theorem pe_unlA {e : Expr} {t : TE} (h : PE X e t) : PE X e (tUnlA X t) := by
  refine ⟨fun pins s σ H Q I hw => ?_⟩
  refine thn (h.run pins s σ H _ I hw) fun v s1 ⟨x, H1, I1, r, q⟩ => ?_
  rcases q with q | ⟨d, od, u, hd, hn, q⟩
  · exact ⟨x, H1, I1, r, q⟩
  · exact ⟨x, _, I1.unlock hd hn, r, q⟩
/-- a clause's tests do what their small terms say -/
def PTq (n : Env') (G : GE) (X : Cx) (ifs : List Expr) (ts : List Tm) : Prop := ∃ tt, PTs X ifs tt ∧ ∀ M s σ H Q, RelS n.c M s σ H → PR ((evalIf G ts s).noEx) (PT1 M H Q) (fun _ _ => False) → tt σ H Q
theorem takes_false {s : Shared} {H : Hp} {scope : Scope} {cenv : Env} {fp : List Addr} : Takes (X.blk s H scope cenv fp) (fun _ _ _ _ => False) := fun u s' ⟨a, B, sI, pins, σ, H, cls, d, e, I, nb, up, sky, na, os, ag, w⟩ => w
theorem ptq_nil : PTq n G X [] [] := ⟨_, pts_nil, fun M s σ H Q R h => by
  unfold evalIf at h
  exact h M H (St0.refl R.dom)⟩
theorem ptq_one {c : Expr} {t : Tm} (tk : Takes X (fun _ _ _ _ => False)) (h : ST n G X c t) : PTq n G X [c] [t] := ⟨_, pts_one wt, fun M s σ H Q R hq => by
  refine h _ tk M s σ H Q R ?_
  unfold evalIf at hq
  unfold evalIf at hq
  cases he : evalE G t s with
  | stuck => rw [he] at hq; exact False.elim hq
  | ex c ds => rw [he] at hq; exact False.elim hq
  | ok d =>
    rw [he] at hq
    simp only [Res.bind_ok] at hq ⊢
    cases hv : vTru d with
    | stuck => rw [hv] at hq; exact False.elim hq
    | ex c ds => rw [hv] at hq; exact False.elim hq
    | ok b =>
      rw [hv] at hq
      simp only [Res.bind_ok] at hq
      cases b <;> exact hq⟩
theorem PT1.mono {Q : Bool → Hp → Prop} {M' : MM} {H' : Hp} {b : Bool} (h : PT1 M H Q b) (s : St0 M H M' H') : PT1 M' H' Q b := fun M2 H2 s2 => h M2 H2 (s.trans s2)
theorem compL_len {bnd : D → Option Sl} {tst : Sl → Res Bool} {elt : Sl → Res D} : ∀ {ds ys : List D}, compL bnd tst elt ds = .ok ys → ys.all D.cl = true
  | [], ys, h => by unfold compL at h; cases h; rfl
  | d :: ds, ys, h => by
    unfold compL at h
    cases hb : bnd d with
    | none => rw [hb] at h; cases h
    | some s1 =>
      rw [hb] at h
      simp only [Res.ofOpt_some, Res.bind_ok] at h
      cases ht : tst s1 with
      | stuck => rw [ht] at h; cases h
      | ex c xs => rw [ht] at h; cases h
      | ok b =>
        rw [ht] at h
        simp only [Res.bind_ok] at h
        cases b with
        | false => exact compL_len h
        | true =>
          simp only [if_true] at h
          cases he : elt s1 with
          | stuck => rw [he] at h; cases h
          | ex c xs => rw [he] at h; cases h
          | ok y =>
            rw [he] at h
            simp only [Res.bind_ok] at h
            cases hc : y.cl with
            | false => rw [hc] at h; cases h
            | true =>
              rw [hc] at h
              simp only [Res.guard_true] at h
              cases hr : compL bnd tst elt ds with
              | stuck => rw [hr] at h; cases h
              | ex c xs => rw [hr] at h; cases h
              | ok zs =>
                rw [hr] at h
                simp only [Res.bind_ok] at h
                cases h
                simp [hc, compL_len hr]
theorem wipe_in {σ : L2.St} {k : Nat} : ∀ {vs : List Nat}, k ∈ vs → (wipe σ vs).set k none = wipe σ vs
  | [], h => nomatch h
  | j :: vs, h => by
    show ((wipe σ vs).set j none).set k none = (wipe σ vs).set j none
    by_cases e : k = j
    · subst e; rw [List.set_set]
    · rw [List.set_comm _ _ (fun z => e z.symm), wipe_in ((List.mem_cons.mp h).resolve_left e)]
theorem wipe_wipe {σ : L2.St} (vs : List Nat) : ∀ (ws : List Nat), (∀ i ∈ ws, i ∈ vs) → wipe (wipe σ vs) ws = wipe σ vs
  | [], _ => rfl
  | k :: ws, h => by
    show (wipe (wipe σ vs) ws).set k none = wipe σ vs
    rw [wipe_wipe vs ws fun i hi => h i (by simp [hi]), wipe_in (h k (by simp))]
/-- the state of a comprehension's loop -/
structure LcI (n : Env') (M1 : MM) (H1 : Hp) (D0 : Addr) (Mc : MM) (Hc : Hp) (aD : List D) : Prop where
  st : St0 M1 H1 Mc Hc
  own : Mc D0 = some .own
  acc : ∃ acc l, Hc D0 = some (.lst acc) ∧ Reps n.c Mc Hc .own aD acc l ∧ (∀ a ∈ l, H1 a = none ∧ a ≠ D0) ∧ l.Nodup
theorem lc_run (F : FC n G X) {elt tg iter : Expr} {ifs : List Expr} {scope : Scope} {pos : Pos} {te : Tm} {tgS : Tg} {it : Itr} {tifs : List Tm} {own : List (Str × Nat)} {tt : TT}
    (hown : own.map (·.2) = tgNames tgS) (hi : SI n G X false tg iter it)
    (tk : Takes X W) (R : RelS n.c M s σ H) {Q : VK}
    {g : TG} {teT : TE}
    (hg : ∀ M s σ H d v s' Q, RelS n.c M s σ H → Rep n.c M H d v [] → bindT tgS d s = some s' → (∀ σ', RelS n.c M s' σ' H → (∀ vs, (∀ i ∈ tgNames tgS, i ∈ vs) → wipe σ' vs = wipe σ vs) → Q σ' H) → g v σ H Q)
    (htt : ∀ M s σ H Q, RelS n.c M s σ H → PR ((evalIf G tifs s).noEx) (PT1 M H Q) (fun _ _ => False) → tt σ H Q)
    (hte : ∀ M s σ H Q, RelS n.c M s σ H → PR ((evalE G te s).noEx) (PE1 n M H Q) (fun _ _ => False) → teT σ H Q)
    (h : PR (evalE G (.cmpr te tgS it tifs) s) (PE1 n M H Q) (PX n M H fun cls d H' => W cls d σ H')) :
    tLc (WI X tg iter) g tt teT (own.map (·.2)) σ H fun x H1 => Q x H1 ∨ ∃ d od u, H1 d = some (.frz od u) ∧ (∀ o' u', X.H_0 d ≠ some (.frz o' u')) ∧ Q x (upd H1 d u) := by
  unfold evalE at h
  refine hi W tk M s σ H _ R (h.bind.imp (fun ds ed hd J M1 H1 H1' s1 lk yl => ?_) fun _ _ q => q)
  intro D0 hD0
  rw [hown]
  obtain ⟨ys, hys, hd⟩ := PR.val hd.bind (fun c xs e => by
    have : ∀ ds, compL (fun d => bindT tgS d (wipeS s (tgNames tgS))) (fun s' => (evalIf G tifs s').noEx) (fun s' => (evalE G te s').noEx) ds ≠ .ex c xs := by
      intro ds
      induction ds with
      | nil => intro h; unfold compL at h; cases h
      | cons d ds ih =>
        intro h
        unfold compL at h
        cases hb : bindT tgS d (wipeS s (tgNames tgS)) with
        | none => rw [hb] at h; cases h
        | some s1 =>
          rw [hb] at h
          simp only [Res.ofOpt_some, Res.bind_ok] at h
          cases ht : evalIf G tifs s1 with
          | stuck => rw [ht] at h; cases h
          | ex c xs => rw [ht] at h; cases h
          | ok b =>
            rw [ht] at h
            simp only [Res.noEx_ok, Res.bind_ok] at h
            cases b with
            | false => exact ih h
            | true =>
              simp only [if_true] at h
              cases he : evalE G te s1 with
              | stuck => rw [he] at h; cases h
              | ex c xs => rw [he] at h; cases h
              | ok y =>
                rw [he] at h
                simp only [Res.noEx_ok, Res.bind_ok] at h
                cases hc : y.cl with
                | false => rw [hc] at h; cases h
                | true =>
                  rw [hc] at h
                  simp only [Res.guard_true] at h
                  cases hr : compL (fun d => bindT tgS d (wipeS s (tgNames tgS))) (fun s' => (evalIf G tifs s').noEx) (fun s' => (evalE G te s').noEx) ds with
                  | stuck => rw [hr] at h; cases h
                  | ex c xs => rw [hr] at h; cases h; exact ih hr
                  | ok zs => rw [hr] at h; cases h
    exact this ds e)
  obtain ⟨hlen, hd⟩ := PR.guard hd
  rw [decide_eq_true_eq] at hlen
  have dom1 : Dom M1 H1' := lk.dom s1.d
  have R1 : RelS n.c M1 s σ H1' := (R.step s1).lk lk
  refine ⟨fun i m Hc => m = ds.length - i ∧ i ≤ ds.length ∧ ∃ Mc aD zs, LcI n M1 H1' D0 Mc Hc aD ∧ compL (fun d => bindT tgS d (wipeS s (tgNames tgS))) (fun s' => (evalIf G tifs s').noEx) (fun s' => (evalE G te s').noEx) (ds.drop i) = .ok zs ∧ aD ++ zs = ys, ⟨ds.length, by simp, Nat.zero_le _, layM M1 D0 .own, [], ys, ⟨St0.lay dom1 hD0, layM_same, [], [], upd_same, ⟨rfl, rfl⟩, (fun _ z => nomatch z), .nil⟩, by simpa using hys, rfl⟩, ?_⟩
  rintro i m Hc ⟨rfl, hile, Mc, aD, zs, L, hz, hyz⟩
  obtain ⟨y1, y2⟩ := yl.turn Mc Hc L.st
  obtain ⟨acc, l, hacc, racc, fl, ndl⟩ := L.acc
  by_cases hlt : i < ds.length
  · have hdi : ds[i]? = some ds[i] := List.getElem?_eq_getElem hlt
    obtain ⟨go, yld⟩ := y2 i _ hdi
    refine .inr ⟨go, fun H' => ∃ Mc aD zs, LcI n M1 H1' D0 Mc H' aD ∧ compL (fun d => bindT tgS d (wipeS s (tgNames tgS))) (fun s' => (evalIf G tifs s').noEx) (fun s' => (evalE G te s').noEx) (ds.drop (i + 1)) = .ok zs ∧ aD ++ zs = ys, fun H' q => ⟨ds.length - (i + 1), by omega, rfl, hlt, q⟩, fun x H' hy => ?_⟩
    obtain ⟨M2, s2, r2⟩ := yld x H' hy
    rw [List.drop_eq_getElem_cons hlt] at hz
    unfold compL at hz
    cases hb : bindT tgS ds[i] (wipeS s (tgNames tgS)) with
    | none => rw [hb] at hz; cases hz
    | some s' =>
      rw [hb] at hz
      simp only [Res.ofOpt_some, Res.bind_ok] at hz
      have R2 : RelS n.c M2 (wipeS s (tgNames tgS)) (wipe σ (tgNames tgS)) H' := wipe_rel ((R1.step L.st).step s2) _
      refine hg M2 _ _ H' _ x s' _ R2 r2 hb fun σ2 Rσ hw => ⟨?_, ?_⟩
      · rw [hw _ fun i hi => hi]
        exact wipe_wipe _ _ fun i hi => hi
      · refine htt M2 s' σ2 H' _ Rσ ?_
        cases ht : evalIf G tifs s' with
        | stuck => rw [ht] at hz; cases hz
        | ex c xs => rw [ht] at hz; cases hz
        | ok b =>
          rw [ht] at hz
          simp only [Res.noEx_ok, Res.bind_ok] at hz
          intro M3 H3 s3
          have S3 := (L.st.trans s2).trans s3
          have keepD : H3 D0 = some (.lst acc) ∧ M3 D0 = some .own := by
            have k := (s2.trans s3).k D0 (by rw [hacc]; simp)
            exact ⟨k.1.trans hacc, k.2.trans L.own⟩
          cases b with
          | false =>
            simp only [Bool.false_eq_true, if_false] at hz ⊢
            exact ⟨M3, aD, zs, ⟨S3, keepD.2, acc, l, keepD.1, racc.step L.st.d (s2.trans s3), fl, ndl⟩, hz, hyz⟩
          | true =>
            simp only [if_true] at hz ⊢
            refine hte M3 s' σ2 H3 _ (Rσ.step s3) ?_
            cases he : evalE G te s' with
            | stuck => rw [he] at hz; cases hz
            | ex c xs => rw [he] at hz; cases hz
            | ok y =>
              rw [he] at hz
              simp only [Res.noEx_ok, Res.bind_ok] at hz
              cases hc : y.cl with
              | false => rw [hc] at hz; cases hz
              | true =>
                rw [hc] at hz
                simp only [Res.guard_true] at hz
                cases hr : compL (fun d => bindT tgS d (wipeS s (tgNames tgS))) (fun s' => (evalIf G tifs s').noEx) (fun s' => (evalE G te s').noEx) (ds.drop (i + 1)) with
                | stuck => rw [hr] at hz; cases hz
                | ex c xs => rw [hr] at hz; cases hz
                | ok zs' =>
                  rw [hr] at hz
                  simp only [Res.bind_ok] at hz
                  cases hz
                  intro v M4 H4 l4 s4 r4 f4 n4
                  have S4 := S3.trans s4
                  have hs : St0 Mc Hc M4 H4 := (s2.trans s3).trans s4
                  have kD := s4.k D0 (by rw [keepD.1]; simp)
                  have D4 : H4 D0 = some (.lst acc) := kD.1.trans keepD.1
                  have O4 : M4 D0 = some .own := kD.2.trans keepD.2
                  have ra4 := racc.step L.st.d hs
                  have hDl : D0 ∉ l := fun z => (fl D0 z).2 rfl
                  have hDl4 : D0 ∉ l4 := fun z => by have := f4 D0 z; rw [keepD.1] at this; cases this
                  refine ⟨acc, D4, ?_, M4, aD ++ [y], zs', ⟨⟨fun a ha => ?_, fun a ha => ?_⟩, O4, acc ++ [v], l ++ l4, upd_same, ?_, fun a ha => ?_, ?_⟩, rfl, by rw [← hyz]; simp⟩
                  · rw [racc.len]
                    have : (aD ++ y :: zs').length ≤ sizeLine := by rw [hyz]; exact hlen
                    simp at this
                    omega
                  · have hne : a ≠ D0 := fun z => ha (by rw [z]; exact hD0)
                    rw [upd_ne hne]
                    exact S4.k a ha
                  · by_cases z : a = D0
                    · rw [z, upd_same]; simp
                    · rw [upd_ne z]; exact s4.d a ha
                  · have r4' : Reps n.c M4 H4 .own [y] [v] l4 := ⟨v, [], l4, [], rfl, by rcases cl_md hc with e | e <;> rw [e] <;> rfl, r4, ⟨rfl, rfl⟩, by simp⟩
                    exact upd_keeps (ra4.append r4') (by simp) (fun z => (List.mem_append.mp z).elim hDl hDl4) O4
                  · rcases List.mem_append.mp ha with ha | ha
                    · exact fl a ha
                    · refine ⟨S3.fresh (f4 a ha), fun z => ?_⟩
                      rw [z] at ha
                      exact hDl4 ha
                  · refine List.nodup_append.mpr ⟨ndl, n4, fun a ha b hb e => ?_⟩
                    subst e
                    have := (Reps.owns aD (racc.step L.st.d (s2.trans s3)) a ha).2
                    exact this (f4 a hb)
  · have e : i = ds.length := by omega
    subst e
    rw [List.drop_length] at hz
    unfold compL at hz
    cases hz
    rw [List.append_nil] at hyz
    subst hyz
    refine .inl ⟨y1 _ (Nat.le_refl _), ?_⟩
    have fr : ∀ a ∈ D0 :: l, H1' a = none := fun a ha => by
      rcases List.mem_cons.mp ha with z | z
      · rw [z]; exact hD0
      · exact (fl a z).1
    have nd : (D0 :: l).Nodup := List.nodup_cons.mpr ⟨fun z => (fl D0 z).2 rfl, ndl⟩
    have rD : Rep n.c Mc Hc (.lst .own aD) (.ref D0) (D0 :: l) := ⟨D0, acc, l, rfl, .inl ⟨L.own, hacc⟩, racc, rfl⟩
    rcases lk with e | ⟨q, od, kvs, h1, h2, h3, e, h4⟩
    · rw [e] at fr L
      exact .inl (hd (.ref D0) Mc Hc (D0 :: l) (s1.trans L.st) rD (fun a ha => s1.fresh (fr a ha)) nd)
    · have hq : H1' q = some (.frz od (.dK kvs)) := by rw [e, upd_same]
      have hqc := L.st.k q (by rw [hq]; simp)
      have hl : ∀ a ∈ D0 :: l, a ≠ q := fun a ha z => by have := fr a ha; rw [z, hq] at this; cases this
      refine .inr ⟨q, od, .dK kvs, hqc.1.trans hq, h4, ?_⟩
      have sB : St0 M1 H1 Mc (upd Hc q (.dK kvs)) := ⟨fun a ha => by
        by_cases z : a = q
        · rw [z, upd_same, h1]; exact ⟨rfl, hqc.2⟩
        · have : H1' a = H1 a := by rw [e, upd_ne z]
          have k := L.st.k a (by rw [this]; exact ha)
          exact ⟨by rw [upd_ne z]; exact k.1.trans this, k.2⟩, fun a ha => by
        by_cases z : a = q
        · rw [z, upd_same]; simp
        · rw [upd_ne z]; exact L.st.d a ha⟩
      refine hd (.ref D0) Mc _ (D0 :: l) (s1.trans sB) (Rep.mono _ rD fun a ha _ _ => ⟨rfl, ?_, fun hm => upd_ne (hl a hm)⟩) (fun a ha => ?_) nd
      · by_cases z : a = q
        · subst z
          exact .inr ⟨kvs, .inr ⟨od, hqc.1.trans hq⟩, .inl upd_same⟩
        · exact .inl (upd_ne z)
      · have := fr a ha
        rw [e, upd_ne (hl a ha)] at this
        exact s1.fresh this
theorem se_cmpr (F : FC n G X) {elt tg iter : Expr} {ifs : List Expr} {scope : Scope} {pos : Pos} {te : Tm} {tgS : Tg} {it : Itr} {tifs : List Tm} {own : List (Str × Nat)}
    (hown : own.map (·.2) = tgNames tgS) (hblk : blkC X.N X.env.scope scope own = true) (hi : SI n G X false tg iter it) (ho : okE iter = true)
    (htg : ∀ (s : Shared) (H : Hp) (C : Addr) (cl : List (Str × Addr)) (fp : List Addr), tgC (X.blk s H scope (compEnvC scope cl C X.env) fp).N (X.blk s H scope (compEnvC scope cl C X.env) fp).env.scope (X.blk s H scope (compEnvC scope cl C X.env) fp).fn tgS tg = true)
    (hif : ∀ (s : Shared) (H : Hp) (C : Addr) (cl : List (Str × Addr)) (fp : List Addr), PTq n G (X.blk s H scope (compEnvC scope cl C X.env) fp) ifs tifs)
    (he : ∀ (s : Shared) (H : Hp) (C : Addr) (cl : List (Str × Addr)) (fp : List Addr), SE n G (X.blk s H scope (compEnvC scope cl C X.env) fp) elt te) :
    SE n G X (.ListComp elt [⟨tg, iter, ifs, 0⟩] scope pos) (.cmpr te tgS it tifs) := by
  intro W tk M s σ H Q R h
  refine ⟨_, pe_unlA (pe_lc (own := own) (wi := WI X tg iter)
    (g := fun v σ H Q => ∀ (s : Shared) (H' : Hp) (C : Addr) (cl : List (Str × Addr)) (fp : List Addr), WG (X.blk s H' scope (compEnvC scope cl C X.env) fp) tg v σ H Q)
    (tt := fun σ H Q => ∀ (s : Shared) (H' : Hp) (C : Addr) (cl : List (Str × Addr)) (fp : List Addr), ∃ tt, PTs (X.blk s H' scope (compEnvC scope cl C X.env) fp) ifs tt ∧ tt σ H Q)
    (te := fun σ H Q => ∀ (s : Shared) (H' : Hp) (C : Addr) (cl : List (Str × Addr)) (fp : List Addr), WE (X.blk s H' scope (compEnvC scope cl C X.env) fp) elt σ H Q)
    F.calm F.nd wi_ (blkOk_by hblk) (fun s' H' C cl fp => ⟨fun pins sh σ H v u Q I r hw => wg.run pins sh σ H v u Q I r (hw s' H' C cl fp)⟩)
    (fun s' H' C cl fp => ⟨fun pins sh σ H Q I hw => let ⟨tt, h1, h2⟩ := hw s' H' C cl fp; h1.run pins sh σ H Q I h2⟩)
    (fun s' H' C cl fp => ⟨fun pins sh σ H Q I hw => we.run pins sh σ H Q I (hw s' H' C cl fp)⟩) (fun x => okE_fold ho _ x)), ?_⟩
  refine lc_run (own := own) F (ifs := ifs) (elt := elt) (scope := scope) (pos := pos) hown hi tk R ?_ ?_ ?_ h
  · exact fun M s σ H d v s' Q R r hb hq s0 H' C cl fp => bt_run (F.blk _ _ _ _ _).toFX tgS tg (htg s0 H' C cl fp) s σ d v s' Q R r hb hq
  · exact fun M s σ H Q R hq s0 H' C cl fp => let ⟨tt, h1, h2⟩ := hif s0 H' C cl fp; ⟨tt, h1, h2 M s σ H Q R hq⟩
  · exact fun M s σ H Q R hq s0 H' C cl fp => he s0 H' C cl fp _ takes_false M s σ H Q R (PR.noEx hq)
end
end GS

namespace GS
open PySem PySem.Spec PyProof.Rows L2

/-! ## states of statements -/
structure RelL (c : RC) (P : Nat → Option V) (M : MM) (s : Sl) (σ : L2.St) (H : Hp) (L : Nat → List Addr) : Prop where
  len : s.length = σ.length
  dom : Dom M H
  at_ : ∀ (i : Nat) (d : D), s[i]? = some (some d) → ∃ v, σ[i]? = some (some v) ∧ Rep c M H d v (L i) ∧ d.md ≠ .vw
  nd : ∀ i, (L i).Nodup
  dj : ∀ i j a, a ∈ L i → a ∈ L j → i = j
  ow : ∀ i a, a ∈ L i → M a = some .own ∧ H a ≠ none
  par : ∀ i v, P i = some v → σ[i]? = some (some v) ∧ ∃ d, s[i]? = some (some d) ∧ d.md = .own
def Pex (P : Nat → Option V) (s : Sl) : Nat → Option V := fun i => match s[i]? with
  | some (some _) => P i
  | _ => none
def PostS (n : Env') (P : Nat → Option V) (W : WX) (M : MM) (H : Hp) (D : Ends) : Out → Prop
  | .nx s => ∀ M' H' σ' L, StS M H M' H' → RelL n.c P M' s σ' H' L → D.nx σ' H'
  | .bk s => ∀ M' H' σ' L, StS M H M' H' → RelL n.c P M' s σ' H' L → D.bk σ' H'
  | .ct s => ∀ M' H' σ' L, StS M H M' H' → RelL n.c P M' s σ' H' L → D.ct σ' H'
  | .rt d s => ∀ M' H' σ' L v l, d.cl = true → StS M H M' H' → RelL n.c P M' s σ' H' L → Rep n.c M' H' d v l → l.Nodup → (∀ i a, a ∈ l → a ∉ L i) → D.rt v H'
  | .ex c ds s => ∀ M' H' σ' L, StS M H M' H' → RelL n.c (Pex P s) M' s σ' H' L → PX n M' H' (fun cls d H' => W cls d σ' H') c ds
  | .stuck => False
/-- the facts that statements need, too -/
structure FS (n : Env') (G : GE) (X : Cx) : Prop extends FC n G X where
  pass : PassesOwn (model X.prog X.w) X.A X.env X.xe
def SC (n : Env') (G : GE) (X : Cx) (np : Nat) (st : Stmt) (c : Cm) : Prop := ∀ (W : WX), Takes X W → ∀ (P : Nat → Option V), (∀ i v, P i = some v → i < np) → ∀ M s σ H L D, RelL n.c P M s σ H L → PostS n P W M H D (exec G whileV np c s) → WS X st D σ H
def SCs (n : Env') (G : GE) (X : Cx) (np : Nat) (sts : List Stmt) (cs : List Cm) : Prop := ∀ (W : WX), Takes X W → ∀ (P : Nat → Option V), (∀ i v, P i = some v → i < np) → ∀ M s σ H L D, RelL n.c P M s σ H L → PostS n P W M H D (execs G whileV np cs s) → WSs X sts D σ H

section
variable {n : Env'} {G : GE} {X : Cx} {W : WX} {M M0 M1 M' : MM} {H H0 H1 H' : Hp} {s : Sl} {σ : L2.St} {P : Nat → Option V} {L : Nat → List Addr} {np : Nat} {Dd : Ends}

theorem StS.refl (d : Dom M H) : StS M H M H := ⟨fun _ _ _ => ⟨rfl, rfl⟩, fun _ h => .inl h, d⟩
theorem St0.toS (d : Dom M H) (s : St0 M H M' H') : StS M H M' H' := ⟨fun a ha _ => s.k a ha, fun a e => .inl (by rw [(s.k a (d a (by rw [e]; simp))).2, e]), s.d⟩
theorem StS.trans {M1 M2 : MM} {H1 H2 : Hp} (x : StS M H M1 H1) (y : StS M1 H1 M2 H2) : StS M H M2 H2 := ⟨fun a ha hm => by
  obtain ⟨e1, e2⟩ := x.k a ha hm
  obtain ⟨e3, e4⟩ := y.k a (by rw [e1]; exact ha) (by rw [e2]; exact hm)
  exact ⟨e3.trans e1, e4.trans e2⟩, fun a e => by
  rcases x.o a e with q | q
  · exact y.o a q
  · right
    rw [(y.k a (x.d a (by rw [q]; simp)) (by rw [q]; simp)).2, q], y.d⟩
theorem RelL.view (R : RelL n.c P M s σ H L) : RelS n.c M (viewS s) σ H := ⟨by unfold viewS; rw [List.length_map]; exact R.len, R.dom, fun i d e => by
  unfold viewS at e
  rw [List.getElem?_map] at e
  cases hs : s[i]? with
  | none => rw [hs] at e; cases e
  | some o =>
    rw [hs] at e
    cases o with
    | none => cases e
    | some x =>
      cases e
      obtain ⟨v, h1, h2, _⟩ := R.at_ i x hs
      exact ⟨v, h1, Rep.view x h2⟩⟩
theorem RelL.step (R : RelL n.c P M s σ H L) (st : St0 M H M' H') : RelL n.c P M' s σ H' L := ⟨R.len, st.d, fun i d e => let ⟨v, h1, h2, h3⟩ := R.at_ i d e; ⟨v, h1, h2.step R.dom st, h3⟩, R.nd, R.dj, fun i a ha => by
  obtain ⟨h1, h2⟩ := R.ow i a ha
  obtain ⟨e1, e2⟩ := st.k a h2
  exact ⟨e2.trans h1, by rw [e1]; exact h2⟩, R.par⟩
theorem RelL.pex (R : RelL n.c P M s σ H L) : RelL n.c (Pex P s) M s σ H L := ⟨R.len, R.dom, R.at_, R.nd, R.dj, R.ow, fun i v e => R.par i v (by
  unfold Pex at e
  split at e
  · exact e
  · cases e)⟩
/-- a slot set -/
theorem RelL.put {i : Nat} {d : D} {v : V} {l : List Addr} (R : RelL n.c P M s σ H L) (r : Rep n.c M H d v l) (nd : l.Nodup) (hd : ∀ a ∈ l, ∀ j, a ∉ L j) (hp : P i = none) (hv : d.md ≠ .vw) :
    ∃ L', RelL n.c P M (s.set i (some d)) (σ.set i (some v)) H L' ∧ ∀ j a, a ∈ L' j → a ∈ L j ∨ a ∈ l := by
  by_cases hi : i < s.length
  · refine ⟨fun j => if j = i then l else L j, ⟨by simp [R.len], R.dom, fun j x e => ?_, fun j => ?_, fun j k a h1 h2 => ?_, fun j a h => ?_, fun j w e => ?_⟩, fun j a h => ?_⟩
    · by_cases hj : j = i
      · subst hj
        rw [List.getElem?_set_self hi] at e
        cases e
        refine ⟨v, List.getElem?_set_self (by rw [← R.len]; exact hi), ?_, hv⟩
        simp only [if_true]
        exact r
      · rw [List.getElem?_set_ne (Ne.symm hj)] at e
        obtain ⟨w, h1, h2, h3⟩ := R.at_ j x e
        refine ⟨w, by rw [List.getElem?_set_ne (Ne.symm hj)]; exact h1, ?_, h3⟩
        rw [if_neg hj]; exact h2
    · skip
      split
      · exact nd
      · exact R.nd j
    · skip
      split at h1
      · next e1 =>
        split at h2
        · next e2 => rw [e1, e2]
        · exact absurd h2 (hd a h1 k)
      · split at h2
        · exact absurd h1 (hd a h2 j)
        · exact R.dj j k a h1 h2
    · skip
      split at h
      · exact Rep.owns d r a h
      · exact R.ow j a h
    · have hj : j ≠ i := fun z => by rw [z, hp] at e; cases e
      obtain ⟨h1, x, h2, h3⟩ := R.par j w e
      exact ⟨by rw [List.getElem?_set_ne (Ne.symm hj)]; exact h1, x, by rw [List.getElem?_set_ne (Ne.symm hj)]; exact h2, h3⟩
    · dsimp only at h
      split at h
      · exact .inr h
      · exact .inl h
  · rw [List.set_eq_of_length_le (by omega), List.set_eq_of_length_le (by rw [← R.len]; omega)]
    exact ⟨L, R, fun j a h => .inl h⟩
theorem post_res {α : Type} {r : Res α} {f : α → Out} (R : RelL n.c P M s σ H L) (h : PostS n P W M H Dd (Out.ofRes s r f)) : PR r (fun a => PostS n P W M H Dd (f a)) (PX n M H fun cls d H' => W cls d σ H') := by
  cases r with
  | ok a => exact h
  | ex c ds => exact (show PostS n P W M H Dd (.ex c ds s) from h) M H σ L (StS.refl R.dom) R.pex
  | stuck => exact h
theorem post_opt {o : Option Sl} (h : PostS n P W M H Dd (ofOpt o)) : ∃ s', o = some s' ∧ PostS n P W M H Dd (.nx s') := by
  cases o with
  | none => exact False.elim h
  | some s' => exact ⟨s', rfl, h⟩
theorem PostS.mono {o : Out} (h : PostS n P W M H Dd o) (st : StS M H M1 H1) : PostS n P W M1 H1 Dd o := by
  cases o with
  | nx s => exact fun M' H' σ' L s' R => h M' H' σ' L (st.trans s') R
  | bk s => exact fun M' H' σ' L s' R => h M' H' σ' L (st.trans s') R
  | ct s => exact fun M' H' σ' L s' R => h M' H' σ' L (st.trans s') R
  | rt d s => exact fun M' H' σ' L v l c s' R => h M' H' σ' L v l c (st.trans s') R
  | ex c ds s => exact fun M' H' σ' L s' R => h M' H' σ' L (st.trans s') R
  | stuck => exact h
theorem free_none (R : RelL n.c P M s σ H L) (hP : ∀ i v, P i = some v → i < np) {i : Nat} (h : freeAt np s i = true) : P i = none := by
  cases e : P i with
  | none => rfl
  | some v =>
    obtain ⟨_, d, h1, h2⟩ := R.par i v e
    unfold freeAt at h
    rw [h1] at h
    simp [hP i v e, h2] at h

/-! ### targets -/
mutual
theorem bs_run (F : FX n X) (hP : ∀ i v, P i = some v → i < np) : ∀ (g : Tg) (e : Expr), tgC X.N X.env.scope X.fn g e = true → ∀ (s : Sl) (σ : L2.St) (L : Nat → List Addr) (d : D) (v : V) (l : List Addr) (s' : Sl) (Q : L2.St → Hp → Prop), RelL n.c P M s σ H L → Rep n.c M H d v l → l.Nodup → (∀ a ∈ l, ∀ j, a ∉ L j) → bindS np g d s = some s' →
    (∀ σ' L', RelL n.c P M s' σ' H L' → (∀ j a, a ∈ L' j → a ∈ L j ∨ a ∈ l) → Q σ' H) → WG X e v σ H Q
  | .nm i, .Name x p, h, s, σ, L, d, v, l, s', Q, R, r, nd, hd, hb, hq => by
    unfold tgC at h
    rw [Bool.and_eq_true, decide_eq_true_eq] at h
    obtain ⟨h1, h2⟩ := loc_of h.2
    unfold bindS setS at hb
    split at hb
    · next hc =>
      rw [Bool.and_eq_true] at hc
      cases hb
      obtain ⟨L', R', hl⟩ := R.put r nd hd (free_none R hP hc.1) (by have := hc.2; unfold notVw at this; simpa using this)
      exact ⟨_, pg_name F.nd h.1 h1 h2, hq _ L' R' hl⟩
    · cases hb
  | .tp gs, .Tuple es k p, h, s, σ, L, d, v, l, s', Q, R, r, nd, hd, hb, hq => by
    unfold tgC at h
    cases d with
    | tup m ds =>
      unfold bindS at hb
      obtain ⟨a, vs, l', rfl, nx, rr, el⟩ := r
      obtain ⟨f1, f2⟩ := tgCs_form X.env h
      have hs : l'.Sublist l := by rw [el]; exact consO_sub _ _ _
      refine ⟨_, pg_tup F.calm wgs f1 f2, a, vs, rfl, tup_sqt F.K nx, ?_, ?_⟩
      · exact bss_len gs ds s s' hb ▸ rr.len
      · exact bss_run F hP gs es h s σ L ds vs l' m s' Q R rr (nd.sublist hs) (fun a ha => hd a (hs.subset ha)) hb fun σ' L' R' hl => hq σ' L' R' fun j a ha => (hl j a ha).imp id fun z => hs.subset z
    | _ => unfold bindS at hb; cases hb
  | .nm i, .Tuple _ _ _, h, _, _, _, _, _, _, _, _, _, _, _, _, _, _ => by unfold tgC at h; cases h
theorem bss_run (F : FX n X) (hP : ∀ i v, P i = some v → i < np) : ∀ (gs : List Tg) (es : List Expr), tgCs X.N X.env.scope X.fn gs es = true → ∀ (s : Sl) (σ : L2.St) (L : Nat → List Addr) (ds : List D) (vs : List V) (l : List Addr) (p : Md) (s' : Sl) (Q : L2.St → Hp → Prop), RelL n.c P M s σ H L → Reps n.c M H p ds vs l → l.Nodup → (∀ a ∈ l, ∀ j, a ∉ L j) → bindSs np gs ds s = some s' →
    (∀ σ' L', RelL n.c P M s' σ' H L' → (∀ j a, a ∈ L' j → a ∈ L j ∨ a ∈ l) → Q σ' H) → WGs X es vs σ H Q
  | [], [], h, s, σ, L, ds, vs, l, p, s', Q, R, r, nd, hd, hb, hq => by
    cases ds with
    | nil =>
      unfold bindSs at hb
      cases hb
      obtain ⟨rfl, _⟩ := r
      exact ⟨_, pgs_nil, rfl, hq σ L R fun _ _ h => .inl h⟩
    | cons d ds => unfold bindSs at hb; cases hb
  | g :: gs, e :: es, h, s, σ, L, ds, vs, l, p, s', Q, R, r, nd, hd, hb, hq => by
    cases ds with
    | nil => unfold bindSs at hb; cases hb
    | cons d ds =>
      unfold tgCs at h
      rw [Bool.and_eq_true] at h
      obtain ⟨v, vs', l1, l2, rfl, ck, r1, r2, el⟩ := r
      subst el
      unfold bindSs at hb
      obtain ⟨s1, hb1, hb2⟩ := Option.bind_eq_some_iff.mp hb
      obtain ⟨n1, n2, n3⟩ := List.nodup_append.mp nd
      refine ⟨_, pgs_cons wg wgs (by rw [tgC_form h.1 es X.env]; rfl), v, vs', rfl, ?_⟩
      refine bs_run F hP g e h.1 s σ L d v l1 s1 _ R r1 n1 (fun a ha => hd a (by simp [ha])) hb1 fun σ1 L1 R1 hl1 => ?_
      refine bss_run F hP gs es h.2 s1 σ1 L1 ds vs' l2 p s' Q R1 r2 n2 (fun a ha j hj => ?_) hb2 fun σ2 L2 R2 hl2 => hq σ2 L2 R2 fun j a ha => ?_
      · rcases hl1 j a hj with z | z
        · exact hd a (by simp [ha]) j z
        · exact n3 a z a ha rfl
      · rcases hl2 j a ha with z | z
        · exact (hl1 j a z).imp id fun q => by simp [q]
        · exact .inr (by simp [z])
  | [], e :: es, h, _, _, _, _, _, _, _, _, _, _, _, _, _, _, _ => by unfold tgCs at h; cases h
  | g :: gs, [], h, _, _, _, _, _, _, _, _, _, _, _, _, _, _, _ => by unfold tgCs at h; cases h
theorem bss_len : ∀ (gs : List Tg) (ds : List D) (s s' : Sl), bindSs np gs ds s = some s' → ds.length = gs.length
  | [], [], _, _, _ => rfl
  | g :: gs, d :: ds, s, s', h => by
    unfold bindSs at h
    obtain ⟨s1, _, h2⟩ := Option.bind_eq_some_iff.mp h
    simp [bss_len gs ds s1 s' h2]
  | [], d :: ds, _, _, h => by unfold bindSs at h; cases h
  | g :: gs, [], _, _, h => by unfold bindSs at h; cases h
end

/-! ### simple statements -/
theorem fresh_L (R : RelL n.c P M s σ H L) {l : List Addr} (f : ∀ a ∈ l, H a = none) : ∀ a ∈ l, ∀ j, a ∉ L j := fun a ha j hj => (R.ow j a hj).2 (f a ha)
theorem sc_set (F : FS n G X) {i : Nat} {x : Str} {e : Expr} {t : Tm} {pos pos' : Pos} (hN : X.N[i]? = some x) (hx : locC X.env.scope X.fn x = true) (he : SE n G X e t) (hs : swapsWith e (some (.Name x pos')) pos.line X.env = pure false) : SC n G X np (.Assign [.Name x pos'] e pos) (.set i t) := by
  intro W tk P hP M s σ H L D R h
  unfold exec at h
  obtain ⟨h1, h2⟩ := loc_of hx
  refine ⟨_, ps_set F.nd hN h1 we hs h2, ?_⟩
  refine he W tk M _ σ H _ R.view ((post_res R h).imp (fun d ed hd v M1 H1 l s1 r f nd => ?_) fun _ _ q => q)
  obtain ⟨s', hs', hd⟩ := post_opt hd
  unfold setS at hs'
  split at hs'
  · next hc =>
    rw [Bool.and_eq_true] at hc
    cases hs'
    obtain ⟨L', R', _⟩ := (R.step s1).put r nd (fresh_L R f) (free_none R hP hc.1) (by have := hc.2; unfold notVw at this; simpa using this)
    exact hd M1 H1 _ L' (s1.toS R.dom) R'
  · cases hs'
theorem sc_unp (F : FS n G X) {tg e : Expr} {g : Tg} {t : Tm} {pos : Pos} (htg : tgC X.N X.env.scope X.fn g tg = true) (he : SE n G X e t) (hs : swapsWithSole [tg] e pos.line X.env = pure false) (hw : swappedStores [tg] e X.env = pure none) : SC n G X np (.Assign [tg] e pos) (.unp g t) := by
  intro W tk P hP M s σ H L D R h
  unfold exec at h
  refine ⟨_, ps_asg we wg hs hw (by rw [tgC_form htg [] X.env]; rfl), ?_⟩
  refine he W tk M _ σ H _ R.view ((post_res R h).imp (fun d ed hd v M1 H1 l s1 r f nd => ?_) fun _ _ q => q)
  obtain ⟨s', hs', hd⟩ := post_opt hd
  exact bs_run F.toFX hP g tg htg s σ L d v l s' _ (R.step s1) r nd (fresh_L R f) hs' fun σ' L' R' _ => hd M1 H1 σ' L' (s1.toS R.dom) R'
theorem sc_ex (F : FS n G X) {e : Expr} {t : Tm} {pos : Pos} (he : SE n G X e t) (hs : swapsWith e none pos.line X.env = pure false) : SC n G X np (.Expr e pos) (.ex t) := by
  intro W tk P hP M s σ H L D R h
  unfold exec at h
  refine ⟨_, ps_expr we hs, ?_⟩
  exact he W tk M _ σ H _ R.view ((post_res R h).imp (fun d ed hd v M1 H1 l s1 r f nd => hd M1 H1 σ L (s1.toS R.dom) (R.step s1)) fun _ _ q => q)
theorem sc_doc {x : Str} {j : Nat} {p pos : Pos} : SC n G X np (.Expr (.Constant (.str x) j p) pos) .pas := by
  intro W tk P hP M s σ H L D R h
  unfold exec at h
  exact ⟨_, ps_doc, h M H σ L (StS.refl R.dom) R⟩
theorem sc_pas {pos : Pos} : SC n G X np (.Pass pos) .pas := by
  intro W tk P hP M s σ H L D R h
  unfold exec at h
  exact ⟨_, ps_pass, h M H σ L (StS.refl R.dom) R⟩
theorem sc_brk {pos : Pos} : SC n G X np (.Break pos) .brk := by
  intro W tk P hP M s σ H L D R h
  unfold exec at h
  exact ⟨_, ps_break, h M H σ L (StS.refl R.dom) R⟩
theorem sc_cnt {pos : Pos} : SC n G X np (.Continue pos) .cnt := by
  intro W tk P hP M s σ H L D R h
  unfold exec at h
  exact ⟨_, ps_continue, h M H σ L (StS.refl R.dom) R⟩
theorem sc_never {st : Stmt} : SC n G X np st .never := by
  intro W tk P hP M s σ H L D R h
  unfold exec at h
  exact False.elim h
theorem sc_ret (F : FS n G X) {e : Expr} {t : Tm} {pos : Pos} (he : SE n G X e t) : SC n G X np (.Return (some e) pos) (.ret t) := by
  intro W tk P hP M s σ H L D R h
  unfold exec at h
  refine ⟨_, ps_ret we, ?_⟩
  refine he W tk M _ σ H _ R.view ((post_res R h).imp (fun d ed hd v M1 H1 l s1 r f nd => ?_) fun _ _ q => q)
  split at hd
  · next hc => exact hd M1 H1 σ L v l hc (s1.toS R.dom) (R.step s1) r nd fun i a ha => fresh_L R f a ha i
  · exact False.elim hd
theorem sc_ret0 {pos : Pos} : SC n G X np (.Return none pos) .ret0 := by
  intro W tk P hP M s σ H L D R h
  unfold exec at h
  exact ⟨_, ps_retN, h M H σ L .non [] rfl (StS.refl R.dom) R ⟨rfl, rfl⟩ .nil fun _ _ z => nomatch z⟩
/-- a slot forgotten -/
theorem RelL.drop {i : Nat} (R : RelL n.c P M s σ H L) (hp : P i = none) : RelL n.c P M (s.set i none) σ H (fun j => if j = i then [] else L j) := by
  refine ⟨by simp [R.len], R.dom, fun j x e => ?_, fun j => ?_, fun j k a h1 h2 => ?_, fun j a h => ?_, fun j w e => ?_⟩
  · by_cases hj : j = i
    · subst hj
      by_cases hi : j < s.length
      · rw [List.getElem?_set_self hi] at e; cases e
      · rw [List.getElem?_eq_none (by rw [List.length_set]; omega)] at e; cases e
    · rw [List.getElem?_set_ne (Ne.symm hj)] at e
      rw [if_neg hj]
      exact R.at_ j x e
  · skip
    split
    · exact .nil
    · exact R.nd j
  · skip
    split at h1
    · cases h1
    · split at h2
      · cases h2
      · exact R.dj j k a h1 h2
  · skip
    split at h
    · cases h
    · exact R.ow j a h
  · have hj : j ≠ i := fun z => by rw [z, hp] at e; cases e
    obtain ⟨h1, x, h2, h3⟩ := R.par j w e
    exact ⟨h1, x, by rw [List.getElem?_set_ne (Ne.symm hj)]; exact h2, h3⟩
theorem sc_retv (F : FS n G X) {i : Nat} {x : Str} {p pos : Pos} (hN : X.N[i]? = some x) (hv : Vis X.env.scope x) (hd : (x == ("__debug__" : Str)) = false) (hcd : (x == ("__classdict__" : Str)) = false) : SC n G X np (.Return (some (.Name x p)) pos) (.retv i) := by
  intro W tk P hP M s σ H L D R h
  unfold exec at h
  split at h
  · next d e =>
    split at h
    · next hc =>
      rw [Bool.and_eq_true, decide_eq_true_eq] at hc
      obtain ⟨v, e1, r, _⟩ := R.at_ i d e
      have hp : P i = none := by
        cases q : P i with
        | none => rfl
        | some w => have := hP i w q; omega
      refine ⟨_, ps_ret (pe_var hN hv hd hcd), v, e1, h M H σ _ v (L i) hc.1 (StS.refl R.dom) (R.drop hp) r (R.nd i) fun j a ha hj => ?_⟩
      split at hj
      · cases hj
      · next hne => exact hne (R.dj j i a hj ha)
    · exact False.elim h
  · exact False.elim h
theorem scs_nil : SCs n G X np [] [] := by
  intro W tk P hP M s σ H L D R h
  unfold execs at h
  exact ⟨_, pss_nil, h M H σ L (StS.refl R.dom) R⟩
theorem post_bind {o : Out} {f : Sl → Out} {Q : L2.St → Hp → Prop} (h : PostS n P W M H Dd (o.bind f)) (hq : ∀ s', o = .nx s' → ∀ M' H' σ' L, StS M H M' H' → RelL n.c P M' s' σ' H' L → PostS n P W M' H' Dd (f s') → Q σ' H') : PostS n P W M H { Dd with nx := Q } o := by
  cases o with
  | nx s => exact fun M' H' σ' L st R => hq s rfl M' H' σ' L st R (PostS.mono h st)
  | bk s => exact h
  | ct s => exact h
  | rt d s => exact h
  | ex c ds s => exact h
  | stuck => exact h
theorem scs_cons {st : Stmt} {sts : List Stmt} {c : Cm} {cs : List Cm} (h1 : SC n G X np st c) (h2 : SCs n G X np sts cs) : SCs n G X np (st :: sts) (c :: cs) := by
  intro W tk P hP M s σ H L D R h
  unfold execs at h
  refine ⟨_, pss_cons ws wss, ?_⟩
  exact h1 W tk P hP M s σ H L _ R (post_bind h fun s' _ M' H' σ' L' st R' hh => h2 W tk P hP M' s' σ' H' L' D R' hh)
theorem sc_ite {c : Expr} {a b : List Stmt} {tc : Tm} {ca cb : List Cm} {pos : Pos} (hc : ST n G X c tc) (ha : SCs n G X np a ca) (hb : SCs n G X np b cb) : SC n G X np (.If c a b pos) (.ite tc ca cb) := by
  intro W tk P hP M s σ H L D R h
  unfold exec at h
  refine ⟨_, ps_if wt wss wss, ?_⟩
  refine hc W tk M _ σ H _ R.view ((post_res R h).imp (fun r er hr M1 H1 s1 => ?_) fun _ _ q => q)
  cases r with
  | true => exact ha W tk P hP M1 s σ H1 L D (R.step s1) (PostS.mono (show PostS n P W M H D (execs G whileV np ca s) from hr) (s1.toS R.dom))
  | false => exact hb W tk P hP M1 s σ H1 L D (R.step s1) (PostS.mono (show PostS n P W M H D (execs G whileV np cb s) from hr) (s1.toS R.dom))
end
end GS

namespace GS
open PySem PySem.Spec PyProof.Rows L2

section
variable {n : Env'} {G : GE} {X : Cx} {W : WX} {M M0 M1 M' : MM} {H H0 H1 H' : Hp} {s : Sl} {σ : L2.St} {P : Nat → Option V} {L : Nat → List Addr} {np : Nat} {Dd : Ends}

/-! ## ghosts -/
/-- a slot's tree, some of it frozen -/
theorem RelL.frzAt {i : Nat} {d d' : D} {K K' : List Addr} (R : RelL n.c P M s σ H L) (hi : s[i]? = some (some d)) (hK : ∀ a ∈ K, a ∈ L i) (hK' : ∀ a ∈ K', a ∈ L i) (nd : K'.Nodup) (hr : ∀ v, Rep n.c M H d v (L i) → Rep n.c (frzM M K) H d' v K') (hv : d'.md ≠ .vw)
    (hp : P i = none ∨ d'.md = .own) : RelL n.c P (frzM M K) (s.set i (some d')) σ H (fun j => if j = i then K' else L j) := by
  have hlen : i < s.length := (List.getElem?_eq_some_iff.mp hi).1
  have own : ∀ a ∈ K, M a = some .own := fun a ha => (R.ow i a (hK a ha)).1
  refine ⟨by simp [R.len], R.dom.frz own, fun j x e => ?_, fun j => ?_, fun j k a h1 h2 => ?_, fun j a h => ?_, fun j w e => ?_⟩
  · by_cases hj : j = i
    · subst hj
      rw [List.getElem?_set_self hlen] at e
      cases e
      obtain ⟨v, e1, r, _⟩ := R.at_ j d hi
      rw [if_pos rfl]
      exact ⟨v, e1, hr v r, hv⟩
    · rw [List.getElem?_set_ne (Ne.symm hj)] at e
      obtain ⟨v, e1, r, hm⟩ := R.at_ j x e
      rw [if_neg hj]
      exact ⟨v, e1, frz_other r own fun a ha z => hj (R.dj j i a ha (hK a z)), hm⟩
  · split
    · exact nd
    · exact R.nd j
  · have sub : ∀ {j a}, a ∈ (if j = i then K' else L j) → a ∈ L j := fun {j a} h => by
      split at h
      · next e => rw [e]; exact hK' a h
      · exact h
    exact R.dj j k a (sub h1) (sub h2)
  · by_cases hj : j = i
    · subst hj
      rw [if_pos rfl] at h
      obtain ⟨v, e1, r, _⟩ := R.at_ j d hi
      have := Rep.owns d' (hr v r) a h
      exact this
    · rw [if_neg hj] at h
      obtain ⟨h1, h2⟩ := R.ow j a h
      exact ⟨(frzM_out fun z => hj (R.dj j i a h (hK a z))).trans h1, h2⟩
  · obtain ⟨h1, x, h2, h3⟩ := R.par j w e
    by_cases hj : j = i
    · subst hj
      rcases hp with z | z
      · rw [z] at e; cases e
      · exact ⟨h1, d', List.getElem?_set_self hlen, z⟩
    · exact ⟨h1, x, by rw [List.getElem?_set_ne (Ne.symm hj)]; exact h2, h3⟩
theorem stS_frz {K : List Addr} (d : Dom M H) (hK : ∀ a ∈ K, M a = some .own) : StS M H (frzM M K) H := ⟨fun a ha hm => ⟨rfl, frzM_out fun z => hm (hK a z)⟩, fun a e => by
  by_cases z : a ∈ K
  · exact .inr (frzM_in z)
  · exact .inl ((frzM_out z).trans e), d.frz hK⟩
theorem scs_frz {sts : List Stmt} {i : Nat} {cs : List Cm} (h2 : SCs n G X np sts cs) : SCs n G X np sts (.frz i :: cs) := by
  intro W tk P hP M s σ H L De R h
  unfold execs exec at h
  split at h
  · next d e =>
    split at h
    · next hc =>
      have hp := free_none R hP hc
      by_cases ho : d.md = .own
      · have own : ∀ a ∈ L i, M a = some .own := fun a ha => (R.ow i a ha).1
        have R' := RelL.frzAt (d' := d.own2 .fz) (K := L i) (K' := []) R e (fun _ z => z) (fun _ z => nomatch z) .nil (fun v r => Rep.freeze (L i) d r (fun _ z => z) own (by unfold D.cl; rw [ho])) (by rw [own2_md, if_pos ho]; simp) (.inl hp)
        exact h2 W tk P hP _ _ σ H _ De R' (PostS.mono (show PostS n P W M H De (execs G whileV np cs (s.set i (some (d.own2 .fz)))) from h) (stS_frz R.dom own))
      · have e2 : s.set i (some (d.own2 .fz)) = s := by
          rw [own2_id ho]
          apply List.ext_getElem?
          intro j
          by_cases hj : i = j
          · subst hj
            rw [List.getElem?_set_self (List.getElem?_eq_some_iff.mp e).1, e]
          · rw [List.getElem?_set_ne hj]
        rw [e2] at h
        exact h2 W tk P hP M s σ H L De R h
    · exact False.elim h
  · exact False.elim h
theorem Reps.frzU {L0 : List Addr} {ds : List D} {vs : List V} {l : List Addr} (r : Reps n.c M H .own ds vs l) (hs : ∀ a ∈ l, a ∈ L0) (hL : ∀ a ∈ L0, M a = some .own) : Reps n.c (frzM M L0) H .own (D.own2s .fz ds) vs [] := (Reps.freeze L0 ds r hs hL).under
theorem scs_frzc {sts : List Stmt} {i : Nat} {cs : List Cm} (h2 : SCs n G X np sts cs) : SCs n G X np sts (.frzc i :: cs) := by
  intro W tk P hP M s σ H L De R h
  unfold execs exec at h
  split at h
  · next ds e =>
    obtain ⟨v, e1, r, _⟩ := R.at_ i _ e
    obtain ⟨a, vs, l', rfl, nx, rr, el⟩ := r
    have el : L i = a :: l' := el
    have own : ∀ b ∈ l', M b = some .own := fun b hb => (R.ow i b (by rw [el]; simp [hb])).1
    have nd := R.nd i
    rw [el] at nd
    have hna : a ∉ l' := (List.nodup_cons.mp nd).1
    have R' := RelL.frzAt (d' := .lst .own (D.own2s .fz ds)) (K := l') (K' := [a]) R e (fun b hb => by rw [el]; simp [hb]) (fun b hb => by rw [el]; simp at hb; simp [hb]) (by simp) (fun v r => by
      obtain ⟨a', vs', l'', ev, nx', rr', el'⟩ := r
      have el' : L i = a' :: l'' := el'
      rw [el] at el'
      cases el'
      rcases nx' with nx' | nx'
      · exact ⟨a, vs', [], ev, .inl ⟨(frzM_out hna).trans nx'.1, nx'.2⟩, rr'.frzU (fun _ z => z) own, rfl⟩
      · cases nx'.1) (by simp [D.md]) (.inr rfl)
    exact h2 W tk P hP _ _ σ H _ De R' (PostS.mono (show PostS n P W M H De (execs G whileV np cs (s.set i (some (.lst .own (D.own2s .fz ds))))) from h) (stS_frz R.dom own))
  · next ks ds e =>
    obtain ⟨v, e1, r, _⟩ := R.at_ i _ e
    obtain ⟨a, kvs, l', rfl, nx, ek, rr, el⟩ := r
    have el : L i = a :: l' := el
    have own : ∀ b ∈ l', M b = some .own := fun b hb => (R.ow i b (by rw [el]; simp [hb])).1
    have nd := R.nd i
    rw [el] at nd
    have hna : a ∉ l' := (List.nodup_cons.mp nd).1
    have R' := RelL.frzAt (d' := .dic .own ks (D.own2s .fz ds)) (K := l') (K' := [a]) R e (fun b hb => by rw [el]; simp [hb]) (fun b hb => by rw [el]; simp at hb; simp [hb]) (by simp) (fun v r => by
      obtain ⟨a', vs', l'', ev, nx', ek', rr', el'⟩ := r
      have el' : L i = a' :: l'' := el'
      rw [el] at el'
      cases el'
      exact ⟨a, vs', [], ev, ⟨(frzM_out hna).trans nx'.1, nx'.2.1, nx'.2.2⟩, ek', rr'.frzU (fun _ z => z) own, rfl⟩) (by simp [D.md]) (.inr rfl)
    exact h2 W tk P hP _ _ σ H _ De R' (PostS.mono (show PostS n P W M H De (execs G whileV np cs (s.set i (some (.dic .own ks (D.own2s .fz ds))))) from h) (stS_frz R.dom own))
  · exact False.elim h

/-! ## loops -/
/-- as Q, or as Q behind unlocking a dict that was locked here -/
def Ul (X : Cx) (Q : Hp → Prop) (H : Hp) : Prop := Q H ∨ ∃ d od u, H d = some (.frz od u) ∧ (∀ o' u', X.H_0 d ≠ some (.frz o' u')) ∧ Q (upd H d u)
theorem ul_run {pins : List (Addr × Obj)} {sh : Shared} {Q : Hp → Prop} (I : Inv X pins σ H sh) (h : Ul X Q H) : ∃ H', Inv X pins σ H' sh ∧ Q H' := by
  rcases h with q | ⟨d, od, u, hd, hn, q⟩
  · exact ⟨H, I, q⟩
  · exact ⟨_, I.unlock hd hn, q⟩
def endU (X : Cx) (D : Ends) : Ends := ⟨fun σ H => Ul X (D.nx σ) H, fun v H => Ul X (D.rt v) H, fun σ H => Ul X (D.bk σ) H, fun σ H => Ul X (D.ct σ) H⟩
theorem ps_unl {st : Stmt} {t : TS} (h : PS X st t) : PS X st (fun D σ H => t (endU X D) σ H) := by
  refine ⟨fun pins s σ H D I hw => ?_⟩
  refine thn (h.run pins s σ H _ I hw) fun f s1 q => ?_
  cases f with
  | next => obtain ⟨σ', H', I2, q⟩ := q; obtain ⟨H2, I3, q⟩ := ul_run I2 q; exact ⟨σ', H2, I3, q⟩
  | brk => obtain ⟨σ', H', I2, q⟩ := q; obtain ⟨H2, I3, q⟩ := ul_run I2 q; exact ⟨σ', H2, I3, q⟩
  | cont => obtain ⟨σ', H', I2, q⟩ := q; obtain ⟨H2, I3, q⟩ := ul_run I2 q; exact ⟨σ', H2, I3, q⟩
  | ret v => obtain ⟨x, σ', H', I2, r, q⟩ := q; obtain ⟨H2, I3, q⟩ := ul_run I2 q; exact ⟨x, σ', H2, I3, r, q⟩
/-- the state behind unlocking -/
structure UnlT (n : Env') (X : Cx) (P : Nat → Option V) (M : MM) (H : Hp) (M' : MM) (H' Hu : Hp) (L : Nat → List Addr) : Prop where
  ul : ∀ Q : Hp → Prop, Q Hu → Ul X Q H'
  st : StS M H M' Hu
  rel : ∀ P s σ, RelL n.c P M' s σ H' L → RelL n.c P M' s σ Hu L
  rep : ∀ d v l, (∀ a ∈ l, M' a = some .own) → Rep n.c M' H' d v l → Rep n.c M' Hu d v l
  px : ∀ W c ds, PX n M' Hu W c ds → PX n M' H' W c ds
theorem unl_of (s1 : St0 M H M1 H1) (dM : Dom M H) (lk : Lk X true M1 H1 H0) (st : StS M1 H0 M' H') (L : Nat → List Addr) : ∃ Hu, UnlT n X P M H M' H' Hu L := by
  rcases lk with e | ⟨q, od, kvs, h1, h2, h3, e, h4⟩
  · subst e
    exact ⟨H', fun _ h => .inl h, (s1.toS dM).trans st, fun _ _ _ R => R, fun _ _ _ _ r => r, fun _ _ _ h => h⟩
  · have hq : H0 q = some (.frz od (.dK kvs)) := by rw [e, upd_same]
    have hmq := h3 rfl
    obtain ⟨q1, q2⟩ := st.k q (by rw [hq]; simp) hmq
    have hq' : H' q = some (.frz od (.dK kvs)) := q1.trans hq
    have mo : M' q ≠ some .own := by rw [q2]; exact hmq
    have k1 : ∀ a, Keep1 H' (upd H' q (.dK kvs)) a := fun a => by
      by_cases z : a = q
      · subst z; exact .inr ⟨kvs, .inr ⟨od, hq'⟩, .inl upd_same⟩
      · exact .inl (upd_ne z)
    have hrep : ∀ d v l, (∀ a ∈ l, M' a = some .own) → Rep n.c M' H' d v l → Rep n.c M' (upd H' q (.dK kvs)) d v l := fun d v l hl r => Rep.mono d r fun a ha _ _ => ⟨rfl, k1 a, fun hm => upd_ne fun z => mo (by rw [← z]; exact hl a hm)⟩
    refine ⟨upd H' q (.dK kvs), fun Q h => .inr ⟨q, od, .dK kvs, hq', h4, h⟩, ?_, fun P s σ R => ?_, hrep, fun W c ds h dx M2 H2 s2 x => ?_⟩
    · refine (s1.toS dM).trans ⟨fun a ha hm => ?_, st.o, fun a ha => ?_⟩
      · by_cases z : a = q
        · rw [z, upd_same, h1]; exact ⟨rfl, q2⟩
        · have e1 : H0 a = H1 a := by rw [e, upd_ne z]
          obtain ⟨e2, e3⟩ := st.k a (by rw [e1]; exact ha) hm
          exact ⟨by rw [upd_ne z, e2, e1], e3⟩
      · by_cases z : a = q
        · rw [z, upd_same]; simp
        · rw [upd_ne z]; exact st.d a ha
    · refine ⟨R.len, fun a ha => (k1 a).there (R.dom a ha), fun i d e => ?_, R.nd, R.dj, fun i a ha => ?_, R.par⟩
      · obtain ⟨v, e1, r, hm⟩ := R.at_ i d e
        exact ⟨v, e1, hrep d v _ (fun a ha => (R.ow i a ha).1) r, hm⟩
      · exact ⟨(R.ow i a ha).1, (k1 a).there (R.ow i a ha).2⟩
    · refine h dx M2 H2 ⟨fun a ha => ?_, s2.d⟩ x
      by_cases z : a = q
      · subst z
        obtain ⟨t1, t2⟩ := s2.k a (by rw [hq']; simp)
        exact ⟨.inr ⟨kvs, .inl upd_same, t1.rd (.inr ⟨od, hq'⟩)⟩, t2⟩
      · have e1 : upd H' q (.dK kvs) a = H' a := upd_ne z
        obtain ⟨t1, t2⟩ := s2.k a (by rw [← e1]; exact ha)
        refine ⟨?_, t2⟩
        rcases t1 with t | ⟨kv, t3, t4⟩
        · exact .inl (t.trans e1.symm)
        · exact .inr ⟨kv, by unfold Rd at *; rw [e1]; exact t3, t4⟩
theorem sc_for (F : FS n G X) {tg iter : Expr} {body : List Stmt} {g : Tg} {it : Itr} {cs : List Cm} {pos : Pos} (htg : tgC X.N X.env.scope X.fn g tg = true) (hi : SI n G X true tg iter it) (ho : okE iter = true) (hb : SCs n G X np body cs) : SC n G X np (.For tg iter body [] pos) (.for_ g it cs) := by
  intro W tk P hP M s σ H L D R h
  unfold exec at h
  refine ⟨_, ps_unl (ps_for F.pass F.calm wi_ wg wss (fun x => okE_fold ho _ x)), ?_⟩
  refine hi W tk M _ σ H _ R.view ((post_res R h).imp (fun ds ed hd J M1 H1 H1' s1 lk yl => ?_) fun _ _ q => q)
  have hd : PostS n P W M H D (forL (bindS np g) (fun s => execs G whileV np cs s) ds s) := hd
  generalize ho : forL (bindS np g) (fun s => execs G whileV np cs s) ds s = o at hd
  have R1 : RelL n.c P M1 s σ H1' L := by
    have R0 := R.step s1
    refine ⟨R0.len, lk.dom R0.dom, fun i d e => ?_, R0.nd, R0.dj, fun i a ha => ?_, R0.par⟩
    · obtain ⟨v, e1, r, hm⟩ := R0.at_ i d e
      refine ⟨v, e1, ?_, hm⟩
      rcases lk with z | ⟨q, od, kvs, h1, h2, h3, z, h4⟩
      · rw [z]; exact r
      · refine Rep.mono d r fun a ha _ _ => ⟨rfl, ?_, fun hm => ?_⟩
        · by_cases y : a = q
          · subst y; exact .inr ⟨kvs, .inl h1, .inr ⟨od, by rw [z, upd_same]⟩⟩
          · exact .inl (by rw [z, upd_ne y])
        · rw [z, upd_ne fun y => h3 rfl (by rw [← y]; exact (R0.ow i a hm).1)]
    · refine ⟨(R0.ow i a ha).1, ?_⟩
      exact lk.dom R0.dom a (by rw [(R0.ow i a ha).1]; simp)
  refine ⟨fun i m σ' H' => m = ds.length - i ∧ i ≤ ds.length ∧ ∃ Mc sc Lc, StS M1 H1' Mc H' ∧ RelL n.c P Mc sc σ' H' Lc ∧ forL (bindS np g) (fun s => execs G whileV np cs s) (ds.drop i) sc = o, ⟨ds.length, by simp, Nat.zero_le _, M1, s, L, StS.refl R1.dom, R1, by simpa using ho⟩, ?_⟩
  rintro i m σc Hc ⟨rfl, hile, Mc, sc, Lc, stc, Rc, hc⟩
  obtain ⟨y1, y2⟩ := yl.turn Mc Hc stc
  by_cases hlt : i < ds.length
  · have hdi : ds[i]? = some ds[i] := List.getElem?_eq_getElem hlt
    obtain ⟨go, yld⟩ := y2 i _ hdi
    refine .inr ⟨go, fun σ' H' => ∃ Mc sc Lc, StS M1 H1' Mc H' ∧ RelL n.c P Mc sc σ' H' Lc ∧ forL (bindS np g) (fun s => execs G whileV np cs s) (ds.drop (i + 1)) sc = o, fun σ' H' q => ⟨ds.length - (i + 1), by omega, rfl, hlt, q⟩, fun x H2 hy => ?_⟩
    obtain ⟨M2, s2, r2⟩ := yld x H2 hy
    rw [List.drop_eq_getElem_cons hlt] at hc
    unfold forL at hc
    cases hbd : bindS np g ds[i] sc with
    | none => rw [hbd] at hc; subst hc; exact False.elim hd
    | some s' =>
      rw [hbd] at hc
      dsimp only at hc
      have st2 : StS M1 H1' M2 H2 := stc.trans (s2.toS Rc.dom)
      refine bs_run F.toFX hP g tg htg sc σc Lc _ x [] s' _ (Rc.step s2) r2 .nil (fun _ z => nomatch z) hbd fun σ3 L3 R3 _ => ?_
      refine hb W tk P hP M2 s' σ3 H2 L3 _ R3 ?_
      cases hx : execs G whileV np cs s' with
      | stuck => rw [hx] at hc; subst hc; exact False.elim hd
      | nx sn =>
        rw [hx] at hc
        exact fun M' H' σ' L' st' R' => ⟨M', sn, L', st2.trans st', R', hc⟩
      | ct sn =>
        rw [hx] at hc
        exact fun M' H' σ' L' st' R' => ⟨M', sn, L', st2.trans st', R', hc⟩
      | bk sn =>
        rw [hx] at hc
        subst hc
        intro M' H' σ' L' st' R'
        obtain ⟨Hu, U⟩ := unl_of (n := n) (P := P) s1 R.dom lk (st2.trans st') L'
        exact U.ul _ (hd M' Hu σ' L' U.st (U.rel _ _ _ R'))
      | rt d sn =>
        rw [hx] at hc
        subst hc
        intro M' H' σ' L' v l hcl st' R' rv nd hdj
        obtain ⟨Hu, U⟩ := unl_of (n := n) (P := P) s1 R.dom lk (st2.trans st') L'
        exact U.ul _ (hd M' Hu σ' L' v l hcl U.st (U.rel _ _ _ R') (U.rep d v l (fun a ha => (Rep.owns d rv a ha).1) rv) nd hdj)
      | ex c xs sn =>
        rw [hx] at hc
        subst hc
        intro M' H' σ' L' st' R'
        obtain ⟨Hu, U⟩ := unl_of (n := n) (P := P) s1 R.dom lk (st2.trans st') L'
        exact U.px _ _ _ (hd M' Hu σ' L' U.st (U.rel _ _ _ R'))
  · have e : i = ds.length := by omega
    subst e
    rw [List.drop_length] at hc
    unfold forL at hc
    subst hc
    obtain ⟨Hu, U⟩ := unl_of (n := n) (P := P) s1 R.dom lk stc Lc
    exact .inl ⟨y1 _ (Nat.le_refl _), U.ul _ (hd Mc Hu σc Lc U.st (U.rel _ _ _ Rc))⟩

/-- whileV by steps -/
inductive WhN (step : Sl → Sl ⊕ Out) : Nat → Sl → Out → Prop
  | stop {s o} : step s = .inr o → WhN step 0 s o
  | more {k s s' o} : step s = .inl s' → WhN step k s' o → WhN step (k + 1) s o
theorem whN_of {step : Sl → Sl ⊕ Out} {s : Sl} {o : Out} (h : WhR step s o) : ∃ k, WhN step k s o := by
  induction h with
  | stop e => exact ⟨0, .stop e⟩
  | more e _ ih => obtain ⟨k, h⟩ := ih; exact ⟨k + 1, .more e h⟩
theorem sc_whl (F : FS n G X) {c : Expr} {body : List Stmt} {tc : Tm} {cs : List Cm} {pos : Pos} (hc : ST n G X c tc) (hb : SCs n G X np body cs) : SC n G X np (.While c body [] pos) (.whl tc cs) := by
  intro W tk P hP M s σ H L D R h
  unfold exec at h
  refine ⟨_, ps_while F.pass wt wss, ?_⟩
  generalize hst : (fun s => toStep s ((evalE G tc (viewS s)).bind vTru) fun s => execs G whileV np cs s) = step at h
  have hns : whileV step s ≠ .stuck := fun e => by rw [e] at h; exact h
  obtain ⟨k0, hk0⟩ := whN_of (whileV_rel hns)
  generalize whileV step s = o at h hk0
  refine ⟨fun m σ' H' => ∃ Mc sc Lc, StS M H Mc H' ∧ RelL n.c P Mc sc σ' H' Lc ∧ WhN step m sc o, ⟨k0, M, s, L, StS.refl R.dom, R, hk0⟩, ?_⟩
  rintro m σc Hc ⟨Mc, sc, Lc, stc, Rc, hk⟩
  refine hc W tk Mc _ σc Hc _ Rc.view ?_
  have key : ∀ {x}, step sc = x → x = toStep sc ((evalE G tc (viewS sc)).bind vTru) fun s => execs G whileV np cs s := fun {x} e => by rw [← e, ← hst]
  cases he : (evalE G tc (viewS sc)).bind vTru with
  | stuck =>
    cases hk with
    | stop e => have := key e; rw [he] at this; simp [toStep] at this; subst this; exact h
    | more e _ => have := key e; rw [he] at this; simp [toStep] at this
  | ex c ds =>
    cases hk with
    | stop e =>
      have := key e
      rw [he] at this
      simp [toStep] at this
      subst this
      exact h Mc Hc σc Lc stc Rc.pex
    | more e _ => have := key e; rw [he] at this; simp [toStep] at this
  | ok r =>
    intro M1 H1 s1
    have R1 := Rc.step s1
    have st1 := stc.trans (s1.toS Rc.dom)
    cases r with
    | false =>
      cases hk with
      | stop e =>
        have := key e
        rw [he] at this
        simp [toStep] at this
        subst this
        exact h M1 H1 σc Lc st1 R1
      | more e _ => have := key e; rw [he] at this; simp [toStep] at this
    | true =>
      rw [if_pos rfl]
      refine ⟨fun σ' H' => ∃ m', m' < m ∧ ∃ Mc sc Lc, StS M H Mc H' ∧ RelL n.c P Mc sc σ' H' Lc ∧ WhN step m' sc o, fun σ' H' q => q, ?_⟩
      refine hb W tk P hP M1 sc σc H1 Lc _ R1 ?_
      cases hx : execs G whileV np cs sc with
      | stuck =>
        cases hk with
        | stop e => have := key e; rw [he] at this; simp [toStep, hx] at this; subst this; exact h
        | more e _ => have := key e; rw [he] at this; simp [toStep, hx] at this
      | nx sn =>
        cases hk with
        | stop e => have := key e; rw [he] at this; simp [toStep, hx] at this
        | @more k s0 s' o0 e hk =>
          have := key e
          rw [he] at this
          simp [toStep, hx] at this
          subst this
          exact fun M' H' σ' L' st' R' => ⟨k, Nat.lt_succ_self _, M', _, L', st1.trans st', R', hk⟩
      | ct sn =>
        cases hk with
        | stop e => have := key e; rw [he] at this; simp [toStep, hx] at this
        | @more k s0 s' o0 e hk =>
          have := key e
          rw [he] at this
          simp [toStep, hx] at this
          subst this
          exact fun M' H' σ' L' st' R' => ⟨k, Nat.lt_succ_self _, M', _, L', st1.trans st', R', hk⟩
      | bk sn =>
        cases hk with
        | stop e => have := key e; rw [he] at this; simp [toStep, hx] at this; subst this; exact fun M' H' σ' L' st' R' => h M' H' σ' L' (st1.trans st') R'
        | more e _ => have := key e; rw [he] at this; simp [toStep, hx] at this
      | rt d sn =>
        cases hk with
        | stop e => have := key e; rw [he] at this; simp [toStep, hx] at this; subst this; exact fun M' H' σ' L' v l hcl st' R' => h M' H' σ' L' v l hcl (st1.trans st') R'
        | more e _ => have := key e; rw [he] at this; simp [toStep, hx] at this
      | ex c xs sn =>
        cases hk with
        | stop e => have := key e; rw [he] at this; simp [toStep, hx] at this; subst this; exact fun M' H' σ' L' st' R' => h M' H' σ' L' (st1.trans st') R'
        | more e _ => have := key e; rw [he] at this; simp [toStep, hx] at this
end
end GS

namespace GS
open PySem PySem.Spec PyProof.Rows L2

section
variable {n : Env'} {G : GE} {X : Cx} {W : WX} {M M0 M1 M' : MM} {H H0 H1 H' : Hp} {s : Sl} {σ : L2.St} {P : Nat → Option V} {L : Nat → List Addr} {np : Nat} {Dd : Ends}

/-! ## stores -/
/-- a slot's own thing changed in its place -/
theorem RelL.store {i : Nat} {d d' : D} {a : Addr} {u : HO} {l' : List Addr} (R : RelL n.c P M s σ H L) (hi : s[i]? = some (some d)) (hv : σ[i]? = some (some (.ref a))) (ha : a ∈ L i) (hr : Rep n.c M (upd H a u) d' (.ref a) l') (nd : l'.Nodup)
    (hs : ∀ b ∈ l', b ∈ L i ∨ ∀ j, b ∉ L j) (ho : d'.md = .own) : RelL n.c P M (s.set i (some d')) σ (upd H a u) (fun j => if j = i then l' else L j) := by
  have hlen : i < s.length := (List.getElem?_eq_some_iff.mp hi).1
  have hown := (R.ow i a ha).1
  refine ⟨by simp [R.len], fun b hb => ?_, fun j x e => ?_, fun j => ?_, fun j k b h1 h2 => ?_, fun j b h => ?_, fun j w e => ?_⟩
  · by_cases z : b = a
    · rw [z, upd_same]; simp
    · rw [upd_ne z]; exact R.dom b hb
  · by_cases hj : j = i
    · subst hj
      rw [List.getElem?_set_self hlen] at e
      cases e
      rw [if_pos rfl]
      exact ⟨_, hv, hr, by rw [ho]; simp⟩
    · rw [List.getElem?_set_ne (Ne.symm hj)] at e
      obtain ⟨v, e1, r, hm⟩ := R.at_ j x e
      rw [if_neg hj]
      exact ⟨v, e1, upd_keep r hm (fun z => hj (R.dj j i a z ha)) hown, hm⟩
  · split
    · exact nd
    · exact R.nd j
  · split at h1
    · next e1 =>
      split at h2
      · next e2 => rw [e1, e2]
      · next e2 =>
        rcases hs b h1 with z | z
        · exact absurd (R.dj i k b z h2) (fun q => e2 q.symm)
        · exact absurd h2 (z k)
    · next e1 =>
      split at h2
      · rcases hs b h2 with z | z
        · exact absurd (R.dj j i b h1 z) e1
        · exact absurd h1 (z j)
      · exact R.dj j k b h1 h2
  · split at h
    · exact Rep.owns d' hr b h
    · obtain ⟨h1, h2⟩ := R.ow j b h
      refine ⟨h1, ?_⟩
      by_cases z : b = a
      · rw [z, upd_same]; simp
      · rw [upd_ne z]; exact h2
  · obtain ⟨h1, x, h2, h3⟩ := R.par j w e
    by_cases hj : j = i
    · subst hj
      exact ⟨h1, d', List.getElem?_set_self hlen, ho⟩
    · exact ⟨h1, x, by rw [List.getElem?_set_ne (Ne.symm hj)]; exact h2, h3⟩
theorem stS_store {a : Addr} {u : HO} (d : Dom M H) (ho : M a = some .own) : StS M H M (upd H a u) := ⟨fun b hb hm => ⟨upd_ne fun z => hm (by rw [z]; exact ho), rfl⟩, fun b e => .inl e, fun b hb => by
  by_cases z : b = a
  · rw [z, upd_same]; simp
  · rw [upd_ne z]; exact d b hb⟩
/-- a fresh tree frozen -/
theorem RelL.frzF {K : List Addr} (R : RelL n.c P M s σ H L) (hK : ∀ a ∈ K, M a = some .own) (hd : ∀ a ∈ K, ∀ j, a ∉ L j) : RelL n.c P (frzM M K) s σ H L := ⟨R.len, R.dom.frz hK, fun i d e => let ⟨v, e1, r, hm⟩ := R.at_ i d e; ⟨v, e1, frz_other r hK fun a ha z => hd a z i ha, hm⟩, R.nd, R.dj, fun i a ha => ⟨(frzM_out fun z => hd a z i ha).trans (R.ow i a ha).1, (R.ow i a ha).2⟩, R.par⟩
/-- a value about to be stored: as it is, or frozen -/
theorem keep_it {o : Bool} {y : D} {v : V} {l : List Addr} (R : RelL n.c P M s σ H L) (r : Rep n.c M H y v l) (nd : l.Nodup) (hd : ∀ a ∈ l, ∀ j, a ∉ L j) (hc : y.cl = true) :
    ∃ M2 l2, StS M H M2 H ∧ RelL n.c P M2 s σ H L ∧ Rep n.c M2 H (kept o y) v l2 ∧ l2.Nodup ∧ (∀ a ∈ l2, ∀ j, a ∉ L j) ∧ chOk .own (kept o y).md = true := by
  have hok : ∀ {d : D}, d.cl = true → chOk .own d.md = true := fun {d} h => by rcases cl_md h with e | e <;> rw [e] <;> rfl
  cases o with
  | true => exact ⟨M, l, StS.refl R.dom, R, r, nd, hd, hok hc⟩
  | false =>
    have ow : ∀ a ∈ l, M a = some .own := fun a ha => (Rep.owns y r a ha).1
    refine ⟨frzM M l, [], stS_frz R.dom ow, R.frzF ow hd, Rep.freeze l y r (fun _ z => z) ow hc, .nil, (fun _ z => nomatch z), ?_⟩
    show chOk .own (y.own2 .fz).md = true
    rw [own2_md]
    rcases cl_md hc with e | e <;> rw [e] <;> rfl
theorem upd_at_nil {g : D → Option D} {i : Nat} (h : PostS n P W M H Dd (atSlot i [] g s)) : ∃ d d', s[i]? = some (some d) ∧ g d = some d' ∧ PostS n P W M H Dd (.nx (s.set i (some d'))) := by
  unfold atSlot at h
  split at h
  · next d e =>
    split at h
    · next d' e' => exact ⟨d, d', e, by unfold updAt at e'; exact e', h⟩
    · exact False.elim h
  · exact False.elim h
theorem consO_own {a : Addr} {l : List Addr} : consO .own a l = a :: l := rfl
/-- an own list at a slot -/
theorem lst_at {i : Nat} {ds : List D} (R : RelL n.c P M s σ H L) (hi : s[i]? = some (some (.lst .own ds))) : ∃ a vs l, σ[i]? = some (some (.ref a)) ∧ H a = some (.lst vs) ∧ M a = some .own ∧ Reps n.c M H .own ds vs l ∧ L i = a :: l ∧ a ∉ l ∧ l.Nodup := by
  obtain ⟨v, e1, r, _⟩ := R.at_ i _ hi
  obtain ⟨a, vs, l, rfl, nx, rr, el⟩ := r
  have el : L i = a :: l := el
  have nd := R.nd i
  rw [el] at nd
  rcases nx with nx | nx
  · exact ⟨a, vs, l, e1, nx.2, nx.1, rr, el, (List.nodup_cons.mp nd).1, (List.nodup_cons.mp nd).2⟩
  · cases nx.1
theorem dic_at {i : Nat} {ks : List Key} {ds : List D} (R : RelL n.c P M s σ H L) (hi : s[i]? = some (some (.dic .own ks ds))) : ∃ a kvs l, σ[i]? = some (some (.ref a)) ∧ H a = some (.dK kvs) ∧ M a = some .own ∧ kvs.map (·.1) = ks ∧ Reps n.c M H .own ds (kvs.map (·.2)) l ∧ L i = a :: l ∧ a ∉ l ∧ l.Nodup := by
  obtain ⟨v, e1, r, _⟩ := R.at_ i _ hi
  obtain ⟨a, kvs, l, rfl, nx, ek, rr, el⟩ := r
  have el : L i = a :: l := el
  have nd := R.nd i
  rw [el] at nd
  exact ⟨a, kvs, l, e1, nx.2.2 rfl, nx.1, ek, rr, el, (List.nodup_cons.mp nd).1, (List.nodup_cons.mp nd).2⟩
theorem ins_at {i : Nat} {c : Nat} {fs : List Nat} {ds : List D} (R : RelL n.c P M s σ H L) (hi : s[i]? = some (some (.ins .own c fs ds))) : ∃ a dx fvs l, σ[i]? = some (some (.ref a)) ∧ H a = some (.ins (n.c.ca c) dx fvs) ∧ M a = some .own ∧ fvs.map (·.1) = fs.map n.c.an ∧ Reps n.c M H .own ds (fvs.map (·.2)) l ∧ L i = a :: l ∧ a ∉ l ∧ l.Nodup := by
  obtain ⟨v, e1, r, _⟩ := R.at_ i _ hi
  obtain ⟨a, dx, fvs, l, rfl, nx, ek, rr, el⟩ := r
  have el : L i = a :: l := el
  have nd := R.nd i
  rw [el] at nd
  exact ⟨a, dx, fvs, l, e1, nx.2, nx.1, ek, rr, el, (List.nodup_cons.mp nd).1, (List.nodup_cons.mp nd).2⟩
theorem Reps.one {p : Md} {d : D} {v : V} {l : List Addr} (r : Rep n.c M H d v l) (h : chOk p d.md = true) : Reps n.c M H p [d] [v] l := ⟨v, [], l, [], rfl, h, r, ⟨rfl, rfl⟩, by simp⟩

theorem hasLst {i : Nat} (h : hasAt i [] isLstO s = true) : ∃ ds, s[i]? = some (some (.lst .own ds)) := by
  unfold hasAt at h
  split at h
  · next d e =>
    unfold updAt at h
    split at h
    · next hk =>
      unfold isLstO at hk
      split at hk
      · exact ⟨_, e⟩
      · cases hk
    · cases h
  · cases h

/-! ### x.append(y), x.extend(y), x.clear() -/
theorem sc_app (F : FS n G X) {o : Bool} {i : Nat} {x : Str} {e : Expr} {t : Tm} {p apos cpos pos : Pos} (hN : X.N[i]? = some x) (hv : Vis X.env.scope x) (hdb : (x == ("__debug__" : Str)) = false) (hcd : (x == ("__classdict__" : Str)) = false) (he : SE n G X e t) (oe : okE e = true) (hline : (apos.endLine == cpos.line) = true) :
    SC n G X np (.Expr (.Call (.Attribute (.Name x p) "append" apos) [e] [] cpos) pos) (.app o i [] t) := by
  intro W tk P hP M s σ H L De R h
  unfold exec evalSt at h
  simp only [Out.ofRes_ok] at h
  refine ⟨_, ps_expr (pe_bm PySem.F.plainAttrs_list PySem.F.slot_list_append PySem.F.type_list_append mt_append (pe_var hN hv hdb hcd) (pa_cons we pa_nil (okE_star oe _ _)) rfl (by rw [okE_star oe]; rfl) hline (okE_star oe _ _) rfl) rfl, ?_⟩
  split at h
  · next hl =>
    obtain ⟨ds, hs⟩ := hasLst hl
    obtain ⟨a, vs, l, e1, ha, hm, rr, el, hna, nd⟩ := lst_at R hs
    refine ⟨.ref a, e1, .inl ⟨rfl, vs, .inl (.inl ha)⟩, ?_⟩
    refine he W tk M _ σ H _ R.view ((post_res R h).imp (fun y ey hy v M1 H1 l1 s1 r f nd1 => ?_) fun _ _ q => q)
    split at hy
    · next hc =>
      obtain ⟨d, d', hs', hg, hy⟩ := upd_at_nil hy
      rw [hs] at hs'
      cases hs'
      unfold gApp at hg
      dsimp only at hg
      split at hg
      · next hlen =>
        cases hg
        have R1 := R.step s1
        obtain ⟨M2, l2, st2, R2, r2, nd2, fr2, ck⟩ := keep_it (o := o) R1 r nd1 (fresh_L R f) hc
        obtain ⟨a', vs', l', e1', ha', hm', rr', el', hna', nd'⟩ := lst_at R2 hs
        rw [e1] at e1'
        cases e1'
        rw [el] at el'
        cases el'
        have hv : vs = vs' := by
          have := (s1.k a (by rw [ha]; simp)).1
          rw [ha, ha'] at this
          cases this; rfl
        subst hv
        have hl2 : ∀ b ∈ l, b ∉ l2 := fun b hb z => fr2 b z i (by rw [el]; simp [hb])
        have ha2 : a ∉ l2 := fun z => fr2 a z i (by rw [el]; simp)
        have rr2 : Reps n.c M2 (upd H1 a (.lst (vs ++ [v]))) .own (ds ++ [kept o y]) (vs ++ [v]) (l ++ l2) := upd_keeps (rr'.append (Reps.one r2 ck)) (by simp) (fun z => (List.mem_append.mp z).elim hna ha2) hm'
        refine ⟨a, vs, v, rfl, rfl, ha', by rw [rr.len]; exact hlen, ?_⟩
        refine hy M2 _ σ _ ((s1.toS R.dom).trans (st2.trans (stS_store R2.dom hm'))) (R2.store hs e1 (by rw [el]; simp) (l' := a :: (l ++ l2)) ⟨a, _, l ++ l2, rfl, .inl ⟨hm', upd_same⟩, rr2, rfl⟩ (List.nodup_cons.mpr ⟨fun z => (List.mem_append.mp z).elim hna ha2, List.nodup_append.mpr ⟨nd, nd2, fun b hb c hc e => hl2 b hb (by rw [e]; exact hc)⟩⟩) (fun b hb => ?_) rfl)
        rcases List.mem_cons.mp hb with z | z
        · exact .inl (by rw [el, z]; simp)
        · rcases List.mem_append.mp z with z | z
          · exact .inl (by rw [el]; simp [z])
          · exact .inr (fr2 b z)
      · cases hg
    · exact False.elim hy
  · exact False.elim h
theorem sc_ext (F : FS n G X) {i : Nat} {x : Str} {e : Expr} {t : Tm} {p apos cpos pos : Pos} (hN : X.N[i]? = some x) (hv : Vis X.env.scope x) (hdb : (x == ("__debug__" : Str)) = false) (hcd : (x == ("__classdict__" : Str)) = false) (he : SE n G X e t) (oe : okE e = true) (hline : (apos.endLine == cpos.line) = true) :
    SC n G X np (.Expr (.Call (.Attribute (.Name x p) "extend" apos) [e] [] cpos) pos) (.ext i [] t) := by
  intro W tk P hP M s σ H L De R h
  unfold exec evalSt at h
  simp only [Out.ofRes_ok] at h
  refine ⟨_, ps_expr (pe_bm PySem.F.plainAttrs_list PySem.F.slot_list_extend PySem.F.type_list_extend mt_extend (pe_var hN hv hdb hcd) (pa_cons we pa_nil (okE_star oe _ _)) rfl (by rw [okE_star oe]; rfl) hline (okE_star oe _ _) rfl) rfl, ?_⟩
  split at h
  · next hl =>
    obtain ⟨ds, hs⟩ := hasLst hl
    obtain ⟨a, vs, l, e1, ha, hm, rr, el, hna, nd⟩ := lst_at R hs
    refine ⟨.ref a, e1, .inl ⟨rfl, vs, .inl (.inl ha)⟩, ?_⟩
    refine he W tk M _ σ H _ R.view ((post_res R h).imp (fun y ey hy v M1 H1 l1 s1 r f nd1 => ?_) fun _ _ q => q)
    split at hy
    · next m es =>
      split at hy
      · next hc =>
        simp only [Bool.and_eq_true, Bool.not_eq_true', decide_eq_false_iff_not] at hc
        obtain ⟨d, d', hs', hg, hy⟩ := upd_at_nil hy
        rw [hs] at hs'
        cases hs'
        unfold gExt at hg
        dsimp only at hg
        split at hg
        · next hlen =>
          cases hg
          have R1 := R.step s1
          obtain ⟨b, us, lb, rfl, nx, rb, elb⟩ := r
          have own : ∀ q ∈ lb, M1 q = some .own := fun q hq => (Reps.owns es rb q hq).1
          have hsub : ∀ q ∈ lb, q ∈ l1 := fun q hq => by rw [elb]; exact mem_consO.mpr (.inr hq)
          have R2 := R1.frzF own fun q hq => fresh_L R f q (hsub q hq)
          have rb2 := Reps.frz (L := lb) rb hc.1.1 (fun _ z => z) own
          obtain ⟨a', vs', l', e1', ha', hm', rr', el', hna', nd'⟩ := lst_at R2 hs
          rw [e1] at e1'
          cases e1'
          rw [el] at el'
          cases el'
          have hv : vs = vs' := by
            have := (s1.k a (by rw [ha]; simp)).1
            rw [ha, ha'] at this
            cases this; rfl
          subst hv
          have hb : H1 b = some (.lst us) := by
            rcases nx with nx | nx
            · exact nx.2
            · exact absurd nx.1 hc.2
          have rr2 : Reps n.c (frzM M1 lb) (upd H1 a (.lst (vs ++ us))) .own (ds ++ D.own2s .fz es) (vs ++ us) (l ++ []) := upd_keeps (rr'.append rb2.under) (by simp) (fun z => hna (by simpa using z)) hm'
          rw [List.append_nil] at rr2
          rw [own2s_len] at hlen
          refine ⟨a, b, vs, us, rfl, rfl, ha', hb, by rw [rr.len, rb.len]; exact hlen, ?_⟩
          exact hy _ _ σ _ ((s1.toS R.dom).trans ((stS_frz s1.d own).trans (stS_store R2.dom hm'))) (R2.store hs e1 (by rw [el]; simp) (l' := a :: l) ⟨a, _, l, rfl, .inl ⟨hm', upd_same⟩, rr2, rfl⟩ (List.nodup_cons.mpr ⟨hna, nd⟩) (fun c hc => .inl (by rw [el]; exact hc)) rfl)
        · cases hg
      · exact False.elim hy
    · exact False.elim hy
  · exact False.elim h
theorem sc_clr (F : FS n G X) {i : Nat} {x : Str} {p apos cpos pos : Pos} (hN : X.N[i]? = some x) (hv : Vis X.env.scope x) (hdb : (x == ("__debug__" : Str)) = false) (hcd : (x == ("__classdict__" : Str)) = false) (hline : (apos.endLine == cpos.line) = true) :
    SC n G X np (.Expr (.Call (.Attribute (.Name x p) "clear" apos) [] [] cpos) pos) (.clr i []) := by
  intro W tk P hP M s σ H L De R h
  unfold exec evalSt at h
  simp only [Out.ofRes_ok] at h
  obtain ⟨d, d', hs, hg, h⟩ := upd_at_nil h
  unfold gClr at hg
  split at hg
  · next ds =>
    cases hg
    obtain ⟨a, vs, l, e1, ha, hm, rr, el, hna, nd⟩ := lst_at R hs
    refine ⟨_, ps_expr (pe_bm0 PySem.F.plainAttrs_list PySem.F.slot_list_clear PySem.F.type_list_clear mt_clear (pe_var hN hv hdb hcd) rfl hline) rfl, .ref a, e1, .inl ⟨rfl, vs, .inl (.inl ha)⟩, a, vs, rfl, rfl, ha, ?_⟩
    exact h M _ σ _ (stS_store R.dom hm) (R.store hs e1 (by rw [el]; simp) (l' := [a]) ⟨a, [], [], rfl, .inl ⟨hm, upd_same⟩, ⟨rfl, rfl⟩, rfl⟩ (by simp) (fun b hb => .inl (by rw [el]; simp at hb; simp [hb])) rfl)
  · next ks ds =>
    cases hg
    obtain ⟨a, kvs, l, e1, ha, hm, ek, rr, el, hna, nd⟩ := dic_at R hs
    refine ⟨_, ps_expr (pe_bm0 PySem.F.plainAttrs_dict PySem.F.slot_dict_clear PySem.F.type_dict_clear mtd_clear (pe_var hN hv hdb hcd) rfl hline) rfl, .ref a, e1, .inr (.inr (.inl ⟨rfl, .inl ⟨kvs, ha⟩⟩)), ?_⟩
    have fin := h M _ σ _ (stS_store (u := .dK []) R.dom hm) (R.store hs e1 (by rw [el]; simp) (l' := [a]) ⟨a, [], [], rfl, ⟨hm, .inl upd_same, fun _ => upd_same⟩, rfl, ⟨rfl, rfl⟩, rfl⟩ (by simp) (fun b hb => .inl (by rw [el]; simp at hb; simp [hb])) rfl)
    exact ⟨a, kvs, rfl, rfl, ha, fin⟩
  · cases hg
end
end GS

namespace GS
open PySem PySem.Spec PyProof.Rows L2

section
variable {n : Env'} {G : GE} {X : Cx} {W : WX} {M M0 M1 M' : MM} {H H0 H1 H' : Hp} {s : Sl} {σ : L2.St} {P : Nat → Option V} {L : Nat → List Addr} {np : Nat} {Dd : Ends}

/-! ## parts replaced -/
/-- own lists where one part is replaced -/
def Swp (l ly l' : List Addr) : Prop := ∃ pre lk post, l = pre ++ lk ++ post ∧ l' = pre ++ ly ++ post
theorem Swp.nd {l ly l' : List Addr} (h : Swp l ly l') (n1 : l.Nodup) (n2 : ly.Nodup) (hd : ∀ a ∈ ly, a ∉ l) : l'.Nodup := by
  obtain ⟨pre, lk, post, rfl, rfl⟩ := h
  obtain ⟨x1, x2, x3⟩ := List.nodup_append.mp n1
  obtain ⟨y1, y2, y3⟩ := List.nodup_append.mp x1
  refine List.nodup_append.mpr ⟨List.nodup_append.mpr ⟨y1, n2, fun a ha b hb e => hd b hb (by rw [← e]; simp [ha])⟩, x2, fun a ha b hb e => ?_⟩
  rcases List.mem_append.mp ha with z | z
  · exact x3 a (by simp [z]) b hb e
  · exact hd a z (by rw [e]; simp [hb])
theorem Swp.mem {l ly l' : List Addr} (h : Swp l ly l') {a : Addr} (ha : a ∈ l') : a ∈ l ∨ a ∈ ly := by
  obtain ⟨pre, lk, post, rfl, rfl⟩ := h
  simp only [List.mem_append] at ha ⊢
  rcases ha with (z | z) | z
  · exact .inl (.inl (.inl z))
  · exact .inr z
  · exact .inl (.inr z)
theorem Swp.cons {l ly l' l1 : List Addr} (h : Swp l ly l') : Swp (l1 ++ l) ly (l1 ++ l') := by
  obtain ⟨pre, lk, post, rfl, rfl⟩ := h
  exact ⟨l1 ++ pre, lk, post, by simp, by simp⟩
theorem reps_set {p : Md} {y : D} {v : V} {ly : List Addr} (ry : Rep n.c M H y v ly) (ck : chOk p y.md = true) : ∀ {ds : List D} {vs : List V} {l : List Addr} {j : Nat}, Reps n.c M H p ds vs l → j < ds.length → ∃ l', Reps n.c M H p (ds.set j y) (vs.set j v) l' ∧ Swp l ly l'
  | [], _, _, _, _, h => absurd h (Nat.not_lt_zero _)
  | d :: ds, vs, l, 0, r, _ => by
    obtain ⟨w, vs', l1, l2, rfl, c1, r1, r2, rfl⟩ := r
    exact ⟨ly ++ l2, ⟨v, vs', ly, l2, rfl, ck, ry, r2, rfl⟩, [], l1, l2, rfl, rfl⟩
  | d :: ds, vs, l, j + 1, r, h => by
    obtain ⟨w, vs', l1, l2, rfl, c1, r1, r2, rfl⟩ := r
    obtain ⟨l', h1, h2⟩ := reps_set ry ck r2 (by simpa using h)
    exact ⟨l1 ++ l', ⟨w, vs'.set j v, l1, l', rfl, c1, r1, h1, rfl⟩, h2.cons⟩
theorem reps_key {p : Md} {y : D} {v : V} {ly : List Addr} (ry : Rep n.c M H y v ly) (ck : chOk p y.md = true) {k : Key} : ∀ {ks : List Key} {ds : List D} {kvs : List (Key × V)} {l : List Addr}, kvs.map (·.1) = ks → ks.Nodup → Reps n.c M H p ds (kvs.map (·.2)) l → (ks.any fun q => decide (q = k)) = true →
    ∃ l', Reps n.c M H p (setKey k y ks ds) ((kvs.map fun kv => if kv.1 = k then (kv.1, v) else kv).map (·.2)) l' ∧ Swp l ly l'
  | [], _, _, _, _, _, _, h => by cases h
  | q :: ks, ds, [], l, e, _, _, _ => by simp at e
  | q :: ks, [], kv :: kvs, l, e, nd, r, h => by
    have := r.1
    simp at this
  | q :: ks, d :: ds, kv :: kvs, l, e, nd, r, h => by
    simp only [List.map_cons, List.cons.injEq] at e
    obtain ⟨w, vs', l1, l2, ev, c1, r1, r2, rfl⟩ := r
    simp only [List.map_cons, List.cons.injEq] at ev
    obtain ⟨rfl, rfl⟩ := ev
    obtain ⟨n1, n2⟩ := List.nodup_cons.mp nd
    unfold setKey
    by_cases hq : q = k
    · rw [if_pos hq]
      have rest : ∀ {ks : List Key} {kvs : List (Key × V)}, kvs.map (·.1) = ks → k ∉ ks → (kvs.map fun kv => if kv.1 = k then (kv.1, v) else kv) = kvs := fun {ks kvs} e hk => by
        induction kvs generalizing ks with
        | nil => rfl
        | cons a as ih =>
          subst e
          simp only [List.map_cons, List.mem_cons, not_or] at hk ⊢
          rw [if_neg fun z => hk.1 z.symm, ih rfl hk.2]
      refine ⟨ly ++ l2, ⟨v, kvs.map (·.2), ly, l2, ?_, ck, ry, r2, rfl⟩, [], l1, l2, rfl, rfl⟩
      rw [List.map_cons, List.map_cons, if_pos (by rw [e.1]; exact hq), rest e.2 (by rw [← hq]; exact n1)]
    · rw [if_neg hq]
      rw [List.any_cons, Bool.or_eq_true] at h
      have h := h.resolve_left (by simp [hq])
      obtain ⟨l', h1, h2⟩ := reps_key ry ck e.2 n2 r2 h
      refine ⟨l1 ++ l', ⟨kv.2, _, l1, l', ?_, c1, r1, h1, rfl⟩, h2.cons⟩
      rw [List.map_cons, List.map_cons, if_neg (by rw [e.1]; exact hq)]
theorem reps_fld {p : Md} {an : Nat → Str} (inj : ∀ f g, an f = an g → f = g) {y : D} {v : V} {ly : List Addr} (ry : Rep n.c M H y v ly) (ck : chOk p y.md = true) {f : Nat} : ∀ {fs : List Nat} {ds : List D} {fvs : List (Str × V)} {l : List Addr}, fvs.map (·.1) = fs.map an → Reps n.c M H p ds (fvs.map (·.2)) l → (fs.any fun q => decide (q = f)) = true →
    ∃ l', Reps n.c M H p (setFld f y fs ds) ((putF (an f) v fvs).map (·.2)) l' ∧ (putF (an f) v fvs).map (·.1) = fs.map an ∧ Swp l ly l'
  | [], _, _, _, _, _, h => by cases h
  | q :: fs, ds, [], l, e, _, _ => by simp at e
  | q :: fs, [], kv :: kvs, l, e, r, h => by
    have := r.1
    simp at this
  | q :: fs, d :: ds, (g, x) :: fvs, l, e, r, h => by
    simp only [List.map_cons, List.cons.injEq] at e
    obtain ⟨w, vs', l1, l2, ev, c1, r1, r2, rfl⟩ := r
    simp only [List.map_cons, List.cons.injEq] at ev
    obtain ⟨rfl, rfl⟩ := ev
    unfold setFld putF
    by_cases hq : q = f
    · subst hq
      rw [if_pos rfl, if_pos e.1]
      exact ⟨ly ++ l2, ⟨v, fvs.map (·.2), ly, l2, rfl, ck, ry, r2, rfl⟩, by simp [e.1, e.2], [], l1, l2, rfl, rfl⟩
    · rw [if_neg hq, if_neg fun z => hq (inj _ _ (e.1.symm.trans z))]
      rw [List.any_cons, Bool.or_eq_true] at h
      have h := h.resolve_left (by simp [hq])
      obtain ⟨l', h1, h2, h3⟩ := reps_fld inj ry ck e.2 r2 h
      exact ⟨l1 ++ l', ⟨x, _, l1, l', rfl, c1, r1, h1, rfl⟩, by simp [e.1, h2], h3.cons⟩
theorem putF_new {an : Nat → Str} (inj : ∀ f g, an f = an g → f = g) {v : V} {f : Nat} : ∀ {fs : List Nat} {fvs : List (Str × V)}, fvs.map (·.1) = fs.map an → (fs.any fun q => decide (q = f)) = false → putF (an f) v fvs = fvs ++ [(an f, v)]
  | [], fvs, e, _ => by
    have : fvs = [] := by simpa using e
    rw [this]; rfl
  | q :: fs, [], e, _ => by simp at e
  | q :: fs, (g, x) :: fvs, e, h => by
    simp only [List.map_cons, List.cons.injEq] at e
    rw [List.any_cons, Bool.or_eq_false_iff] at h
    unfold putF
    rw [if_neg fun z => of_decide_eq_false h.1 (inj _ _ (e.1.symm.trans z)), putF_new inj e.2 h.2]
    rfl

/-! ### x[i] = y -/
/-- dicts' keys differ -/
theorem ps_nd {st : Stmt} {t : TS} (h : PS X st t) : PS X st (fun D σ H => (∀ a kvs, H a = some (.dK kvs) → (kvs.map (·.1)).Nodup) → t D σ H) := by
  refine ⟨fun pins s σ H D I hw => h.run pins s σ H D I (hw fun a kvs e => ?_)⟩
  obtain ⟨_, _, vs, kv, hd⟩ := dk_of I.hok e
  obtain ⟨o, es, ep, _, _, _, _, _, nd⟩ := hd
  rw [KV.keys kv]
  exact nd
theorem assign_sub {o i : Expr} {pos : Pos} {env : Env} (h : okE i = true) (v : Value) : assign (.Subscript o i pos) env v = (do
      let ov ← holding [v] (eval o env)
      let iv ← holding [v, ov] (eval i env)
      standAt pos
      holding [v, ov, iv] (setItem ov iv v)
      release [v, ov, iv] []) := by
  cases i <;> first | (cases h; done) | rfl
theorem ixN_lt {k : Nat} {i : Int} {j : Nat} (h : ixN k i = some j) : j < k := by
  unfold ixN at h
  split at h <;> first | (split at h <;> first | (cases h; omega) | cases h) | (cases h; omega) | cases h
theorem sc_put (F : FS n G X) {o : Bool} {i : Nat} {x : Str} {ie e : Expr} {ti t : Tm} {p spos pos : Pos} (hN : X.N[i]? = some x) (hv : Vis X.env.scope x) (hdb : (x == ("__debug__" : Str)) = false) (hcd : (x == ("__classdict__" : Str)) = false) (hi : SE n G X ie ti) (he : SE n G X e t) (oi : okE ie = true)
    (hs : swapsWith e (some (.Subscript (.Name x p) ie spos)) pos.line X.env = pure false) (hw : swappedStores [.Subscript (.Name x p) ie spos] e X.env = pure none) :
    SC n G X np (.Assign [.Subscript (.Name x p) ie spos] e pos) (.put o i [] ti t) := by
  intro W tk P hP M s σ H L De R h
  unfold exec evalSt at h
  simp only [Out.ofRes_ok] at h
  by_cases hd : ∃ ks ds, s[i]? = some (some (.dic .own ks ds))
  · obtain ⟨ks, ds, hd⟩ := hd
    obtain ⟨a, kvs, l, e1, ha, hm, ek, rr, el, hna, nd⟩ := dic_at R hd
    refine ⟨_, ps_nd (ps_dput F.hu1 (pe_var hN hv hdb hcd) we we hs), fun hnd => ?_⟩
    have hnd := hnd a kvs ha
    rw [ek] at hnd
    refine he W tk M _ σ H _ R.view ((post_res R h).imp (fun y ey hy v M1 H1 l1 s1 r f nd1 => ?_) fun _ _ q => q)
    refine ⟨.ref a, e1, ?_⟩
    have R1 := R.step s1
    split at hy
    rotate_left
    · exact False.elim hy
    refine hi W tk M1 _ σ H1 _ R1.view ((post_res R1 (PostS.mono hy (s1.toS R.dom))).imp (fun k ekk hk u M2 H2 l2 s2 r2 f2 n2 => ?_) fun _ _ q => q)
    split at hk
    · next hc =>
      obtain ⟨d, d', hs', hg, hk⟩ := upd_at_nil hk
      rw [hd] at hs'
      cases hs'
      have R2 := R1.step s2
      have r' := r.step s1.d s2
      obtain ⟨M3, l3, st3, R3, r3, nd3, fr3, ck⟩ := keep_it (o := o) R2 r' nd1 (fresh_L R f) hc
      obtain ⟨a', kvs', l', e1', ha', hm', ek', rr', el', hna', nd'⟩ := dic_at R3 hd
      rw [e1] at e1'
      cases e1'
      rw [el] at el'
      cases el'
      have hv : kvs = kvs' := by
        have h1 := (s1.k a (by rw [ha]; simp)).1
        have h2 := (s2.k a (by rw [h1, ha]; simp)).1
        rw [h2, h1, ha] at ha'
        cases ha'; rfl
      subst hv
      unfold gPut at hg
      dsimp only at hg
      obtain ⟨q, hq, hg⟩ := Option.bind_eq_some_iff.mp hg
      have hu := rep_key r2 hq
      have stx : StS M1 H1 M3 H2 := (s2.toS s1.d).trans st3
      have fin : ∀ (d' : D) (kvs2 : List (Key × V)) (l4 : List Addr), Rep n.c M3 (upd H2 a (.dK kvs2)) d' (.ref a) (a :: l4) → l4.Nodup → a ∉ l4 → (∀ b ∈ l4, b ∈ l ∨ b ∈ l3) → d'.md = .own → PostS n P W M1 H1 De (.nx (s.set i (some d'))) → De.nx σ (upd H2 a (.dK kvs2)) := fun d' kvs2 l4 hr hn hna4 hsub ho hk => by
        refine hk M3 _ σ _ (stx.trans (stS_store R3.dom hm')) (R3.store hd e1 (by rw [el]; simp) hr (List.nodup_cons.mpr ⟨hna4, hn⟩) (fun b hb => ?_) ho)
        rcases List.mem_cons.mp hb with z | z
        · exact .inl (by rw [el, z]; simp)
        · rcases hsub b z with z | z
          · exact .inl (by rw [el]; simp [z])
          · exact .inr (fr3 b z)
      have hdl : ∀ b ∈ l3, b ∉ l := fun b hb z => fr3 b hb i (by rw [el]; simp [z])
      have ha3 : a ∉ l3 := fun z => fr3 a z i (by rw [el]; simp)
      have hany : (kvs.any fun kv => decide (kv.1 = q)) = ks.any fun p => decide (p = q) := by rw [← ek, List.any_map]; rfl
      have hlen : kvs.length = ks.length := by rw [← ek]; simp
      have hz : kvs.length ≤ sizeLine → kvs.length < sizeLine → DPut H2 a u v (upd H2 a (.dK (putK kvs q v))) := fun _ hl => .inl ⟨kvs, q, ha', hu, hl, rfl⟩
      split at hg
      · next hL =>
        split at hg
        · next hA =>
          cases hg
          obtain ⟨l4, h1, h2⟩ := reps_key r3 ck ek hnd rr' hA
          have hput : putK kvs q v = kvs.map fun kv => if kv.1 = q then (kv.1, v) else kv := by unfold putK; rw [if_pos (by rw [hany]; exact hA)]
          refine ⟨a, _, rfl, hz (by omega) (by omega), ?_⟩
          refine fin (.dic .own ks (setKey q (kept o y) ks ds)) _ l4 ⟨a, _, l4, rfl, ⟨hm', .inl upd_same, fun _ => upd_same⟩, ?_, ?_, rfl⟩ (h2.nd nd nd3 hdl) (fun z => (h2.mem z).elim hna ha3) (fun b hb => h2.mem hb) rfl hk
          · rw [hput, ← ek, List.map_map]
            apply List.map_congr_left
            intro kv _
            show (if kv.1 = q then (kv.1, v) else kv).1 = kv.1
            split <;> rfl
          · rw [hput]
            exact upd_keeps h1 (by simp) (fun z => (h2.mem z).elim hna ha3) hm'
        · next hA =>
          cases hg
          have hput : putK kvs q v = kvs ++ [(q, v)] := by unfold putK; rw [if_neg (by rw [hany]; exact hA)]
          refine ⟨a, _, rfl, hz (by omega) (by omega), ?_⟩
          refine fin (.dic .own (ks ++ [q]) (ds ++ [kept o y])) _ (l ++ l3) ⟨a, _, l ++ l3, rfl, ⟨hm', .inl upd_same, fun _ => upd_same⟩, ?_, ?_, rfl⟩ (List.nodup_append.mpr ⟨nd, nd3, fun b hb c hc e => hdl c hc (by rw [← e]; exact hb)⟩) (fun z => (List.mem_append.mp z).elim hna ha3) (fun b hb => List.mem_append.mp hb) rfl hk
          · rw [hput, ← ek]; simp
          · rw [hput, List.map_append]
            exact upd_keeps (rr'.append (Reps.one r3 ck)) (by simp) (fun z => (List.mem_append.mp z).elim hna ha3) hm'
      · cases hg
    · exact False.elim hk
  · refine ⟨_, ps_asg we (pg_sub (pe_var hN hv hdb hcd) we set_list (assign_sub oi)) hs hw rfl, ?_⟩
    refine he W tk M _ σ H _ R.view ((post_res R h).imp (fun y ey hy v M1 H1 l1 s1 r f nd1 => ?_) fun _ _ q => q)
    have R1 := R.step s1
    split at hy
    rotate_left
    · exact False.elim hy
    next hh =>
    obtain ⟨d0, hs0⟩ : ∃ d0, s[i]? = some (some d0) := by
      unfold hasAt at hh
      split at hh
      · next d e => exact ⟨d, e⟩
      · cases hh
    obtain ⟨v0, e0, r0, _⟩ := R.at_ i d0 hs0
    refine ⟨v0, e0, ?_⟩
    refine hi W tk M1 _ σ H1 _ R1.view ((post_res R1 (PostS.mono hy (s1.toS R.dom))).imp (fun k ekk hk u M2 H2 l2 s2 r2 f2 n2 => ?_) fun _ _ q => q)
    split at hk
    · next hc =>
      obtain ⟨d, d', hs', hg, hk⟩ := upd_at_nil hk
      cases d with
      | lst m ds =>
        cases m with
        | own =>
          obtain ⟨a, vs, l, e1, ha, hm, rr, el, hna, nd⟩ := lst_at R hs'
          rw [e0] at e1
          cases e1
          have R2 := R1.step s2
          have r' := r.step s1.d s2
          obtain ⟨M3, l3, st3, R3, r3, nd3, fr3, ck⟩ := keep_it (o := o) R2 r' nd1 (fresh_L R f) hc
          obtain ⟨a', vs', l', e1', ha', hm', rr', el', hna', nd'⟩ := lst_at R3 hs'
          rw [e0] at e1'
          cases e1'
          rw [el] at el'
          cases el'
          have hdl : ∀ b ∈ l3, b ∉ l := fun b hb z => fr3 b hb i (by rw [el]; simp [z])
          have ha3 : a ∉ l3 := fun z => fr3 a z i (by rw [el]; simp)
          unfold gPut at hg
          cases k with
          | int j0 =>
            dsimp only at hg
            obtain ⟨j, hj, hg⟩ := Option.map_eq_some_iff.mp hg
            subst hg
            obtain ⟨rfl, _⟩ := r2
            obtain ⟨l4, h1, h2⟩ := reps_set r3 ck rr' (ixN_lt hj)
            refine ⟨a, vs', j0, j, rfl, rfl, ha', by rw [rr'.len]; exact hj, ?_⟩
            refine hk M3 _ σ _ (((s2.toS s1.d).trans st3).trans (stS_store R3.dom hm')) (R3.store hs' e0 (by rw [el]; simp) (l' := a :: l4) ⟨a, _, l4, rfl, .inl ⟨hm', upd_same⟩, upd_keeps h1 (by simp) (fun z => (h2.mem z).elim hna ha3) hm', rfl⟩ (List.nodup_cons.mpr ⟨fun z => (h2.mem z).elim hna ha3, h2.nd nd nd3 hdl⟩) (fun b hb => ?_) rfl)
            rcases List.mem_cons.mp hb with z | z
            · exact .inl (by rw [el, z]; simp)
            · rcases h2.mem z with z | z
              · exact .inl (by rw [el]; simp [z])
              · exact .inr (fr3 b z)
          | _ => cases hg
        | _ => unfold gPut at hg; cases hg
      | dic m ks ds =>
        cases m with
        | own => exact absurd ⟨ks, ds, hs'⟩ hd
        | _ => unfold gPut at hg; cases hg
      | _ => unfold gPut at hg; cases hg
    · exact False.elim hk
end
end GS

namespace GS
open PySem PySem.Spec PyProof.Rows L2

/-! ## the checker of expressions -/
structure NT where
  fn : Nat → Str
  cn : Nat → Str
  an : Nat → Str
  gn : Nat → Str
  okf : Nat → Bool
  okc : Nat → Bool
def Env'.nt (n : Env') : NT := ⟨n.fn, n.cn, n.c.an, n.gn, n.okf, n.okc⟩
structure CT where
  nt : NT
  N : List Str
  sc : Scope
  fn : Str → Bool
def visB (sc : Scope) (x : Str) : Bool := decide (sc.names.lookup x = some .local) || decide (sc.names.lookup x = some .cell) || decide (sc.names.lookup x = some .free)
def glB (sc : Scope) (x : Str) : Bool := decide (sc.names.lookup x = some .globalImplicit)
def notSp (x : Str) : Bool := !(x == ("__debug__" : Str)) && !(x == ("__classdict__" : Str))
def cstB : D → Const → Bool
  | .int i, .int j => decide (i = j)
  | .bl i, .bool j => decide (i = j)
  | .non, .none => true
  | .str x, .str y => decide (x = y)
  | _, _ => false
def isiT (nt : NT) : Isi → Option Str
  | .int => some "int"
  | .bool => some "bool"
  | .str => some "str"
  | .list => some "list"
  | .tuple => some "tuple"
  | .dict => some "dict"
  | .cls c => if nt.okc c = true then some (nt.cn c) else none
def ownOf (N : List Str) (is : List Nat) : List (Str × Nat) := is.map fun i => ((N[i]?).getD "", i)
def lineB (apos cpos : Pos) : Bool := apos.endLine == cpos.line
def CT.blk (K : CT) (scope : Scope) : CT := ⟨K.nt, K.N, relS scope K.sc, fun x => scope.names.lookup x == some .cell⟩
mutual
def chE : Tm → Bool → CT → Expr → Bool
  | .var i, b, K, e => match e with
    | .Name x _ => decide (K.N[i]? = some x) && visB K.sc x && notSp x
    | _ => false
  | .cst d, b, K, e => match e with
    | .Constant c _ _ => cstB d c
    | _ => false
  | .glb g, b, K, e => false
  | .op o t u, b, K, e => match e with
    | .BinOp x op y _ => decide (bopOf o = op) && chE t false K x && chE u false K y
    | _ => false
  | .neg t, b, K, e => match e with
    | .UnaryOp .USub x _ => chE t false K x
    | _ => false
  | .cmp o t u, b, K, e => match e with
    | .Compare x [op] [y] _ => decide (copOf o = op) && okE y && chE t false K x && chE u false K y
    | _ => false
  | .chn o o' t u v, b, K, e => false
  | .and ts, b, K, e => match e with
    | .BoolOp .And es _ => !es.isEmpty && chEs ts b false K es
    | _ => false
  | .or ts, b, K, e => match e with
    | .BoolOp .Or es _ => !es.isEmpty && chEs ts b false K es
    | _ => false
  | .not t, b, K, e => match e with
    | .UnaryOp .Not x _ => chE t b K x
    | _ => false
  | .ife c t u, b, K, e => match e with
    | .IfExp x y z _ => !b && chE c true K x && chE t false K y && chE u false K z
    | _ => false
  | .fld t f, b, K, e => match e with
    | .Attribute o x _ => decide (x = K.nt.an f) && methForm o && chE t false K o
    | _ => false
  | .ix t u, b, K, e => match e with
    | .Subscript x y _ => okE y && chE t false K x && chE u false K y
    | _ => false
  | .slc t lo hi, b, K, e => match e with
    | .Subscript x (.Slice l h none _) _ => chE t false K x && chO lo K l && chO hi K h
    | _ => false
  | .lst ts, b, K, e => match e with
    | .List es _ => chEs ts false true K es
    | _ => false
  | .tup ts, b, K, e => match e with
    | .Tuple es _ _ => chEs ts false true K es
    | _ => false
  | .dct ks vs, b, K, e => match ks, vs, e with
    | [], [], .Dict [] [] _ => true
    | _, _, _ => false
  | .cal f ts, b, K, e => match e with
    | .Call (.Name x _) es [] _ => decide (x = K.nt.fn f) && K.nt.okf f && glB K.sc x && notSp x && !es.isEmpty && chEs ts false true K es
    | _ => false
  | .mak c ts, b, K, e => match e with
    | .Call (.Name x _) es [] _ => decide (x = K.nt.cn c) && K.nt.okc c && glB K.sc x && notSp x && chEs ts false true K es
    | _ => false
  | .met t m ts, b, K, e => match e with
    | .Call (.Attribute o mn apos) es [] pos => decide (mn = K.nt.an m) && methForm o && lineB apos pos && decide (es.length < 29) && chE t false K o && chEs ts false true K es
    | _ => false
  | .blt k ts, b, K, e => match e with
    | .Call (.Name x _) es [] _ => bltF k && decide (x = bltN k) && glB K.sc x && !es.isEmpty && chEs ts false true K es
    | _ => false
  | .bmt m t ts, b, K, e => match m, ts, e with
    | .get2, [u, v], .Call (.Attribute o mn apos) [x, y] [] pos => decide (mn = ("get" : Str)) && methForm o && lineB apos pos && okE x && okE y && chE t false K o && chE u false K x && chE v false K y
    | _, _, _ => false
  | .isi t k, b, K, e => match e with
    | .Call (.Name x _) [a, .Name y _] [] _ => decide (x = ("isinstance" : Str)) && glB K.sc x && glB K.sc y && notSp y && decide (isiT K.nt k = some y) && okE a && chE t false K a
    | _ => false
  | .cmpr t g it ifs, b, K, e => match e with
    | .ListComp elt [⟨tg, iter, es, 0⟩] scope _ => !b && blkC K.N K.sc scope (ownOf K.N (tgNames g)) && okE iter && chI it false K tg iter && tgC K.N (K.blk scope).sc (K.blk scope).fn g tg && decide (es.length ≤ 1) && chEs ifs true false (K.blk scope) es && chE t false (K.blk scope) elt
    | _ => false
def chEs : List Tm → Bool → Bool → CT → List Expr → Bool
  | [], _, _, _, es => es.isEmpty
  | t :: ts, b, o, K, es => match es with
    | e :: es => (!o || okE e) && chE t b K e && chEs ts b o K es
    | [] => false
def chO : Option Tm → CT → Option Expr → Bool
  | none, _, e => e.isNone
  | some t, K, e => match e with
    | some e => chE t false K e
    | none => false
def chI : Itr → Bool → CT → Expr → Expr → Bool
  | .rng1 t, st, K, tg, e => match e with
    | .Call (.Name x _) [a] [] _ => decide (x = ("range" : Str)) && glB K.sc x && okE a && chE t false K a
    | _ => false
  | .rng2 t u, st, K, tg, e => match e with
    | .Call (.Name x _) [a, c] [] _ => decide (x = ("range" : Str)) && glB K.sc x && okE a && okE c && chE t false K a && chE u false K c
    | _ => false
  | .seq t, st, K, tg, e => chE t false K e
  | .enm t, st, K, tg, e => match tg, e with
    | .Tuple _ _ _, .Call (.Name x _) [a] [] _ => decide (x = ("enumerate" : Str)) && glB K.sc x && okE a && chE t false K a
    | _, _ => false
  | .zip t u, st, K, tg, e => match tg, e with
    | .Tuple _ _ _, .Call (.Name x _) [a, c] [] _ => decide (x = ("zip" : Str)) && glB K.sc x && okE a && okE c && chE t false K a && chE u false K c
    | _, _ => false
  | .keys t, st, K, tg, e => chE t false K e
  | .items t, st, K, tg, e => match tg, e with
    | .Tuple _ _ _, .Call (.Attribute o mn apos) [] [] pos => decide (mn = ("items" : Str)) && methForm o && lineB apos pos && chE t false K o
    | _, _ => false
  | .vals t, st, K, tg, e => match e with
    | .Call (.Attribute o mn apos) [] [] pos => decide (mn = ("values" : Str)) && methForm o && lineB apos pos && chE t false K o
    | _ => false
  | .rev t, st, K, tg, e => match e with
    | .Call (.Name x _) [a] [] _ => decide (x = ("reversed" : Str)) && glB K.sc x && okE a && chE t false K a
    | _ => false
  | .sgn t, st, K, tg, e => chE t false K e
end

theorem All2.imp {α β : Type} {R S : α → β → Prop} {as : List α} {bs : List β} (h : All2 R as bs) (f : ∀ a b, R a b → S a b) : All2 S as bs := by
  induction h with
  | nil => exact .nil
  | cons a _ ih => exact .cons (f _ _ a) ih
section
variable {n : Env'} {G : GE}
structure CtxOk (n : Env') (G : GE) (X : Cx) (K : CT) : Prop where
  F : FC n G X
  N : X.N = K.N
  sc : X.env.scope = K.sc
  fn : X.fn = K.fn
  nt : n.nt = K.nt
theorem CtxOk.blk {X : Cx} {K : CT} (C : CtxOk n G X K) (s : Shared) (H : Hp) (scope : Scope) (A : Addr) (cl : List (Str × Addr)) (fp : List Addr) : CtxOk n G (X.blk s H scope (compEnvC scope cl A X.env) fp) (K.blk scope) :=
  ⟨C.F.blk _ _ _ _ _, C.N, by show relS scope X.env.scope = _; rw [C.sc]; rfl, rfl, C.nt⟩
theorem vis_of {sc : Scope} {x : Str} (h : visB sc x = true) : Vis sc x := by
  unfold visB at h
  simp only [Bool.or_eq_true, decide_eq_true_eq] at h
  rcases h with (h | h) | h
  · exact .inl h
  · exact .inr (.inl h)
  · exact .inr (.inr h)
theorem gl_of {X : Cx} {K : CT} {x : Str} (e : X.env.scope = K.sc) (h : glB K.sc x = true) : Gl X x := by
  unfold glB at h
  rw [decide_eq_true_eq, ← e] at h
  exact h
theorem sp_of {x : Str} (h : notSp x = true) : (x == ("__debug__" : Str)) = false ∧ (x == ("__classdict__" : Str)) = false := by
  unfold notSp at h
  simpa using h
def Done (n : Env') (G : GE) (X : Cx) (b : Bool) (e : Expr) (t : Tm) : Prop := if b = true then ST n G X e t else SE n G X e t
theorem done_plain {X : Cx} {b : Bool} {e : Expr} {t : Tm} (F : FX n X) (hp : plainT e = true) (h : SE n G X e t) : Done n G X b e t := by
  unfold Done
  cases b with
  | false => exact h
  | true => exact st_plain F hp h
theorem ownOf_snd (N : List Str) : ∀ is : List Nat, (ownOf N is).map (·.2) = is
  | [] => rfl
  | i :: is => by unfold ownOf; simp only [List.map_cons]; exact congrArg (i :: ·) (ownOf_snd N is)
theorem isi_name {n : Env'} {k : Isi} {y : Str} (h : isiT n.nt k = some y) : y = isiName n k ∧ ∀ c, k = .cls c → n.okc c = true := by
  cases k with
  | cls c =>
    have h : (if n.nt.okc c = true then some (n.nt.cn c) else none) = some y := h
    split at h
    · next hc => cases h; exact ⟨rfl, fun c' e => by cases e; exact hc⟩
    · cases h
  | _ => cases h; exact ⟨rfl, fun c e => by cases e⟩
mutual
theorem ceE : ∀ (t : Tm) (b : Bool) (K : CT) (e : Expr), chE t b K e = true → ∀ X, CtxOk n G X K → Done n G X b e t
  | .var i, b, K, e, h, X, C => by
    unfold chE at h
    split at h
    · simp only [Bool.and_eq_true, decide_eq_true_eq] at h
      obtain ⟨h1, h2⟩ := sp_of h.2
      exact done_plain C.F.toFX rfl (se_var (by rw [C.N]; exact h.1.1) (by rw [C.sc]; exact vis_of h.1.2) h1 h2)
    · cases h
  | .cst d, b, K, e, h, X, C => by
    unfold chE at h
    split at h
    · unfold cstB at h
      split at h
      · simp only [decide_eq_true_eq] at h; subst h; exact done_plain C.F.toFX rfl se_int
      · simp only [decide_eq_true_eq] at h; subst h; exact done_plain C.F.toFX rfl se_bl
      · exact done_plain C.F.toFX rfl se_non
      · simp only [decide_eq_true_eq] at h; subst h; exact done_plain C.F.toFX rfl se_str
      · cases h
    · cases h
  | .glb g, b, K, e, h, X, C => by unfold chE at h; cases h
  | .op o t u, b, K, e, h, X, C => by
    unfold chE at h
    split at h
    · simp only [Bool.and_eq_true, decide_eq_true_eq] at h
      exact done_plain C.F.toFX rfl (se_op h.1.1 (ceE t false K _ h.1.2 X C) (ceE u false K _ h.2 X C))
    · cases h
  | .neg t, b, K, e, h, X, C => by
    unfold chE at h
    split at h
    · exact done_plain C.F.toFX rfl (se_neg (ceE t false K _ h X C))
    · cases h
  | .cmp o t u, b, K, e, h, X, C => by
    unfold chE at h
    split at h
    · simp only [Bool.and_eq_true, decide_eq_true_eq] at h
      have h1 := ceE t false K _ h.1.2 X C
      have h2 := ceE u false K _ h.2 X C
      have h3 := okE_in h.1.1.2
      cases b with
      | false => exact se_cmp C.F.toFX h.1.1.1 (h3 _) h1 h2
      | true => exact st_cmp C.F.toFX h.1.1.1 (h3 _) h1 h2
    · cases h
  | .chn o o' t u v, b, K, e, h, X, C => by unfold chE at h; cases h
  | .and ts, b, K, e, h, X, C => by
    unfold chE at h
    split at h
    · simp only [Bool.and_eq_true, Bool.not_eq_true'] at h
      have h0 : ∀ {es : List Expr}, es.isEmpty = false → es ≠ [] := fun h e => by rw [e] at h; cases h
      have hA := ceEs ts b false K _ h.2 X C
      cases b with
      | false => exact se_and (hA.imp fun _ _ z => z.2) (h0 h.1)
      | true => exact st_and (hA.imp fun _ _ z => z.2) (h0 h.1)
    · cases h
  | .or ts, b, K, e, h, X, C => by
    unfold chE at h
    split at h
    · simp only [Bool.and_eq_true, Bool.not_eq_true'] at h
      have h0 : ∀ {es : List Expr}, es.isEmpty = false → es ≠ [] := fun h e => by rw [e] at h; cases h
      have hA := ceEs ts b false K _ h.2 X C
      cases b with
      | false => exact se_or (hA.imp fun _ _ z => z.2) (h0 h.1)
      | true => exact st_or (hA.imp fun _ _ z => z.2) (h0 h.1)
    · cases h
  | .not t, b, K, e, h, X, C => by
    unfold chE at h
    split at h
    · have h1 := ceE t b K _ h X C
      cases b with
      | false => exact se_not h1
      | true => exact st_not h1
    · cases h
  | .ife c t u, b, K, e, h, X, C => by
    unfold chE at h
    split at h
    · simp only [Bool.and_eq_true, Bool.not_eq_true'] at h
      obtain ⟨⟨⟨hb, h1⟩, h2⟩, h3⟩ := h
      subst hb
      exact se_ife (ceE c true K _ h1 X C) (ceE t false K _ h2 X C) (ceE u false K _ h3 X C)
    · cases h
  | .fld t f, b, K, e, h, X, C => by
    unfold chE at h
    split at h
    · simp only [Bool.and_eq_true, decide_eq_true_eq] at h
      exact done_plain C.F.toFX rfl (se_fld C.F (by rw [h.1.1, ← C.nt]; rfl) (ceE t false K _ h.2 X C) h.1.2)
    · cases h
  | .ix t u, b, K, e, h, X, C => by
    unfold chE at h
    split at h
    · simp only [Bool.and_eq_true] at h
      exact done_plain C.F.toFX rfl (se_ix C.F.toFX (ceE t false K _ h.1.2 X C) (ceE u false K _ h.2 X C) h.1.1)
    · cases h
  | .slc t lo hi, b, K, e, h, X, C => by
    unfold chE at h
    split at h
    · simp only [Bool.and_eq_true] at h
      exact done_plain C.F.toFX rfl (se_slc C.F.toFX (ceE t false K _ h.1.1 X C) (ceO lo K _ h.1.2 X C) (ceO hi K _ h.2 X C))
    · cases h
  | .lst ts, b, K, e, h, X, C => by
    unfold chE at h
    split at h
    · exact done_plain C.F.toFX rfl (se_lst ((ceEs ts false true K _ h X C).imp fun _ _ z => ⟨z.1 rfl, z.2⟩))
    · cases h
  | .tup ts, b, K, e, h, X, C => by
    unfold chE at h
    split at h
    · exact done_plain C.F.toFX rfl (se_tup ((ceEs ts false true K _ h X C).imp fun _ _ z => ⟨z.1 rfl, z.2⟩))
    · cases h
  | .dct ks vs, b, K, e, h, X, C => by
    unfold chE at h
    split at h
    · exact done_plain C.F.toFX rfl se_dct0
    · cases h
  | .cal f ts, b, K, e, h, X, C => by
    unfold chE at h
    split at h
    · simp only [Bool.and_eq_true, decide_eq_true_eq, Bool.not_eq_true'] at h
      obtain ⟨⟨⟨⟨⟨h1, h2⟩, h3⟩, h4⟩, h5⟩, h6⟩ := h
      have hA := (ceEs ts false true K _ h6 X C).imp fun _ _ z => (⟨z.1 rfl, z.2⟩ : OkSE n G X _ _)
      exact done_plain C.F.toFX rfl (se_cal C.F (by rw [h1, ← C.nt]; rfl) (by rw [← C.nt] at h2; exact h2) (gl_of C.sc h3) (sp_of h4).1 hA fun e => by rw [e] at h5; cases h5)
    · cases h
  | .mak c ts, b, K, e, h, X, C => by
    unfold chE at h
    split at h
    · simp only [Bool.and_eq_true, decide_eq_true_eq] at h
      obtain ⟨⟨⟨⟨h1, h2⟩, h3⟩, h4⟩, h6⟩ := h
      have hA := (ceEs ts false true K _ h6 X C).imp fun _ _ z => (⟨z.1 rfl, z.2⟩ : OkSE n G X _ _)
      exact done_plain C.F.toFX rfl (se_mak C.F (by rw [h1, ← C.nt]; rfl) (by rw [← C.nt] at h2; exact h2) (gl_of C.sc h3) (sp_of h4).1 hA)
    · cases h
  | .met t m ts, b, K, e, h, X, C => by
    unfold chE at h
    split at h
    · simp only [Bool.and_eq_true, decide_eq_true_eq] at h
      obtain ⟨⟨⟨⟨⟨h1, h2⟩, h3⟩, h4⟩, h5⟩, h6⟩ := h
      have hA := (ceEs ts false true K _ h6 X C).imp fun _ _ z => (⟨z.1 rfl, z.2⟩ : OkSE n G X _ _)
      exact done_plain C.F.toFX rfl (se_met C.F (by rw [h1, ← C.nt]; rfl) (ceE t false K _ h5 X C) hA h4 h3 h2)
    · cases h
  | .blt k ts, b, K, e, h, X, C => by
    unfold chE at h
    split at h
    · simp only [Bool.and_eq_true, decide_eq_true_eq, Bool.not_eq_true'] at h
      obtain ⟨⟨⟨⟨h1, h2⟩, h3⟩, h5⟩, h6⟩ := h
      have hA := (ceEs ts false true K _ h6 X C).imp fun _ _ z => (⟨z.1 rfl, z.2⟩ : OkSE n G X _ _)
      refine done_plain C.F.toFX rfl (se_blt C.F.toFX h1 h2 (gl_of C.sc h3) ?_ hA fun e => by rw [e] at h5; cases h5)
      subst h2
      exact C.F.free _ (by cases k <;> first | (cases h1; done) | simp [bltN])
    · cases h
  | .bmt m t ts, b, K, e, h, X, C => by
    unfold chE at h
    split at h
    · next u v o mn apos x y pos =>
      simp only [Bool.and_eq_true, decide_eq_true_eq] at h
      obtain ⟨⟨⟨⟨⟨⟨⟨h1, h2⟩, h3⟩, h4⟩, h5⟩, h6⟩, h7⟩, h8⟩ := h
      subst h1
      exact done_plain C.F.toFX rfl (se_get2 C.F.toFX (ceE t false K _ h6 X C) (ceE u false K _ h7 X C) (ceE v false K _ h8 X C) h2 h3 h4 h5)
    · cases h
  | .isi t k, b, K, e, h, X, C => by
    unfold chE at h
    split at h
    · simp only [Bool.and_eq_true, decide_eq_true_eq] at h
      obtain ⟨⟨⟨⟨⟨⟨h1, h2⟩, h3⟩, h4⟩, h5⟩, h6⟩, h7⟩ := h
      subst h1
      rw [← C.nt] at h5
      obtain ⟨q1, q2⟩ := isi_name h5
      exact done_plain C.F.toFX rfl (se_isi C.F q2 q1 (gl_of C.sc h2) (gl_of C.sc h3) (sp_of h4).1 h6 (ceE t false K _ h7 X C))
    · cases h
  | .cmpr t g it ifs, b, K, e, h, X, C => by
    unfold chE at h
    split at h
    · next elt tg iter es scope pos =>
      simp only [Bool.and_eq_true, decide_eq_true_eq, Bool.not_eq_true'] at h
      obtain ⟨⟨⟨⟨⟨⟨⟨hb, h1⟩, h2⟩, h3⟩, h4⟩, h5⟩, h6⟩, h7⟩ := h
      subst hb
      refine se_cmpr C.F (own := ownOf K.N (tgNames g)) (ownOf_snd _ _) (by rw [C.N, C.sc]; exact h1) (ceI it false K tg iter h3 X C) h2 (fun s H A cl fp => ?_) (fun s H A cl fp => ?_) (fun s H A cl fp => ceE t false (K.blk scope) elt h7 _ (C.blk s H scope A cl fp))
      · have C' := C.blk s H scope A cl fp
        rw [C'.N, C'.sc, C'.fn]; exact h4
      · have hA := ceEs ifs true false (K.blk scope) es h6 _ (C.blk s H scope A cl fp)
        cases hA with
        | nil => exact ptq_nil
        | cons z hr =>
          cases hr with
          | nil => exact ptq_one takes_false z.2
          | cons _ _ => simp at h5
    · cases h
theorem ceEs : ∀ (ts : List Tm) (b o : Bool) (K : CT) (es : List Expr), chEs ts b o K es = true → ∀ X, CtxOk n G X K → All2 (fun e t => (o = true → okE e = true) ∧ Done n G X b e t) es ts
  | [], b, o, K, es, h, X, C => by
    unfold chEs at h
    cases es with
    | nil => exact .nil
    | cons e es => cases h
  | t :: ts, b, o, K, es, h, X, C => by
    unfold chEs at h
    cases es with
    | nil => cases h
    | cons e es =>
      simp only [Bool.and_eq_true] at h
      exact .cons ⟨fun ho => by subst ho; simpa using h.1.1, ceE t b K e h.1.2 X C⟩ (ceEs ts b o K es h.2 X C)
theorem ceO : ∀ (t : Option Tm) (K : CT) (e : Option Expr), chO t K e = true → ∀ X, CtxOk n G X K → SO n G X e t
  | none, K, e, h, X, C => by
    unfold chO at h
    cases e with
    | none => trivial
    | some e => cases h
  | some t, K, e, h, X, C => by
    unfold chO at h
    cases e with
    | none => cases h
    | some e => exact ceE t false K e h X C
theorem ceI : ∀ (it : Itr) (st : Bool) (K : CT) (tg e : Expr), chI it st K tg e = true → ∀ X, CtxOk n G X K → SI n G X st tg e it
  | .rng1 t, st, K, tg, e, h, X, C => by
    unfold chI at h
    split at h
    · simp only [Bool.and_eq_true, decide_eq_true_eq] at h
      obtain ⟨⟨⟨h1, h2⟩, h3⟩, h4⟩ := h
      subst h1
      exact si_rng1 C.F (gl_of C.sc h2) (ceE t false K _ h4 X C) h3
    · cases h
  | .rng2 t u, st, K, tg, e, h, X, C => by
    unfold chI at h
    split at h
    · simp only [Bool.and_eq_true, decide_eq_true_eq] at h
      obtain ⟨⟨⟨⟨⟨h1, h2⟩, h3⟩, h4⟩, h5⟩, h6⟩ := h
      subst h1
      exact si_rng2 C.F (gl_of C.sc h2) (ceE t false K _ h5 X C) (ceE u false K _ h6 X C) h3 h4
    · cases h
  | .seq t, st, K, tg, e, h, X, C => by
    unfold chI at h
    exact si_seq C.F (ceE t false K _ h X C)
  | .enm t, st, K, tg, e, h, X, C => by
    unfold chI at h
    split at h
    · simp only [Bool.and_eq_true, decide_eq_true_eq] at h
      obtain ⟨⟨⟨h1, h2⟩, h3⟩, h4⟩ := h
      subst h1
      exact si_enm C.F (gl_of C.sc h2) (ceE t false K _ h4 X C) h3
    · cases h
  | .zip t u, st, K, tg, e, h, X, C => by
    unfold chI at h
    split at h
    · simp only [Bool.and_eq_true, decide_eq_true_eq] at h
      obtain ⟨⟨⟨⟨⟨h1, h2⟩, h3⟩, h4⟩, h5⟩, h6⟩ := h
      subst h1
      exact si_zip C.F (gl_of C.sc h2) (ceE t false K _ h5 X C) (ceE u false K _ h6 X C) h3 h4
    · cases h
  | .keys t, st, K, tg, e, h, X, C => by
    unfold chI at h
    exact si_keys C.F (ceE t false K _ h X C)
  | .items t, st, K, tg, e, h, X, C => by
    unfold chI at h
    split at h
    · simp only [Bool.and_eq_true, decide_eq_true_eq] at h
      obtain ⟨⟨⟨h1, h2⟩, h3⟩, h4⟩ := h
      subst h1
      exact si_items C.F (ceE t false K _ h4 X C) h2 h3
    · cases h
  | .vals t, st, K, tg, e, h, X, C => by
    unfold chI at h
    split at h
    · simp only [Bool.and_eq_true, decide_eq_true_eq] at h
      obtain ⟨⟨⟨h1, h2⟩, h3⟩, h4⟩ := h
      subst h1
      exact si_vals C.F (ceE t false K _ h4 X C) h2 h3
    · cases h
  | .rev t, st, K, tg, e, h, X, C => by
    unfold chI at h
    split at h
    · simp only [Bool.and_eq_true, decide_eq_true_eq] at h
      obtain ⟨⟨⟨h1, h2⟩, h3⟩, h4⟩ := h
      subst h1
      exact si_rev C.F (gl_of C.sc h2) (ceE t false K _ h4 X C) h3
    · cases h
  | .sgn t, st, K, tg, e, h, X, C => by
    unfold chI at h
    exact si_sgn (ceE t false K _ h X C)
end
end
end GS

namespace GS
open PySem PySem.Spec PyProof.Rows L2

section
variable {n : Env'} {G : GE} {X : Cx} {W : WX} {M M0 M1 M' : MM} {H H0 H1 H' : Hp} {s : Sl} {σ : L2.St} {P : Nat → Option V} {L : Nat → List Addr} {np : Nat} {Dd : Ends}

/-! ## o.f = y -/
theorem sc_fput (F : FS n G X) {o : Bool} {i f : Nat} {x fnm : Str} {e : Expr} {t : Tm} {p fpos pos : Pos} (hf : fnm = n.c.an f) (hN : X.N[i]? = some x) (hv : Vis X.env.scope x) (hdb : (x == ("__debug__" : Str)) = false) (hcd : (x == ("__classdict__" : Str)) = false) (he : SE n G X e t)
    (hs : swapsWith e (some (.Attribute (.Name x p) fnm fpos)) pos.line X.env = pure false) : SC n G X np (.Assign [.Attribute (.Name x p) fnm fpos] e pos) (.fput o i [] f t) := by
  intro W tk P hP M s σ H L De R h
  unfold exec evalSt at h
  simp only [Out.ofRes_ok] at h
  subst hf
  refine ⟨_, ps_fld (pe_var hN hv hdb hcd) we hs, ?_⟩
  refine he W tk M _ σ H _ R.view ((post_res R h).imp (fun y ey hy v M1 H1 l1 s1 r fr nd1 => ?_) fun _ _ q => q)
  split at hy
  · next hc =>
    obtain ⟨d, d', hs', hg, hy⟩ := upd_at_nil hy
    cases d with
    | ins m c fs ds =>
      cases m with
      | own =>
        obtain ⟨a, dx, fvs, l, e1, ha, hm, ek, rr, el, hna, nd⟩ := ins_at R hs'
        have R1 := R.step s1
        obtain ⟨M2, l2, st2, R2, r2, nd2, fr2, ck⟩ := keep_it (o := o) R1 r nd1 (fresh_L R fr) hc
        obtain ⟨a', dx', fvs', l', e1', ha', hm', ek', rr', el', hna', nd'⟩ := ins_at R2 hs'
        rw [e1] at e1'
        cases e1'
        rw [el] at el'
        cases el'
        have hv : dx = dx' ∧ fvs = fvs' := by
          have := (s1.k a (by rw [ha]; simp)).1
          rw [ha, ha'] at this
          cases this; exact ⟨rfl, rfl⟩
        obtain ⟨rfl, rfl⟩ := hv
        have hdl : ∀ b ∈ l2, b ∉ l := fun b hb z => fr2 b hb i (by rw [el]; simp [z])
        have ha2 : a ∉ l2 := fun z => fr2 a z i (by rw [el]; simp)
        unfold gFput at hg
        dsimp only at hg
        split at hg
        · cases hg
        · next hok =>
          simp only [Bool.not_eq_false, Bool.and_eq_true, decide_eq_true_eq] at hok
          obtain ⟨hcls, hno⟩ := F.fok c f hok.1
          have hlen : fvs.length = fs.length := by
            have := congrArg List.length ek
            simpa using this
          have fin : ∀ (d' : D) (l4 : List Addr), Rep n.c M2 (upd H1 a (.ins (n.c.ca c) dx (putF (n.c.an f) v fvs))) d' (.ref a) (a :: l4) → l4.Nodup → a ∉ l4 → (∀ b ∈ l4, b ∈ l ∨ b ∈ l2) → d'.md = .own → PostS n P W M H De (.nx (s.set i (some d'))) → De.nx σ (upd H1 a (.ins (n.c.ca c) dx (putF (n.c.an f) v fvs))) := fun d' l4 hr hn hna4 hsub ho hk => by
            refine hk M2 _ σ _ ((s1.toS R.dom).trans (st2.trans (stS_store R2.dom hm'))) (R2.store hs' e1 (by rw [el]; simp) hr (List.nodup_cons.mpr ⟨hna4, hn⟩) (fun b hb => ?_) ho)
            rcases List.mem_cons.mp hb with z | z
            · exact .inl (by rw [el, z]; simp)
            · rcases hsub b z with z | z
              · exact .inl (by rw [el]; simp [z])
              · exact .inr (fr2 b z)
          refine ⟨.ref a, e1, a, n.c.ca c, dx, fvs, rfl, ha', hcls, hno, by rw [hlen]; omega, ?_⟩
          split at hg
          · next hA =>
            cases hg
            obtain ⟨l4, h1, h2, h3⟩ := reps_fld F.inj r2 ck ek rr' hA
            exact fin (.ins .own c fs (setFld f (kept o y) fs ds)) l4 ⟨a, dx, _, l4, rfl, ⟨hm', upd_same⟩, h2, upd_keeps h1 (by simp) (fun z => (h3.mem z).elim hna ha2) hm', rfl⟩ (h3.nd nd nd2 hdl) (fun z => (h3.mem z).elim hna ha2) (fun b hb => h3.mem hb) rfl hy
          · next hA =>
            cases hg
            have hA : (fs.any fun q => decide (q = f)) = false := Bool.eq_false_iff.mpr hA
            have hput := putF_new F.inj (v := v) ek hA
            refine fin (.ins .own c (fs ++ [f]) (ds ++ [kept o y])) (l ++ l2) ⟨a, dx, _, l ++ l2, rfl, ⟨hm', upd_same⟩, ?_, ?_, rfl⟩ (List.nodup_append.mpr ⟨nd, nd2, fun b hb c hc e => hdl c hc (by rw [← e]; exact hb)⟩) (fun z => (List.mem_append.mp z).elim hna ha2) (fun b hb => List.mem_append.mp hb) rfl hy
            · rw [hput]; simp [ek]
            · rw [hput, List.map_append]
              exact upd_keeps (rr'.append (Reps.one r2 ck)) (by simp) (fun z => (List.mem_append.mp z).elim hna ha2) hm'
      | _ => unfold gFput at hg; cases hg
    | _ => unfold gFput at hg; cases hg
  · exact False.elim hy

/-! ## x = [.. for ..] -/
theorem sc_setLc (F : FS n G X) {i : Nat} {x : Str} {elt tg iter : Expr} {ifs : List Expr} {scope : Scope} {pos py spos : Pos} {te : Tm} {tgS : Tg} {it : Itr} {tifs : List Tm} {own : List (Str × Nat)}
    (hN : X.N[i]? = some x) (hxl : X.env.scope.names.lookup x = some .local) (hsw : swapsWith (.ListComp elt [⟨tg, iter, ifs, 0⟩] scope pos) (some (.Name x py)) spos.line X.env = pure true)
    (hown : own.map (·.2) = tgNames tgS) (hblk : blkC X.N X.env.scope scope own = true) (hi : SI n G X false tg iter it) (ho : okE iter = true)
    (htg : ∀ (s : Shared) (H : Hp) (C : Addr) (cl : List (Str × Addr)) (fp : List Addr), tgC (X.blk s H scope (compEnvC scope cl C X.env) fp).N (X.blk s H scope (compEnvC scope cl C X.env) fp).env.scope (X.blk s H scope (compEnvC scope cl C X.env) fp).fn tgS tg = true)
    (hif : ∀ (s : Shared) (H : Hp) (C : Addr) (cl : List (Str × Addr)) (fp : List Addr), PTq n G (X.blk s H scope (compEnvC scope cl C X.env) fp) ifs tifs)
    (he : ∀ (s : Shared) (H : Hp) (C : Addr) (cl : List (Str × Addr)) (fp : List Addr), SE n G (X.blk s H scope (compEnvC scope cl C X.env) fp) elt te) :
    SC n G X np (.Assign [.Name x py] (.ListComp elt [⟨tg, iter, ifs, 0⟩] scope pos) spos) (.set i (.cmpr te tgS it tifs)) := by
  intro W tk P hP M s σ H L De R h
  unfold exec at h
  refine ⟨_, ps_unl (ps_setLc (own := own) (wi := WI X tg iter)
    (g := fun v σ H Q => ∀ (s : Shared) (H' : Hp) (C : Addr) (cl : List (Str × Addr)) (fp : List Addr), WG (X.blk s H' scope (compEnvC scope cl C X.env) fp) tg v σ H Q)
    (tt := fun σ H Q => ∀ (s : Shared) (H' : Hp) (C : Addr) (cl : List (Str × Addr)) (fp : List Addr), ∃ tt, PTs (X.blk s H' scope (compEnvC scope cl C X.env) fp) ifs tt ∧ tt σ H Q)
    (te := fun σ H Q => ∀ (s : Shared) (H' : Hp) (C : Addr) (cl : List (Str × Addr)) (fp : List Addr), WE (X.blk s H' scope (compEnvC scope cl C X.env) fp) elt σ H Q)
    F.calm F.nd hN hxl hsw wi_ (blkOk_by hblk) (fun s' H' C cl fp => ⟨fun pins sh σ H v u Q I r hw => wg.run pins sh σ H v u Q I r (hw s' H' C cl fp)⟩)
    (fun s' H' C cl fp => ⟨fun pins sh σ H Q I hw => let ⟨tt, h1, h2⟩ := hw s' H' C cl fp; h1.run pins sh σ H Q I h2⟩)
    (fun s' H' C cl fp => ⟨fun pins sh σ H Q I hw => we.run pins sh σ H Q I (hw s' H' C cl fp)⟩) (fun x => okE_fold ho _ x)), ?_⟩
  refine lc_run (own := own) F.toFC (ifs := ifs) (elt := elt) (scope := scope) (pos := pos) (Q := fun v H' => De.nx (σ.set i (some v)) H') hown hi tk R.view ?_ ?_ ?_ ((post_res R h).imp (fun d ed hd v M1 H1 l s1 r f nd => ?_) fun _ _ q => q)
  · exact fun M s σ H d v s' Q R r hb hq s0 H' C cl fp => bt_run (F.blk _ _ _ _ _).toFX tgS tg (htg s0 H' C cl fp) s σ d v s' Q R r hb hq
  · exact fun M s σ H Q R hq s0 H' C cl fp => let ⟨tt, h1, h2⟩ := hif s0 H' C cl fp; ⟨tt, h1, h2 M s σ H Q R hq⟩
  · exact fun M s σ H Q R hq s0 H' C cl fp => he s0 H' C cl fp _ takes_false M s σ H Q R (PR.noEx hq)
  · obtain ⟨s', hs', hd⟩ := post_opt hd
    unfold setS at hs'
    split at hs'
    · next hc =>
      rw [Bool.and_eq_true] at hc
      cases hs'
      obtain ⟨L', R', _⟩ := (R.step s1).put r nd (fresh_L R f) (free_none R hP hc.1) (by have := hc.2; unfold notVw at this; simpa using this)
      exact hd M1 H1 _ L' (s1.toS R.dom) R'
    · cases hs'

/-! ## the checker of statements -/
def noComp : Expr → Bool
  | .ListComp _ _ _ _ => false
  | .SetComp _ _ _ _ => false
  | .DictComp _ _ _ _ _ => false
  | _ => true
theorem noComp_sw {e : Expr} (h : noComp e = true) (tg : Option Expr) (l : Nat) (env : Env) : swapsWith e tg l env = pure false := by
  cases e <;> first | (cases h; done) | rfl
def notTup : Expr → Bool
  | .Tuple _ _ _ => false
  | _ => true
theorem notTup_sw {e : Expr} (h : notTup e = true) (tg : Expr) (env : Env) : swappedStores [tg] e env = pure none := by
  cases e <;> cases tg <;> first | (cases h; done) | rfl
end
def isGh : Cm → Bool
  | .frz _ => true
  | .frzc _ => true
  | _ => false
mutual
def chS (K : CT) : Cm → Stmt → Bool
  | .set i t, st => match st with
    | .Assign [.Name x py] e pos => decide (K.N[i]? = some x) && locC K.sc K.fn x && (
        (noComp e && chE t false K e) ||
        (match t, e with
          | .cmpr t g it ifs, .ListComp elt [⟨tg, iter, es, 0⟩] scope pos => decide (K.sc.names.lookup x = some .local) && (py.line == pos.line) && !(scope.names.any fun (n, k) => n == x && (k == .local || k == .cell)) && chE (.cmpr t g it ifs) false K e
          | _, _ => false))
    | _ => false
  | .unp g t, st => match st with
    | .Assign [tg] e _ => tgC K.N K.sc K.fn g tg && noComp e && notTup e && chE t false K e
    | _ => false
  | .par _ _ _ _, _ => false
  | .aug _ _ _, _ => false
  | .put o i ss ti t, st => match ss, st with
    | [], .Assign [.Subscript (.Name x _) ie _] e _ => decide (K.N[i]? = some x) && visB K.sc x && notSp x && okE ie && noComp e && chE ti false K ie && chE t false K e
    | _, _ => false
  | .fput o i ss f t, st => match ss, st with
    | [], .Assign [.Attribute (.Name x _) fnm _] e _ => decide (fnm = K.nt.an f) && decide (K.N[i]? = some x) && visB K.sc x && notSp x && noComp e && chE t false K e
    | _, _ => false
  | .app o i ss t, st => match ss, st with
    | [], .Expr (.Call (.Attribute (.Name x _) mn apos) [e] [] cpos) _ => decide (mn = ("append" : Str)) && decide (K.N[i]? = some x) && visB K.sc x && notSp x && okE e && lineB apos cpos && chE t false K e
    | _, _ => false
  | .ext i ss t, st => match ss, st with
    | [], .Expr (.Call (.Attribute (.Name x _) mn apos) [e] [] cpos) _ => decide (mn = ("extend" : Str)) && decide (K.N[i]? = some x) && visB K.sc x && notSp x && okE e && lineB apos cpos && chE t false K e
    | _, _ => false
  | .clr i ss, st => match ss, st with
    | [], .Expr (.Call (.Attribute (.Name x _) mn apos) [] [] cpos) _ => decide (mn = ("clear" : Str)) && decide (K.N[i]? = some x) && visB K.sc x && notSp x && lineB apos cpos
    | _, _ => false
  | .ex t, st => match st with
    | .Expr e _ => noComp e && chE t false K e
    | _ => false
  | .ini _ _, _ => false
  | .ret t, st => match st with
    | .Return (some e) _ => chE t false K e
    | _ => false
  | .retv i, st => match st with
    | .Return (some (.Name x _)) _ => decide (K.N[i]? = some x) && visB K.sc x && notSp x
    | _ => false
  | .ret0, st => match st with
    | .Return none _ => true
    | _ => false
  | .ite c a b, st => match st with
    | .If e x y _ => chE c true K e && chSs K a x && chSs K b y
    | _ => false
  | .whl c b, st => match st with
    | .While e x [] _ => chE c true K e && chSs K b x
    | _ => false
  | .for_ g it b, st => match st with
    | .For tg iter x [] _ => tgC K.N K.sc K.fn g tg && okE iter && chI it true K tg iter && chSs K b x
    | _ => false
  | .brk, st => match st with
    | .Break _ => true
    | _ => false
  | .cnt, st => match st with
    | .Continue _ => true
    | _ => false
  | .pas, st => match st with
    | .Pass _ => true
    | .Expr (.Constant (.str _) _ _) _ => true
    | _ => false
  | .rai _ _, _ => false
  | .frz _, _ => false
  | .frzc _, _ => false
  | .never, _ => true
def chSs (K : CT) : List Cm → List Stmt → Bool
  | [], sts => sts.isEmpty
  | c :: cs, sts => if isGh c = true then chSs K cs sts else match sts with
    | st :: sts => chS K c st && chSs K cs sts
    | [] => false
end
section
variable {n : Env'} {G : GE} {X : Cx} {np : Nat} {K : CT}
theorem sw_cell {elt : Expr} {gs : List Comprehension} {scope : Scope} {pos py : Pos} {y : Str} {l : Nat} {env : Env} (hy : env.scope.names.lookup y = some .cell) : swapsWith (.ListComp elt gs scope pos) (some (.Name y py)) l env = pure false := by
  have ky : env.kindOf y = some .cell := hy
  unfold swapsWith
  simp only [ky]
  have : (NameKind.cell == NameKind.local) = false := rfl
  have h2 : ((some NameKind.cell : Option NameKind) == some NameKind.local) = false := rfl
  simp only [h2, Bool.and_false, Bool.false_and]
structure CtxS (n : Env') (G : GE) (X : Cx) (K : CT) : Prop extends CtxOk n G X K where
  pass : PassesOwn (model X.prog X.w) X.A X.env X.xe
  kind : X.env.scope.kind = .function
theorem CtxS.S (C : CtxS n G X K) : FS n G X := ⟨C.F, C.pass⟩
mutual
theorem csS : ∀ (c : Cm) (st : Stmt), chS K c st = true → CtxS n G X K → SC n G X np st c
  | .set i t, st, h, C => by
    unfold chS at h
    split at h
    · next x py e pos =>
      simp only [Bool.and_eq_true, decide_eq_true_eq, Bool.or_eq_true] at h
      obtain ⟨⟨h1, h2⟩, h3⟩ := h
      rcases h3 with ⟨h3, h4⟩ | h3
      · exact sc_set C.S (by rw [C.N]; exact h1) (by rw [C.sc, C.fn]; exact h2) (ceE t false K e h4 X C.toCtxOk) (noComp_sw h3 _ _ _)
      · split at h3
        · next t g it ifs elt tg iter es scope pos' =>
          simp only [Bool.and_eq_true, decide_eq_true_eq, Bool.not_eq_true'] at h3
          obtain ⟨⟨⟨h4, h5⟩, h6⟩, h7⟩ := h3
          unfold chE at h7
          simp only [Bool.and_eq_true, decide_eq_true_eq, Bool.not_eq_true'] at h7
          obtain ⟨⟨⟨⟨⟨⟨⟨hb, g1⟩, g2⟩, g3⟩, g4⟩, g5⟩, g6⟩, g7⟩ := h7
          refine sc_setLc C.S (own := ownOf K.N (tgNames g)) (by rw [C.N]; exact h1) (by rw [C.sc]; exact h4) (sw_true C.kind (by rw [C.sc]; exact h4) h5 h6) (ownOf_snd _ _) (by rw [C.N, C.sc]; exact g1) (ceI it false K tg iter g3 X C.toCtxOk) g2 (fun s H A cl fp => ?_) (fun s H A cl fp => ?_) (fun s H A cl fp => ceE t false (K.blk scope) elt g7 _ (C.toCtxOk.blk s H scope A cl fp))
          · have C' := C.toCtxOk.blk s H scope A cl fp
            rw [C'.N, C'.sc, C'.fn]; exact g4
          · have hA := ceEs ifs true false (K.blk scope) es g6 _ (C.toCtxOk.blk s H scope A cl fp)
            cases hA with
            | nil => exact ptq_nil
            | cons z hr =>
              cases hr with
              | nil => exact ptq_one takes_false z.2
              | cons _ _ => simp at g5
        · cases h3
    · cases h
  | .unp g t, st, h, C => by
    unfold chS at h
    split at h
    · simp only [Bool.and_eq_true] at h
      obtain ⟨⟨⟨h1, h2⟩, h3⟩, h4⟩ := h
      exact sc_unp C.S (by rw [C.N, C.sc, C.fn]; exact h1) (ceE t false K _ h4 X C.toCtxOk) (noComp_sw h2 _ _ _) (notTup_sw h3 _ _)
    · cases h
  | .par _ _ _ _, _, h, _ => by unfold chS at h; cases h
  | .aug _ _ _, _, h, _ => by unfold chS at h; cases h
  | .put o i ss ti t, st, h, C => by
    unfold chS at h
    split at h
    · simp only [Bool.and_eq_true, decide_eq_true_eq] at h
      obtain ⟨⟨⟨⟨⟨⟨h1, h2⟩, h3⟩, h4⟩, h5⟩, h6⟩, h7⟩ := h
      exact sc_put C.S (by rw [C.N]; exact h1) (by rw [C.sc]; exact vis_of h2) (sp_of h3).1 (sp_of h3).2 (ceE ti false K _ h6 X C.toCtxOk) (ceE t false K _ h7 X C.toCtxOk) h4 (noComp_sw h5 _ _ _) rfl
    · cases h
  | .fput o i ss f t, st, h, C => by
    unfold chS at h
    split at h
    · simp only [Bool.and_eq_true, decide_eq_true_eq] at h
      obtain ⟨⟨⟨⟨⟨h0, h1⟩, h2⟩, h3⟩, h4⟩, h5⟩ := h
      exact sc_fput C.S (by rw [h0, ← C.nt]; rfl) (by rw [C.N]; exact h1) (by rw [C.sc]; exact vis_of h2) (sp_of h3).1 (sp_of h3).2 (ceE t false K _ h5 X C.toCtxOk) (noComp_sw h4 _ _ _)
    · cases h
  | .app o i ss t, st, h, C => by
    unfold chS at h
    split at h
    · simp only [Bool.and_eq_true, decide_eq_true_eq] at h
      obtain ⟨⟨⟨⟨⟨⟨h0, h1⟩, h2⟩, h3⟩, h4⟩, h5⟩, h6⟩ := h
      subst h0
      exact sc_app C.S (by rw [C.N]; exact h1) (by rw [C.sc]; exact vis_of h2) (sp_of h3).1 (sp_of h3).2 (ceE t false K _ h6 X C.toCtxOk) h4 h5
    · cases h
  | .ext i ss t, st, h, C => by
    unfold chS at h
    split at h
    · simp only [Bool.and_eq_true, decide_eq_true_eq] at h
      obtain ⟨⟨⟨⟨⟨⟨h0, h1⟩, h2⟩, h3⟩, h4⟩, h5⟩, h6⟩ := h
      subst h0
      exact sc_ext C.S (by rw [C.N]; exact h1) (by rw [C.sc]; exact vis_of h2) (sp_of h3).1 (sp_of h3).2 (ceE t false K _ h6 X C.toCtxOk) h4 h5
    · cases h
  | .clr i ss, st, h, C => by
    unfold chS at h
    split at h
    · simp only [Bool.and_eq_true, decide_eq_true_eq] at h
      obtain ⟨⟨⟨⟨h0, h1⟩, h2⟩, h3⟩, h5⟩ := h
      subst h0
      exact sc_clr C.S (by rw [C.N]; exact h1) (by rw [C.sc]; exact vis_of h2) (sp_of h3).1 (sp_of h3).2 h5
    · cases h
  | .ex t, st, h, C => by
    unfold chS at h
    split at h
    · simp only [Bool.and_eq_true] at h
      exact sc_ex C.S (ceE t false K _ h.2 X C.toCtxOk) (noComp_sw h.1 _ _ _)
    · cases h
  | .ini _ _, _, h, _ => by unfold chS at h; cases h
  | .ret t, st, h, C => by
    unfold chS at h
    split at h
    · exact sc_ret C.S (ceE t false K _ h X C.toCtxOk)
    · cases h
  | .retv i, st, h, C => by
    unfold chS at h
    split at h
    · simp only [Bool.and_eq_true, decide_eq_true_eq] at h
      exact sc_retv C.S (by rw [C.N]; exact h.1.1) (by rw [C.sc]; exact vis_of h.1.2) (sp_of h.2).1 (sp_of h.2).2
    · cases h
  | .ret0, st, h, C => by
    unfold chS at h
    split at h
    · exact sc_ret0
    · cases h
  | .ite c a b, st, h, C => by
    unfold chS at h
    split at h
    · simp only [Bool.and_eq_true] at h
      exact sc_ite (ceE c true K _ h.1.1 X C.toCtxOk) (csSs a _ h.1.2 C) (csSs b _ h.2 C)
    · cases h
  | .whl c b, st, h, C => by
    unfold chS at h
    split at h
    · simp only [Bool.and_eq_true] at h
      exact sc_whl C.S (ceE c true K _ h.1 X C.toCtxOk) (csSs b _ h.2 C)
    · cases h
  | .for_ g it b, st, h, C => by
    unfold chS at h
    split at h
    · simp only [Bool.and_eq_true] at h
      obtain ⟨⟨⟨h1, h2⟩, h3⟩, h4⟩ := h
      exact sc_for C.S (by rw [C.N, C.sc, C.fn]; exact h1) (ceI it true K _ _ h3 X C.toCtxOk) h2 (csSs b _ h4 C)
    · cases h
  | .brk, st, h, C => by
    unfold chS at h
    split at h
    · exact sc_brk
    · cases h
  | .cnt, st, h, C => by
    unfold chS at h
    split at h
    · exact sc_cnt
    · cases h
  | .pas, st, h, C => by
    unfold chS at h
    split at h
    · exact sc_pas
    · exact sc_doc
    · cases h
  | .rai _ _, _, h, _ => by unfold chS at h; cases h
  | .frz _, _, h, _ => by unfold chS at h; cases h
  | .frzc _, _, h, _ => by unfold chS at h; cases h
  | .never, _, _, _ => sc_never
theorem csSs : ∀ (cs : List Cm) (sts : List Stmt), chSs K cs sts = true → CtxS n G X K → SCs n G X np sts cs
  | [], sts, h, C => by
    cases sts with
    | nil => exact scs_nil
    | cons _ _ => cases h
  | c :: cs, sts, h, C => by
    unfold chSs at h
    split at h
    · next hg =>
      cases c <;> first | (cases hg; done) | exact scs_frz (csSs cs sts h C) | exact scs_frzc (csSs cs sts h C)
    · cases sts with
      | nil => cases h
      | cons st sts =>
        simp only [Bool.and_eq_true] at h
        exact scs_cons (csS c st h.1 C) (csSs cs sts h.2 C)
end
end
end GS

namespace GS
open PySem PySem.Spec PyProof.Rows L2

/-! ## a module, run by levels -/
/-- a def's text, and where it stands -/
structure DT where
  x : Str
  qual : Str
  params : Arguments
  body : List Stmt
  scope : Scope
  dvs : List V
  ps : List Str
  N : List Str
structure Mo (n : Env') (T : TB) (dt : Nat → DT) (mg : Str → Option Value) (base : Heap) : Prop where
  defs : ∀ f df, T.defs f = some df → (∃ fd, FunD n.c.K (dt f).x (dt f).qual (dt f).params (dt f).body (dt f).scope (dt f).dvs [] (n.fa f) fd ∧ ∀ j, j ≤ (dt f).dvs.length → ∃ ds, Vals ((dt f).dvs.drop j) ds ∧ Binds n.c.K fd (dt f).ps ds) ∧
    FnScope (dt f).N (dt f).ps (dt f).scope ∧ (dt f).ps.length = df.np ∧ (dt f).N.length = df.ns ∧ df.dfl.map D.v = (dt f).dvs.map some ∧ chSs ⟨n.nt, (dt f).N, (dt f).scope, fun _ => true⟩ df.code (dt f).body = true
  cls : ∀ k m f, T.meth k m = some f → Cls n.c.K (n.c.ca k) ∧ Meth n.c.K (n.c.ca k) (n.c.an m) (n.fa f)
  mki : ∀ k f, T.init k = some f → Mk n.c.K (n.c.ca k) (n.fa f)
  fok : ∀ k f, T.fok k f = true → Cls n.c.K (n.c.ca k) ∧ NoAttr n.c.K (n.c.ca k) (n.c.an f)
  fnm : ∀ f, n.okf f = true → mg (n.fn f) = some (.ref (n.fa f)) ∧ PySem.W.keepIn n.c.K (.ref (n.fa f)) = true
  cnm : ∀ k, n.okc k = true → mg (n.cn k) = some (.ref (n.c.ca k)) ∧ PySem.W.keepIn n.c.K (.ref (n.c.ca k)) = true
  free : ∀ x ∈ (["len", "abs", "min", "max", "any", "all", "str", "int", "list", "tuple", "dict", "sorted", "isinstance", "bool", "range", "enumerate", "zip", "reversed", "set"] : List Str), mg x = none
  ity : ∀ k, T.sub k ≠ [] → Cls n.c.K (n.c.ca k) ∧ PySem.W.findIn n.c.K (.ref (n.c.ca k)) "__class__" = some (some (.builtin "object.__class__")) ∧ PySem.W.mroIn n.c.K (n.c.ca k) (.type "object") = some true ∧
    (∀ T ∈ ["int", "bool", "str", "list", "tuple", "dict"], PySem.W.kitOne n.c.K (.ref (n.c.ca k)) (.type T) = some false) ∧ ∀ c, n.okc c = true → PySem.W.kitOne n.c.K (.ref (n.c.ca k)) (.ref (n.c.ca c)) = some (decide (c ∈ T.sub k))
  itk : (∃ k, T.sub k ≠ []) → PySem.W.specialIn n.c.K (.builtin "object.__class__") "__get__" = some (some (.builtin "getset_descriptor.__get__")) ∧ PySem.W.takesIn n.c.K (.builtin "object.__class__") = some true
  itb : ∀ T ∈ ["NoneType", "bool", "int", "str", "list", "tuple", "dict"], ∀ c, n.okc c = true → PySem.W.kitOne n.c.K (.type T) (.ref (n.c.ca c)) = some false
  inj : ∀ f g, n.c.an f = n.c.an g → f = g

section
variable {n : Env'} {T : TB} {dt : Nat → DT} {mg : Str → Option Value} {base : Heap} {P : Program} {w : World}
/-- a def at a level does what run says -/
def Lv (n : Env') (dt : Nat → DT) (mg : Str → Option Value) (base : Heap) (P : Program) (w : World) (k : Nat) (r : Nat → List D → RO) : Prop := ∀ f as, r f as ≠ .stuck → ∃ (fd : FuncData) (dvs : List V) (ds : List Value) (sp : Sp), FnOk P w n.c.K mg base (L2.CX P w) k (n.fa f) fd (dt f).ps sp ∧
  PySem.W.keepIn n.c.K (.ref (n.fa f)) = true ∧ Vals dvs ds ∧ Binds n.c.K fd (dt f).ps ds ∧ ∀ vs H Q E, SpC n (r f as) as vs H Q E → sp (vs ++ dvs) H Q E
theorem relA_app {c : RC} {M : MM} {H : Hp} : ∀ {as bs : List D} {vs us : List V} {l : List Addr}, RepA c M H as vs l → RepA c M H bs us [] → RepA c M H (as ++ bs) (vs ++ us) l
  | [], _, _, _, _, h, h' => by rw [h.1, h.2]; exact h'
  | d :: ds, bs, vs, us, l, h, h' => by
    obtain ⟨v, vs', l1, l2, e, r1, r2, hl⟩ := h
    exact ⟨v, vs' ++ us, l1, l2, by rw [e]; rfl, r1, relA_app r2 h', hl⟩
theorem relA_dfl {c : RC} {M : MM} {H : Hp} : ∀ {ds : List D} {us : List V}, ds.map D.v = us.map some → RepA c M H ds us [] ∧ ∀ d ∈ ds, d.md ≠ .vw ∧ d.md ≠ .own
  | [], us, h => by
    have : us = [] := by simpa using h.symm
    subst this
    exact ⟨⟨rfl, rfl⟩, (fun _ z => nomatch z)⟩
  | d :: ds, [], h => by simp at h
  | d :: ds, u :: us, h => by
    simp only [List.map_cons, List.cons.injEq] at h
    obtain ⟨i1, i2⟩ := relA_dfl (c := c) (M := M) (H := H) h.2
    have hd : Rep c M H d u [] ∧ d.md ≠ .vw ∧ d.md ≠ .own := by
      cases d with
      | non => cases h.1; exact ⟨⟨rfl, rfl⟩, by simp [D.md], by simp [D.md]⟩
      | bl b => cases h.1; exact ⟨⟨rfl, rfl⟩, by simp [D.md], by simp [D.md]⟩
      | int b => cases h.1; exact ⟨⟨rfl, rfl⟩, by simp [D.md], by simp [D.md]⟩
      | str b => cases h.1; exact ⟨⟨rfl, rfl⟩, by simp [D.md], by simp [D.md]⟩
      | _ => cases h.1
    exact ⟨⟨u, us, [], [], rfl, hd.1, i1, rfl⟩, fun x hx => by
      rcases List.mem_cons.mp hx with e | hx
      · rw [e]; exact hd.2
      · exact i2 x hx⟩
/-- the own lists of the arguments, by slots -/
theorem args_own {c : RC} {M : MM} {H : Hp} : ∀ {as : List D} {vs : List V} {l : List Addr}, RepA c M H as vs l → l.Nodup → ∃ L : Nat → List Addr, (∀ i d, as[i]? = some d → ∃ v, vs[i]? = some v ∧ Rep c M H d v (L i)) ∧ (∀ i, (L i).Nodup) ∧ (∀ i j a, a ∈ L i → a ∈ L j → i = j) ∧ (∀ i a, a ∈ L i → a ∈ l)
  | [], vs, l, h, nd => ⟨fun _ => [], by simp, fun _ => .nil, (fun _ _ _ z => nomatch z), (fun _ _ z => nomatch z)⟩
  | d :: ds, vs, l, h, nd => by
    obtain ⟨v, vs', l1, l2, rfl, r1, r2, rfl⟩ := h
    obtain ⟨n1, n2, n3⟩ := List.nodup_append.mp nd
    obtain ⟨L, h1, h2, h3, h4⟩ := args_own r2 n2
    refine ⟨fun i => match i with
      | 0 => l1
      | i + 1 => L i, fun i x hx => ?_, fun i => ?_, fun i j a ha hb => ?_, fun i a ha => ?_⟩
    · cases i with
      | zero => cases hx; exact ⟨v, rfl, r1⟩
      | succ i => exact h1 i x (by simpa using hx)
    · cases i with
      | zero => exact n1
      | succ i => exact h2 i
    · cases i with
      | zero =>
        cases j with
        | zero => rfl
        | succ j => exact absurd rfl (n3 a ha a (h4 j a hb))
      | succ i =>
        cases j with
        | zero => exact absurd rfl (n3 a hb a (h4 i a ha))
        | succ j => rw [h3 i j a ha hb]
    · cases i with
      | zero => exact List.mem_append_left _ ha
      | succ i => exact List.mem_append_right _ (h4 i a ha)
/-- what the own arguments are in the end -/
theorem fins_rep {c : RC} {M : MM} {H : Hp} {L : Nat → List Addr} : ∀ {as : List D} {s : Sl} {vs : List V} (k : Nat), (∀ i d v, as[i]? = some d → vs[i]? = some v → d.md = .own → ∃ x, s[i]? = some (some x) ∧ Rep c M H x v (L (k + i))) → vs.length = as.length → (∀ i, (L i).Nodup) → (∀ i j a, a ∈ L i → a ∈ L j → i = j) →
    ∃ lf, RepF c M H (finsOf as s) vs lf ∧ lf.Nodup ∧ ∀ a ∈ lf, ∃ i, k ≤ i ∧ a ∈ L i
  | [], s, vs, k, h, hv, nd, dj => ⟨[], by unfold finsOf; rfl, .nil, (fun _ z => nomatch z)⟩
  | d :: ds, [], vs, k, h, hv, nd, dj => ⟨[], by unfold finsOf; rfl, .nil, (fun _ z => nomatch z)⟩
  | d :: ds, o :: s, [], k, h, hv, nd, dj => by simp at hv
  | d :: ds, o :: s, v :: vs, k, h, hv, nd, dj => by
    obtain ⟨lf, h1, h2, h3⟩ := fins_rep (as := ds) (s := s) (vs := vs) (L := L) (c := c) (M := M) (H := H) (k + 1) (fun i x u e1 e2 ho => by
      obtain ⟨y, e3, r⟩ := h (i + 1) x u (by simpa using e1) (by simpa using e2) ho
      exact ⟨y, by simpa using e3, by rw [show k + 1 + i = k + (i + 1) by omega]; exact r⟩) (by simpa using hv) nd dj
    unfold finsOf
    split
    · next ho =>
      obtain ⟨y, e3, r⟩ := h 0 d v rfl rfl ho
      have : o = some y := by simpa using e3
      subst this
      refine ⟨L k ++ lf, ⟨L k, lf, r, h1, rfl⟩, List.nodup_append.mpr ⟨nd k, h2, fun a ha b hb e => ?_⟩, fun a ha => ?_⟩
      · subst e
        obtain ⟨i, hi, hm⟩ := h3 a hb
        have := dj k i a ha hm
        omega
      · rcases List.mem_append.mp ha with ha | ha
        · exact ⟨k, Nat.le_refl _, ha⟩
        · obtain ⟨i, hi, hm⟩ := h3 a ha
          exact ⟨i, by omega, hm⟩
    · refine ⟨lf, h1, h2, fun a ha => ?_⟩
      obtain ⟨i, hi, hm⟩ := h3 a ha
      exact ⟨i, by omega, hm⟩
theorem StS.xx {M M1 M' : MM} {H H1 H' : Hp} (s : StS M H M1 H1) (x : StX M1 H1 M' H') : StSX M H M' H' := ⟨fun a ha hm => by
  obtain ⟨e1, e2⟩ := s.k a ha hm
  obtain ⟨k1, k2⟩ := x.k a (by rw [e1]; exact ha)
  exact ⟨Keep1.trans (.inl e1) k1, k2.trans e2⟩, fun a e => by
  have hn : H1 a ≠ none := by
    rcases s.o a e with q | q
    · exact s.d a (by rw [q]; simp)
    · exact s.d a (by rw [q]; simp)
  rw [(x.k a hn).2]
  exact s.o a e, x.d⟩
/-- from what a body comes to, to what a call promises -/
theorem body_post {M : MM} {H : Hp} {as : List D} {vs : List V} {Q : VK} {E : XK} {o : Out} {P0 : Nat → Option V} (hP : ∀ i d v, as[i]? = some d → vs[i]? = some v → d.md = .own → P0 i = some v) (hlen : vs.length = as.length)
    (h : PostRO n M H vs (o.toRO as) Q E) : PostS n P0 (fun cls d _ H' => E cls d H') M H { nx := fun _ H' => Q .non H', rt := Q } o := by
  have fin : ∀ {M' s σ H' L}, RelL n.c P0 M' s σ H' L → ∃ lf, RepF n.c M' H' (finsOf as s) vs lf ∧ lf.Nodup ∧ ∀ a ∈ lf, ∃ i, 0 ≤ i ∧ a ∈ L i := fun {M' s σ H' L} R => fins_rep (L := L) 0 (fun i d v e1 e2 ho => by
    obtain ⟨h1, x, h2, h3⟩ := R.par i v (hP i d v e1 e2 ho)
    obtain ⟨u, e3, r, _⟩ := R.at_ i x h2
    rw [h1] at e3
    cases e3
    rw [Nat.zero_add]
    exact ⟨x, h2, r⟩) hlen R.nd R.dj
  cases o with
  | nx s =>
    intro M' H' σ' L st R
    obtain ⟨lf, h1, h2, h3⟩ := fin R
    exact h .non M' H' [] lf rfl st ⟨rfl, rfl⟩ h1 (by simpa using h2)
  | rt d s =>
    intro M' H' σ' L v l hc st R r nd hd
    obtain ⟨lf, h1, h2, h3⟩ := fin R
    exact h v M' H' l lf hc st r h1 (List.nodup_append.mpr ⟨nd, h2, fun a ha b hb e => by
      subst e
      obtain ⟨i, _, hi⟩ := h3 a hb
      exact hd i a ha hi⟩)
  | bk s => exact False.elim h
  | ct s => exact False.elim h
  | ex c ds s =>
    intro M' H' σ' L st R dx M2 H2 x xr
    have h : PostRO n M H vs (if ds.all D.cl = true then .ex c ds [] else .stuck) Q E := h
    split at h
    · next hc => exact h dx M2 H2 [] hc (st.xx x) xr rfl .nil
    · exact False.elim h
  | stuck => exact False.elim h
/-- a body's context -/
theorem ctx_of {k : Nat} {r : (Nat → List D → RO) × (Nat → List D → RO)} (Mo_ : Mo n T dt mg base) {f : Nat} {df : Df} (hf : T.defs f = some df) (l1 : Lv n dt mg base P w k r.1) (l2 : ∀ f as, r.2 f as ≠ .stuck → ∃ j, k = j + 1 ∧ Lv n dt mg base P w j r.2)
    {cdv : Value} {A : Around} {outer : List Env} {s : Shared} {H : Hp} {E : XK} (hr : Room k (A.deeper (envOfC (dt f).qual (dt f).scope s.heap.objs.size (n.fa f) cdv))) :
    CtxS n (GEof T r) (cxOf (L2.CX P w) P w n.c.K mg base (dt f).N (dt f).qual (dt f).scope (n.fa f) cdv A outer s H E) ⟨n.nt, (dt f).N, (dt f).scope, fun _ => true⟩ where
  F := { K := rfl, calm := rfl, hu := by have := hr.un; show (A.deeper (envOfC (dt f).qual (dt f).scope s.heap.objs.size (n.fa f) cdv)).units + 64 < cLine; omega, nd := ((Mo_.defs f df hf).2.1).nd,
         call := fun g as h => by
           obtain ⟨fd, dvs, ds, sp, h1, h2, h3, h4, h5⟩ := l1 g as h
           exact ⟨k, fd, _, dvs, ds, sp, h1, hr, h2, h3, h4, h5⟩
         make := fun g as h => by
           obtain ⟨j, rfl, l⟩ := l2 g as h
           obtain ⟨fd, dvs, ds, sp, h1, h2, h3, h4, h5⟩ := l g as h
           exact ⟨j, fd, _, dvs, ds, sp, h1, hr, h3, h4, h5⟩
         cls := Mo_.cls, mki := Mo_.mki, fok := Mo_.fok, fnm := Mo_.fnm, cnm := Mo_.cnm, free := Mo_.free, ity := Mo_.ity, itk := Mo_.itk, itb := Mo_.itb, inj := Mo_.inj }
  N := rfl
  sc := rfl
  fn := rfl
  nt := rfl
  pass := passes_of (X := cxOf (L2.CX P w) P w n.c.K mg base (dt f).N (dt f).qual (dt f).scope (n.fa f) cdv A outer s H E) (K := fun e s'' => L2.CX P w outer H s E e s'') (E₁ := fun e' s'' => L2.CX P w outer H s E e' s'') rfl
  kind := ((Mo_.defs f df hf).2.1).kind
theorem start_at {N : List Str} {vs : List V} {i : Nat} (h : i < vs.length) : (L2.start N vs)[i]? = some (some vs[i]) := by
  unfold L2.start
  rw [List.getElem?_append_left (by simpa using h), List.getElem?_map, List.getElem?_eq_getElem h]
  rfl
theorem repF_none {c : RC} {M : MM} {H : Hp} : ∀ {bs : List D} {s : Sl} {us : List V} {lf : List Addr}, (∀ d ∈ bs, d.md ≠ .own) → RepF c M H (finsOf bs s) us lf → lf = []
  | [], s, us, lf, h, r => by unfold finsOf at r; unfold RepF at r; exact r
  | b :: bs, [], us, lf, h, r => by unfold finsOf at r; unfold RepF at r; exact r
  | b :: bs, o :: s, [], lf, h, r => by
    unfold finsOf at r
    rw [if_neg (h b (by simp))] at r
    exact r
  | b :: bs, o :: s, u :: us, lf, h, r => by
    unfold finsOf at r
    rw [if_neg (h b (by simp))] at r
    exact repF_none (fun d hd => h d (by simp [hd])) (show RepF c M H (finsOf bs s) us lf from r)
theorem repF_cut {c : RC} {M : MM} {H : Hp} {bs : List D} {us : List V} (h : ∀ d ∈ bs, d.md ≠ .own) : ∀ {as : List D} {s : Sl} {vs : List V} {lf : List Addr}, vs.length = as.length → RepF c M H (finsOf (as ++ bs) s) (vs ++ us) lf → RepF c M H (finsOf (as ++ bs) s) vs lf
  | [], s, vs, lf, hl, r => by
    have : vs = [] := List.eq_nil_of_length_eq_zero hl
    subst this
    have e := repF_none h r
    subst e
    cases hf : finsOf ([] ++ bs) s with
    | nil => rfl
    | cons o fs => cases o <;> rfl
  | a :: as, [], vs, lf, hl, r => r
  | a :: as, o :: s, [], lf, hl, r => by simp at hl
  | a :: as, o :: s, v :: vs, lf, hl, r => by
    have e : finsOf (a :: as ++ bs) (o :: s) = (if a.md = .own then o else none) :: finsOf (as ++ bs) s := rfl
    rw [e] at r ⊢
    cases hq : (if a.md = .own then o else none : Option D) with
    | none =>
      rw [hq] at r
      exact repF_cut h (as := as) (by simpa using hl) (show RepF c M H (finsOf (as ++ bs) s) (vs ++ us) lf from r)
    | some d =>
      rw [hq] at r
      obtain ⟨l1, l2, h1, h2, h3⟩ := r
      exact ⟨l1, l2, h1, repF_cut h (as := as) (by simpa using hl) h2, h3⟩
theorem fn_lv {k : Nat} {r : (Nat → List D → RO) × (Nat → List D → RO)} (Mo_ : Mo n T dt mg base) (l1 : Lv n dt mg base P w k r.1) (l2 : ∀ f as, r.2 f as ≠ .stuck → ∃ j, k = j + 1 ∧ Lv n dt mg base P w j r.2) {f : Nat} {df : Df} (hf : T.defs f = some df) {fd : FuncData}
    (FD : FunD n.c.K (dt f).x (dt f).qual (dt f).params (dt f).body (dt f).scope (dt f).dvs [] (n.fa f) fd) {as : List D} (hlen : as.length = df.np) : FnOk P w n.c.K mg base (L2.CX P w) (k + 1) (n.fa f) fd (dt f).ps (fun vs H Q E => SpC n (runDf (GEof T r) whileV df as) as vs H Q E) := by
  obtain ⟨_, S, hps, hN, hdfl, hchk⟩ := Mo_.defs f df hf
  refine FD.ok S (fun vs H Q E h => ?_) (fun cdv A outer s H vs Q E hr h => ?_)
  · obtain ⟨M, l, ra, _⟩ := h
    rw [ra.len, hlen, hps]
  · obtain ⟨M, l, ra, hm, nd, dm, post⟩ := h
    have C := ctx_of (f := f) (df := df) (P := P) (w := w) (cdv := cdv) (A := A) (outer := outer) (s := s) (H := H) (E := E) Mo_ hf l1 l2 hr
    have sc := csSs (np := df.np) df.code (dt f).body hchk C
    obtain ⟨L, h1, h2, h3, h4⟩ := args_own ra nd
    have hvl : vs.length = (as).length := ra.len
    have hpl : (dt f).ps.length ≤ (dt f).N.length := by have := congrArg List.length S.pre; rw [List.length_take] at this; omega
    refine ⟨_, wss, ?_⟩
    refine sc (fun cls d _ H' => E cls d H') ?_ (fun i => match (as)[i]? with
      | some d => if d.md = .own then vs[i]? else none
      | none => none) (fun i v e => ?_) M (startS df (as)) (L2.start (dt f).N vs) H L _ ⟨?_, dm, fun i d e => ?_, h2, h3, fun i a ha => RepA.own ra a (h4 i a ha), fun i v e => ?_⟩ ?_
    · exact takes_of (X := cxOf (L2.CX P w) P w n.c.K mg base (dt f).N (dt f).qual (dt f).scope (n.fa f) cdv A outer s H E) (E := E) (E₁ := fun e' s'' => L2.CX P w outer H s E e' s'') rfl rfl rfl rfl
    · split at e
      · next d hd =>
        have := (List.getElem?_eq_some_iff.mp hd).1
        omega
      · cases e
    · unfold startS L2.start
      simp only [List.length_append, List.length_map, List.length_replicate]
      omega
    · unfold startS at e
      by_cases hi : i < (as).length
      · rw [List.getElem?_append_left (by simpa using hi), List.getElem?_map, List.getElem?_eq_getElem hi] at e
        have e : (as)[i] = d := by simpa using e
        obtain ⟨v, e1, rv⟩ := h1 i d (by rw [List.getElem?_eq_getElem hi, e])
        refine ⟨v, ?_, rv, hm d (by rw [← e]; exact List.getElem_mem hi)⟩
        have hi2 : i < vs.length := by omega
        rw [start_at hi2]
        rw [List.getElem?_eq_getElem hi2] at e1
        cases e1
        rfl
      · rw [List.getElem?_append_right (by simpa using hi)] at e
        rw [List.getElem?_replicate] at e
        split at e <;> cases e
    · split at e
      · next d hd =>
        split at e
        · next ho =>
          have hi2 := (List.getElem?_eq_some_iff.mp e).1
          refine ⟨?_, d, ?_, ho⟩
          · rw [start_at hi2, ← List.getElem?_eq_getElem hi2, e]
          · unfold startS
            have hi := (List.getElem?_eq_some_iff.mp hd).1
            rw [List.getElem?_append_left (by simpa using hi), List.getElem?_map, hd]
            rfl
        · cases e
      · cases e
    · refine body_post (as := as) (vs := vs) (fun i d v e1 e2 ho => ?_) hvl post
      rw [e1]
      dsimp only
      rw [if_pos ho, e2]
theorem lv_succ {k : Nat} {r : (Nat → List D → RO) × (Nat → List D → RO)} (Mo_ : Mo n T dt mg base) (l1 : Lv n dt mg base P w k r.1) (l2 : ∀ f as, r.2 f as ≠ .stuck → ∃ j, k = j + 1 ∧ Lv n dt mg base P w j r.2) :
    Lv n dt mg base P w (k + 1) (fun f ds => match T.defs f with
      | some df => if (fill df ds).length = df.np ∧ ds.length ≤ df.np then runDf (GEof T r) whileV df (fill df ds) else .stuck
      | none => .stuck) := by
  intro f as hns
  dsimp only at hns
  cases hf : T.defs f with
  | none => rw [hf] at hns; exact absurd rfl hns
  | some df =>
    rw [hf] at hns
    dsimp only at hns
    split at hns
    rotate_left
    · exact absurd rfl hns
    next hlen =>
    obtain ⟨⟨fd, FD, hB⟩, S, hps, hN, hdfl, hchk⟩ := Mo_.defs f df hf
    have hdl : df.dfl.length = (dt f).dvs.length := by have := congrArg List.length hdfl; simpa using this
    obtain ⟨ds, hv, hb⟩ := hB (df.dfl.length - (df.np - as.length)) (by omega)
    refine ⟨fd, (dt f).dvs.drop (df.dfl.length - (df.np - as.length)), ds, fun vs H Q E => SpC n (runDf (GEof T r) whileV df (fill df as)) (fill df as) vs H Q E, ?_, FD.kp, hv, hb, fun vs H Q E h => ?_⟩
    · exact fn_lv Mo_ l1 l2 hf FD hlen.1
    · obtain ⟨M, l, ra, hm, nd, dm, post⟩ := h
      have hrun : (match T.defs f with
        | some df => if (fill df as).length = df.np ∧ as.length ≤ df.np then runDf (GEof T r) whileV df (fill df as) else .stuck
        | none => .stuck) = runDf (GEof T r) whileV df (fill df as) := by
        rw [hf]; exact if_pos hlen
      have hd : (df.dfl.drop (df.dfl.length - (df.np - as.length))).map D.v = ((dt f).dvs.drop (df.dfl.length - (df.np - as.length))).map some := by
        rw [List.map_drop, hdfl, List.map_drop]
      obtain ⟨r1, r2⟩ := relA_dfl (c := n.c) (M := M) (H := H) hd
      refine ⟨M, l, relA_app ra r1, fun d hd => ?_, nd, dm, ?_⟩
      · rcases List.mem_append.mp hd with z | z
        · exact hm d z
        · exact (r2 d z).1
      · have post : PostRO n M H vs (runDf (GEof T r) whileV df (fill df as)) Q E := hrun ▸ post
        unfold runDf at post ⊢
        cases ho : execs (GEof T r) whileV df.np df.code (startS df (fill df as)) with
        | nx s => rw [ho] at post; exact fun v M' H' lr lf hc st rv rf nd => post v M' H' lr lf hc st rv (repF_cut (fun d hd => (r2 d hd).2) ra.len rf) nd
        | rt d s => rw [ho] at post; exact fun v M' H' lr lf hc st rv rf nd => post v M' H' lr lf hc st rv (repF_cut (fun d hd => (r2 d hd).2) ra.len rf) nd
        | bk s => rw [ho] at post; exact False.elim post
        | ct s => rw [ho] at post; exact False.elim post
        | ex c xs s =>
          rw [ho] at post
          have post : PostRO n M H vs (if xs.all D.cl = true then .ex c xs [] else .stuck) Q E := post
          show PostRO n M H _ (if xs.all D.cl = true then .ex c xs [] else .stuck) Q E
          split at post
          · next hc => rw [if_pos hc]; exact fun dx M' H' lf h1 st x rf nd => post dx M' H' lf h1 st x (by have : lf = [] := rf; exact this) nd
          · exact False.elim post
        | stuck => rw [ho] at post; exact False.elim post
end
end GS

namespace GS
open PySem PySem.Spec PyProof.Rows L2

section
variable {n : Env'} {T : TB} {dt : Nat → DT} {mg : Str → Option Value} {base : Heap} {P : Program} {w : World}
theorem lvs (Mo_ : Mo n T dt mg base) : ∀ k, Lv n dt mg base P w k (runs T whileV k).1 ∧ ∀ f as, (runs T whileV k).2 f as ≠ .stuck → ∃ j, k = j + 1 ∧ Lv n dt mg base P w j (runs T whileV k).2
  | 0 => ⟨fun f as h => absurd rfl h, fun f as h => absurd rfl h⟩
  | k + 1 => by
    obtain ⟨h1, h2⟩ := lvs Mo_ k
    exact ⟨lv_succ Mo_ h1 h2, fun f as h => ⟨k, rfl, h1⟩⟩
theorem fn_any {K : PySem.W.Frag} {CX : CXT} {k : Nat} {f : Addr} {fd : FuncData} {ps : List Str} {ι : Type} {p : ι → Prop} {sp : ι → Sp} (h : ∀ i, p i → FnOk P w K mg base CX k f fd ps (sp i)) : FnOk P w K mg base CX k f fd ps (fun vs H Q E => ∃ i, p i ∧ sp i vs H Q E) :=
  ⟨fun vs H Q E ⟨i, hp, q⟩ => (h i hp).len vs H Q E q, fun A outer s H args us vs Q E hr he hb hv ⟨i, hp, q⟩ => (h i hp).run A outer s H args us vs Q E hr he hb hv q⟩
/-- the script as the law sees it -/
def scriptD (ns : List Int) : D := .lst .br (ns.map .int)
theorem ints_rep {c : RC} {M : MM} {H : Hp} {p : Md} : ∀ ns : List Int, Reps c M H p (ns.map .int) (ns.map V.int) []
  | [] => ⟨rfl, rfl⟩
  | i :: ns => ⟨_, _, [], [], rfl, by cases p <;> rfl, ⟨rfl, rfl⟩, ints_rep ns, rfl⟩
/-- what the head asks of the law's promise -/
theorem script_sp {H : Hp} {a : Addr} {ns : List Int} {r : RO} (hO : Only H) (hS : SqL n.c.K H a (ns.map V.int)) (hr : r.val = .ok (.bl true)) : SpC n r [scriptD ns] [.ref a] H (fun v _ => v = .bl true) fun _ _ _ => False := by
  have post : ∀ M, PostRO n M H [.ref a] r (fun v _ => v = .bl true) fun _ _ _ => False := fun M => by
    cases r with
    | ret d f =>
      cases hr
      exact fun v M' H' lr lf _ _ rv _ _ => rv.1
    | ex c xs f => cases hr
    | stuck => cases hr
  have hmd : ∀ d ∈ [scriptD ns], d.md ≠ .vw := fun d hd => by
    have : d = scriptD ns := by simpa using hd
    rw [this]; simp [scriptD, D.md]
  rcases hS with hS | hS
  · obtain ⟨o, hf⟩ : ∃ o, H a = some (.frz o (.lst (ns.map V.int))) := by
      rcases hO a with z | ⟨o, xs, z⟩
      · rcases hS with q | ⟨o, q⟩ <;> (rw [z] at q; cases q)
      · rcases hS with q | ⟨o', q⟩
        · rw [z] at q; cases q
        · exact ⟨o', q⟩
    refine ⟨fun b => if b = a then some .br else none, [], ⟨.ref a, [], [], [], rfl, ⟨a, _, [], rfl, .inr ⟨rfl, .inr ⟨if_pos rfl, o, hf⟩⟩, ints_rep ns, rfl⟩, ⟨rfl, rfl⟩, rfl⟩, hmd, .nil, fun b hb => ?_, post _⟩
    by_cases z : b = a
    · rw [z, hf]; simp
    · dsimp only at hb
      rw [if_neg z] at hb
      exact absurd rfl hb
  · obtain ⟨o, its, k, h1, h2, h3, h4, h5, h6⟩ := hS
    exact ⟨fun _ => none, [], ⟨.ref a, [], [], [], rfl, ⟨a, _, [], rfl, .inr ⟨rfl, .inl ⟨o, its, k, h1, h2, fun _ => h3, h4, h5, h6⟩⟩, ints_rep ns, rfl⟩, ⟨rfl, rfl⟩, rfl⟩, hmd, .nil, fun b hb => absurd rfl hb, post _⟩
end

/-! ## tables of a law without classes -/
def frees : List Str := ["len", "abs", "min", "max", "any", "all", "str", "int", "list", "tuple", "dict", "sorted", "isinstance", "bool", "range", "enumerate", "zip", "reversed", "set"]
/-- a name's place in a table; behind it, other names -/
def nameAt (tbl : List Str) (i : Nat) : Str := match tbl[i]? with
  | some x => x
  | none => ⟨Array.replicate (i + 200) 35⟩
theorem nameAt_inj {tbl : List Str} (nd : tbl.Nodup) (hl : ∀ x ∈ tbl, x.cps.size < 200) (i j : Nat) (h : nameAt tbl i = nameAt tbl j) : i = j := by
  have big : ∀ {i}, tbl[i]? = none → (nameAt tbl i).cps.size = i + 200 := fun {i} e => by unfold nameAt; rw [e]; simp
  cases ei : tbl[i]? with
  | none =>
    cases ej : tbl[j]? with
    | none =>
      have := congrArg (fun x : Str => x.cps.size) h
      simp only [big ei, big ej] at this
      omega
    | some y =>
      have e2 : nameAt tbl j = y := by unfold nameAt; rw [ej]
      have := congrArg (fun x : Str => x.cps.size) h
      simp only [big ei, e2] at this
      have := hl y (List.mem_of_getElem? ej)
      omega
  | some x =>
    have e1 : nameAt tbl i = x := by unfold nameAt; rw [ei]
    cases ej : tbl[j]? with
    | none =>
      have := congrArg (fun x : Str => x.cps.size) h
      simp only [big ej, e1] at this
      have := hl x (List.mem_of_getElem? ei)
      omega
    | some y =>
      have e2 : nameAt tbl j = y := by unfold nameAt; rw [ej]
      rw [e1, e2] at h
      subst h
      exact nodup_ix nd ei ej
structure Tab where
  ds : List He.DefD
  dfs : List Df
  Ns : List (List Str)
  pss : List (List Str)
  an : List Str
def Tab.nt (t : Tab) : NT := ⟨fun f => match t.ds[f]? with
  | some d => d.name
  | none => "", fun _ => "", nameAt t.an, fun _ => "", fun f => decide (f < t.ds.length), fun _ => false⟩
def Tab.n (t : Tab) (K : PySem.W.Frag) : Env' := ⟨⟨K, t.nt.an, fun _ => 0⟩, fun _ => [], t.nt.fn, fun f => match t.ds[f]? with
  | some d => He.fAd K d.at_
  | none => 0, t.nt.cn, t.nt.gn, t.nt.okf, t.nt.okc⟩
def Tab.T (t : Tab) : TB := ⟨fun f => t.dfs[f]?, fun _ => .non, fun _ _ => none, fun _ => false, fun _ => [], fun _ => none, fun _ _ => false⟩
def noPar : Arguments := { posonlyargs := [], args := [], vararg := none, kwonlyargs := [], kw_defaults := [], kwarg := none, defaults := [] }
def noSc : Scope := { kind := .function, names := [], isGenerator := false, isCoroutine := false }
def Tab.dt (t : Tab) (K : PySem.W.Frag) (f : Nat) : DT := match t.ds[f]? with
  | some d => ⟨d.name, d.qual, d.params, d.body, d.scope, d.dvs K, (t.pss[f]?).getD [], (t.Ns[f]?).getD []⟩
  | none => ⟨"", "", noPar, [], noSc, [], [], []⟩
def Tab.fa (t : Tab) : List He.Fa := frees.map He.Fa.free ++ t.ds.map fun d => He.Fa.glo d.name
def fscB (N ps : List Str) (sc : Scope) : Bool := decide (sc.kind = .function) && !sc.isCoroutine && !sc.isGenerator && decide N.Nodup && decide (N.take ps.length = ps) && (ps.all fun x => decide (sc.names.lookup x = some .local) || decide (sc.names.lookup x = some .cell)) && (sc.names.all fun y => !decide (y.2 = .free))
theorem fsc_of {N ps : List Str} {sc : Scope} (h : fscB N ps sc = true) : FnScope N ps sc := by
  unfold fscB at h
  simp only [Bool.and_eq_true, decide_eq_true_eq, Bool.not_eq_true', List.all_eq_true, Bool.or_eq_true, decide_eq_false_iff_not] at h
  obtain ⟨⟨⟨⟨⟨⟨h1, h2⟩, h3⟩, h4⟩, h5⟩, h6⟩, h7⟩ := h
  exact ⟨h1, h2, h3, h4, h5, h6, h7⟩
/-- one def's text fits its small syntax -/
def defB (nt : NT) (d : He.DefD) (df : Df) (N ps : List Str) : Bool := decide (ps.length = df.np) && decide (N.length = df.ns) && fscB N ps d.scope && decide (d.at_.2 = none) && decide (d.at_.1 = d.name) && chSs ⟨nt, N, d.scope, fun _ => true⟩ df.code d.body
def Tab.okAt (t : Tab) (f : Nat) : Bool := match t.ds[f]?, t.dfs[f]?, t.Ns[f]?, t.pss[f]? with
  | some d, some df, some N, some ps => defB t.nt d df N ps
  | _, _, _, _ => false
theorem mo_plain (t : Tab) {K : PySem.W.Frag} {h base : Heap} {mg : Str → Option Value} (X : K.In h) (G : h.Ns mainGlobals mg) (c : He.SaysD t.fa t.ds K) (hl : t.dfs.length = t.ds.length) (hok : ∀ f, f < t.ds.length → t.okAt f = true) (nd : t.an.Nodup) (hz : ∀ x ∈ t.an, x.cps.size < 200)
    (hd : ∀ d ∈ t.ds, d.dfl = [] ∧ d.kwd = []) (hdf : ∀ df ∈ t.dfs, df.dfl = [])
    (hB : ∀ (f : Nat) (d : He.DefD) (ps : List Str), t.ds[f]? = some d → t.pss[f]? = some ps → ∀ (kV doc pm : Value) (an : Option Addr) (cdv ct : Value) (us : List Value), us.length = ps.length → bindArgs (PySem.W.fnOf d.name d.qual d.params d.body d.scope .none kV doc pm an cdv ct) ⟨us, []⟩ = pure (ps.zip us)) :
    Mo (t.n K) t.T (t.dt K) mg base where
  defs := fun f df hf => by
    have hf : t.dfs[f]? = some df := hf
    have hlt : f < t.ds.length := by rw [← hl]; exact (List.getElem?_eq_some_iff.mp hf).1
    have ed : t.ds[f]? = some t.ds[f] := List.getElem?_eq_getElem hlt
    have ok := hok f hlt
    unfold Tab.okAt at ok
    rw [ed, hf] at ok
    cases eN : t.Ns[f]? with
    | none => rw [eN] at ok; cases ok
    | some N =>
      cases ep : t.pss[f]? with
      | none => rw [eN, ep] at ok; cases ok
      | some ps =>
        rw [eN, ep] at ok
        dsimp only at ok
        unfold defB at ok
        simp only [Bool.and_eq_true, decide_eq_true_eq] at ok
        obtain ⟨⟨⟨⟨⟨o1, o2⟩, o3⟩, o4⟩, o5⟩, o6⟩ := ok
        obtain ⟨q1, q2⟩ := hd _ (List.getElem_mem hlt)
        obtain ⟨fd, FD⟩ := c.def_ f ed
        have ev : t.ds[f].dvs K = [] := by unfold He.DefD.dvs; rw [q1]; rfl
        have ek : t.ds[f].kws K = [] := by unfold He.DefD.kws; rw [q2]; rfl
        rw [ek] at FD
        have e1 : t.dt K f = ⟨t.ds[f].name, t.ds[f].qual, t.ds[f].params, t.ds[f].body, t.ds[f].scope, [], ps, N⟩ := by
          unfold Tab.dt
          rw [ed, eN, ep]
          dsimp only
          rw [ev]
          rfl
        have e2 : (t.n K).fa f = He.fAd K t.ds[f].at_ := by
          show (match t.ds[f]? with
            | some d => He.fAd K d.at_
            | none => 0) = _
          rw [ed]
        rw [e1]
        rw [ev] at FD
        refine ⟨⟨fd, by rw [e2]; exact FD, fun j hj => ⟨[], ?_, ?_⟩⟩, fsc_of o3, o1, o2, ?_, o6⟩
        · simp
          exact .nil
        · exact FD.bindsN (hB f _ ps ed ep)
        · rw [hdf df (List.mem_of_getElem? hf)]; rfl
  cls := fun k m f h => by cases h
  mki := fun k f h => by cases h
  fok := fun k f h => by cases h
  fnm := fun f h => by
    have hlt : f < t.ds.length := of_decide_eq_true h
    have ed : t.ds[f]? = some t.ds[f] := List.getElem?_eq_getElem hlt
    have ef : t.fa[frees.length + f]? = some (.glo t.ds[f].name) := by
      unfold Tab.fa
      rw [List.getElem?_append_right (by simp), List.length_map, Nat.add_sub_cancel_left, List.getElem?_map, ed]
      rfl
    have g := He.glo_ok X G (c.fact _ ef)
    have ok := hok f hlt
    unfold Tab.okAt at ok
    rw [ed] at ok
    obtain ⟨fd, FD⟩ := c.def_ f ed
    have e2 : (t.n K).fa f = He.fAd K t.ds[f].at_ := by
      show (match t.ds[f]? with
        | some d => He.fAd K d.at_
        | none => 0) = _
      rw [ed]
    have e3 : (t.n K).fn f = t.ds[f].name := by
      show (match t.ds[f]? with
        | some d => d.name
        | none => "") = _
      rw [ed]
    split at ok
    · next d df N ps h1 h2 h3 h4 =>
      cases h1
      unfold defB at ok
      simp only [Bool.and_eq_true, decide_eq_true_eq] at ok
      obtain ⟨⟨⟨⟨⟨o1, o2⟩, o3⟩, o4⟩, o5⟩, o6⟩ := ok
      have e4 : He.fAd K t.ds[f].at_ = He.ga K t.ds[f].name := by
        unfold He.fAd
        rw [o4, o5]
      rw [e2, e3, e4]
      refine ⟨g, ?_⟩
      have := FD.kp
      rw [e4] at this
      exact this
    · cases ok
  cnm := fun k h => by cases h
  free := fun x hx => by
    obtain ⟨i, hi⟩ := List.getElem?_of_mem (show x ∈ frees from hx)
    have hlt := (List.getElem?_eq_some_iff.mp hi).1
    have ef : t.fa[i]? = some (.free x) := by
      unfold Tab.fa
      rw [List.getElem?_append_left (by rw [List.length_map]; exact hlt), List.getElem?_map, hi]
      rfl
    exact He.free_ok X G (c.fact _ ef)
  ity := fun k h => absurd rfl h
  itk := fun ⟨k, h⟩ => absurd rfl h
  itb := fun T _ c h => by cases h
  inj := nameAt_inj nd hz

/-! ## the law's def, the head -/
/-- the scripts -/
def Scr (ns : List Int) : Prop := ns.length ≤ 63 ∧ ∀ z ∈ ns, Builtin.Int.intBits z ≤ 1048576
def lawSp (n : Env') (T : TB) (k lw : Nat) : Sp := fun vs H Q E => ∃ ns : List Int, Scr ns ∧ SpC n ((runs T whileV (k + 1)).1 lw [scriptD ns]) [scriptD ns] vs H Q E
theorem law_fn {n : Env'} {T : TB} {dt : Nat → DT} {mg : Str → Option Value} {base : Heap} {P : Program} {w : World} {k lw : Nat} {df : Df} {fd : FuncData} (Mo_ : Mo n T dt mg base) (hf : T.defs lw = some df) (hnp : df.np = 1) (hd : df.dfl = [])
    (FD : FunD n.c.K (dt lw).x (dt lw).qual (dt lw).params (dt lw).body (dt lw).scope (dt lw).dvs [] (n.fa lw) fd) : FnOk P w n.c.K mg base (L2.CX P w) (k + 1) (n.fa lw) fd (dt lw).ps (lawSp n T k lw) := by
  obtain ⟨l1, l2⟩ := lvs (P := P) (w := w) Mo_ k
  refine fn_any fun ns _ => ?_
  have e : (runs T whileV (k + 1)).1 lw [scriptD ns] = runDf (GEof T (runs T whileV k)) whileV df [scriptD ns] := by
    show (match T.defs lw with
      | some df => if (fill df [scriptD ns]).length = df.np ∧ [scriptD ns].length ≤ df.np then runDf (GEof T (runs T whileV k)) whileV df (fill df [scriptD ns]) else .stuck
      | none => .stuck) = _
    rw [hf]
    have ef : fill df [scriptD ns] = [scriptD ns] := by unfold fill; rw [hd]; simp
    dsimp only
    rw [ef, if_pos ⟨by rw [hnp]; rfl, by rw [hnp]; exact Nat.le_refl _⟩]
  rw [e]
  exact fn_lv Mo_ l1 l2 hf FD (by rw [hnp]; rfl)
theorem law_sp {n : Env'} {T : TB} {k lw : Nat} (math : ∀ ns, Scr ns → ((runs T whileV (k + 1)).1 lw [scriptD ns]).val = .ok (.bl true)) {H : Hp} {a : Addr} {ns : List Int} (hs : Scr ns) (hO : Only H) (hS : SqL n.c.K H a (ns.map V.int)) :
    lawSp n T k lw [.ref a] H (fun v _ => v = .bl true) fun _ _ _ => False := ⟨ns, hs, script_sp hO hS (math ns hs)⟩
theorem walk_ofG {l : PySem.W.OpenLaw} {k : Nat} {q : Program} {loose : List Str} {XP : (Str → Option Value) → Heap → Prop} {YP : World → Heap → Prop} {d : DefRec} {x : Str}
    (hn : l.most = some 63) (hdf : d.params.defaults = []) (hr : Room k callerA)
    (F : ∀ (w : World) (mg : Str → Option Value) (fa : Addr) (h : Heap), YP w h → h.Ns mainGlobals mg → mg d.name = some (.ref fa) →
      ∃ (K : PySem.W.Frag) (fd : FuncData) (sp : Sp), K.In h ∧ (∀ (s : Shared) (u : Value), BindsTo s fd ⟨[u], []⟩ [(x, u)]) ∧
        (∀ (H : Hp) (a : Addr) (ns : List Int), Scr ns → Only H → SqL K H a (ns.map V.int) → sp [.ref a] H (fun v _ => v = .bl true) fun _ _ _ => False) ∧
        ∀ base : Heap, K.In base → base.Ns mainGlobals mg → FnOk l.prog w K mg base (L2.CX l.prog w) k fa fd [x] sp) :
    PySem.W.WalkO q loose XP YP l.row.toRowW d [] (fun f vs => PySem.call f vs) := by
  refine Att.attach_callB hn hdf fun w s₀ s₁ mg mb fa o pm cd doc a vs ns G Y ho hd hcd hmg hobj hints hlen hbits hg => ?_
  obtain ⟨K, fd, sp, KX, hb, hsp, hF⟩ := F w mg fa _ Y G.T.g hmg
  exact law_call KX G.T.g G.T.b G.T.builtins G.T.nolimit hg hobj hints (Nat.le_trans hlen (by decide)) hr hF hb (fun H hO hS => hsp H a ns ⟨hlen, hbits⟩ hO hS) fun H e s' c => by
    obtain ⟨_, _, _, _, _, _, _, _, _, _, _, _, z⟩ := c
    exact z
end GS

namespace GS
open PySem PySem.Spec PyProof.Rows L2

/-! ## running the small syntax: rows for simp -/
section
variable {G : GE} {W : (Sl → Sl ⊕ Out) → Sl → Out} {np : Nat} {s : Sl}
@[simp] theorem e_cst {d : D} : evalE G (.cst d) s = .ok d := by rw [evalE]
@[simp] theorem e_var {i : Nat} : evalE G (.var i) s = Res.ofOpt (s[i]?).join := by
  rw [evalE]
  cases s[i]? with
  | none => rfl
  | some o => cases o <;> rfl
@[simp] theorem e_op {o : Bop} {a b : Tm} : evalE G (.op o a b) s = (evalE G a s).bind fun x => (evalE G b s).bind fun y => vBop o x y := by rw [evalE]
@[simp] theorem e_neg {a : Tm} : evalE G (.neg a) s = (evalE G a s).bind vNeg := by rw [evalE]
@[simp] theorem e_cmp {o : Cop} {a b : Tm} : evalE G (.cmp o a b) s = (evalE G a s).bind fun x => (evalE G b s).bind fun y => (vCop o x y).bind fun r => .ok (.bl r) := by rw [evalE]
@[simp] theorem e_and {es : List Tm} : evalE G (.and es) s = (evalAnd G es s).bind fun b => .ok (.bl b) := by rw [evalE]
@[simp] theorem e_or {es : List Tm} : evalE G (.or es) s = (evalOr G es s).bind fun b => .ok (.bl b) := by rw [evalE]
@[simp] theorem e_not {a : Tm} : evalE G (.not a) s = (evalE G a s).bind fun x => (vBl x).bind fun b => .ok (.bl (!b)) := by rw [evalE]
@[simp] theorem e_ife {c a b : Tm} : evalE G (.ife c a b) s = (evalE G c s).bind fun x => (vTru x).bind fun r => if r = true then evalE G a s else evalE G b s := by rw [evalE]
@[simp] theorem e_fld {a : Tm} {f : Nat} : evalE G (.fld a f) s = (evalE G a s).bind (vFld G.fok f) := by rw [evalE]
@[simp] theorem e_ix {a b : Tm} : evalE G (.ix a b) s = (evalE G a s).bind fun x => (evalE G b s).bind fun y => vIx x y := by rw [evalE]
@[simp] theorem e_slc {a : Tm} {lo hi : Option Tm} : evalE G (.slc a lo hi) s = (evalE G a s).bind fun x => (evalO G lo s).bind fun l => (evalO G hi s).bind fun h => vSlc x l h := by rw [evalE]
@[simp] theorem e_lst {es : List Tm} : evalE G (.lst es) s = (evalL G es s).bind fun ds => Res.guard (ds.all D.cl && decide (ds.length ≤ sizeLine)) (.ok (.lst .own ds)) := by rw [evalE]
@[simp] theorem e_tup {es : List Tm} : evalE G (.tup es) s = (evalL G es s).bind fun ds => Res.guard (ds.all D.cl && decide (ds.length ≤ sizeLine)) (.ok (.tup .own ds)) := by rw [evalE]
@[simp] theorem e_cal {f : Nat} {es : List Tm} : evalE G (.cal f es) s = (evalL G es s).bind fun ds => (G.call f (ds.map D.arg)).val := by rw [evalE]
@[simp] theorem e_blt {b : Blt} {es : List Tm} : evalE G (.blt b es) s = (evalL G es s).bind fun ds => vBlt b ds := by rw [evalE]
@[simp] theorem e_isi {a : Tm} {k : Isi} : evalE G (.isi a k) s = (evalE G a s).bind fun x => (vIsi G.sub k x).bind fun r => .ok (.bl r) := by rw [evalE]
@[simp] theorem l_nil : evalL G [] s = .ok [] := by rw [evalL]
@[simp] theorem l_cons {t : Tm} {ts : List Tm} : evalL G (t :: ts) s = (evalE G t s).bind fun d => (evalL G ts s).bind fun ds => .ok (d :: ds) := by rw [evalL]
@[simp] theorem o_none : evalO G none s = .ok none := by rw [evalO]
@[simp] theorem o_some {t : Tm} : evalO G (some t) s = (evalE G t s).bind fun d => (vInt d).bind fun i => .ok (some i) := by rw [evalO]
@[simp] theorem a_nil : evalAnd G [] s = .ok true := by rw [evalAnd]
@[simp] theorem a_cons {t : Tm} {ts : List Tm} : evalAnd G (t :: ts) s = (evalE G t s).bind fun d => (vBl d).bind fun b => if b = true then evalAnd G ts s else .ok false := by rw [evalAnd]
@[simp] theorem r_nil : evalOr G [] s = .ok false := by rw [evalOr]
@[simp] theorem r_cons {t : Tm} {ts : List Tm} : evalOr G (t :: ts) s = (evalE G t s).bind fun d => (vBl d).bind fun b => if b = true then .ok true else evalOr G ts s := by rw [evalOr]
@[simp] theorem i_seq {st : Bool} {a : Tm} : evalI G st (.seq a) s = (evalE G a s).bind fun x => Res.guard (walkOk st x) (vSeq x) := by rw [evalI]
@[simp] theorem i_rng1 {st : Bool} {a : Tm} : evalI G st (.rng1 a) s = (evalE G a s).bind fun x => (vInt x).bind fun n => Res.guard (small62 n) (.ok (rangeD 0 n.toNat)) := by rw [evalI]
@[simp] theorem i_rng2 {st : Bool} {a b : Tm} : evalI G st (.rng2 a b) s = (evalE G a s).bind fun x => (vInt x).bind fun m => (evalE G b s).bind fun y => (vInt y).bind fun n => Res.guard (small62 m && small62 n) (.ok (rangeD m (n - m).toNat)) := by rw [evalI]
@[simp] theorem x_nil : execs G W np [] s = .nx s := by rw [execs]
@[simp] theorem x_cons {c : Cm} {cs : List Cm} : execs G W np (c :: cs) s = (exec G W np c s).bind fun s' => execs G W np cs s' := by rw [execs]
@[simp] theorem x_set {i : Nat} {t : Tm} : exec G W np (.set i t) s = Out.ofRes s (evalE G t (viewS s)) fun d => ofOpt (setS np i d s) := by rw [exec]
@[simp] theorem x_ret {t : Tm} : exec G W np (.ret t) s = Out.ofRes s (evalE G t (viewS s)) fun d => if d.cl = true then .rt d s else .stuck := by rw [exec]
@[simp] theorem x_retv {i : Nat} : exec G W np (.retv i) s = Out.ofRes s (Res.ofOpt (s[i]?).join) fun d => if (d.cl && decide (np ≤ i)) = true then .rt d (s.set i none) else .stuck := by
  rw [exec]
  cases s[i]? with
  | none => rfl
  | some o => cases o <;> rfl
@[simp] theorem x_ite {c : Tm} {a b : List Cm} : exec G W np (.ite c a b) s = Out.ofRes s ((evalE G c (viewS s)).bind vTru) fun r => if r = true then execs G W np a s else execs G W np b s := by rw [exec]
@[simp] theorem x_whl {c : Tm} {b : List Cm} : exec G W np (.whl c b) s = W (fun s => toStep s ((evalE G c (viewS s)).bind vTru) (fun s => execs G W np b s)) s := by rw [exec]
@[simp] theorem x_for {g : Tg} {it : Itr} {b : List Cm} : exec G W np (.for_ g it b) s = Out.ofRes s (evalI G true it (viewS s)) fun ds => forL (bindS np g) (fun s => execs G W np b s) ds s := by rw [exec]
@[simp] theorem x_brk : exec G W np .brk s = .bk s := by rw [exec]
@[simp] theorem x_cnt : exec G W np .cnt s = .ct s := by rw [exec]
@[simp] theorem x_pas : exec G W np .pas s = .nx s := by rw [exec]
@[simp] theorem view_nil : viewS [] = [] := rfl
@[simp] theorem view_some {d : D} {s : Sl} : viewS (some d :: s) = some (d.own2 .vw) :: viewS s := rfl
@[simp] theorem view_none {s : Sl} : viewS (none :: s) = none :: viewS s := rfl
@[simp] theorem own2_int {m : Md} {i : Int} : D.own2 m (.int i) = .int i := rfl
@[simp] theorem own2_bl {m : Md} {i : Bool} : D.own2 m (.bl i) = .bl i := rfl
@[simp] theorem own2_non {m : Md} : D.own2 m .non = .non := rfl
@[simp] theorem own2_str {m : Md} {i : Str} : D.own2 m (.str i) = .str i := rfl
@[simp] theorem own2_lbr {m : Md} {ds : List D} : D.own2 m (.lst .br ds) = .lst .br ds := rfl
@[simp] theorem own2_lfz {m : Md} {ds : List D} : D.own2 m (.lst .fz ds) = .lst .fz ds := rfl
@[simp] theorem own2_lown {m : Md} {ds : List D} : D.own2 m (.lst .own ds) = .lst m (D.own2s m ds) := rfl
@[simp] theorem own2s_ints {m : Md} (ns : List Int) : D.own2s m (ns.map D.int) = ns.map D.int := by rw [own2s_map, List.map_map]; rfl
@[simp] theorem arg_int {i : Int} : D.arg (.int i) = .int i := rfl
@[simp] theorem arg_bl {i : Bool} : D.arg (.bl i) = .bl i := rfl
@[simp] theorem arg_non : D.arg .non = .non := rfl
@[simp] theorem arg_str {i : Str} : D.arg (.str i) = .str i := rfl
@[simp] theorem arg_lbr {ds : List D} : D.arg (.lst .br ds) = .lst .br ds := rfl
@[simp] theorem cl_int {i : Int} : D.cl (.int i) = true := rfl
@[simp] theorem cl_bl {i : Bool} : D.cl (.bl i) = true := rfl
@[simp] theorem cl_non : D.cl .non = true := rfl
@[simp] theorem cl_str {i : Str} : D.cl (.str i) = true := rfl
@[simp] theorem nv_int {i : Int} : notVw (.int i) = true := rfl
@[simp] theorem nv_bl {i : Bool} : notVw (.bl i) = true := rfl
@[simp] theorem nv_non : notVw .non = true := rfl
@[simp] theorem nv_str {i : Str} : notVw (.str i) = true := rfl
@[simp] theorem md_int {i : Int} : D.md (.int i) = .fz := rfl
@[simp] theorem md_bl {i : Bool} : D.md (.bl i) = .fz := rfl
@[simp] theorem md_non : D.md .non = .fz := rfl
@[simp] theorem md_str {i : Str} : D.md (.str i) = .fz := rfl
@[simp] theorem b_add {i j : Int} : vBop .add (.int i) (.int j) = .ok (.int (i + j)) := rfl
@[simp] theorem b_sub {i j : Int} : vBop .sub (.int i) (.int j) = .ok (.int (i - j)) := rfl
@[simp] theorem b_mul {i j : Int} : vBop .mul (.int i) (.int j) = Res.guard (mulOk i j) (.ok (.int (i * j))) := rfl
theorem divOk_of {j : Int} (h0 : 0 < j) (h : j < 18446744073709551616) : divOk j = true := by
  unfold divOk
  have e : j.natAbs.log2 < 9000 := by
    have h1 : j.natAbs < 2 ^ 64 := by omega
    have h2 : j.natAbs ≠ 0 := by omega
    have := (Nat.log2_lt h2).mpr h1
    omega
  simp [e]; omega
@[simp] theorem b_fdiv {i j : Int} (h0 : 0 < j) (h : j < 18446744073709551616) : vBop .fdiv (.int i) (.int j) = .ok (.int (i.fdiv j)) := by
  show Res.guard (divOk j) _ = _
  rw [divOk_of h0 h]; rfl
@[simp] theorem b_mod {i j : Int} (h0 : j ≠ 0) : vBop .mod (.int i) (.int j) = .ok (.int (i.fmod j)) := by
  show Res.guard (decide (j ≠ 0)) _ = _
  rw [decide_eq_true h0]; rfl
@[simp] theorem n_int {i : Int} : vNeg (.int i) = .ok (.int (-i)) := rfl
@[simp] theorem q_int {i j : Int} : vEq (.int i) (.int j) = .ok (decide (i = j)) := rfl
@[simp] theorem c_eq {x y : D} : vCop .eq x y = vEq x y := by cases x <;> cases y <;> rfl
@[simp] theorem c_ne {x y : D} : vCop .ne x y = (vEq x y).bind fun b => .ok (!b) := by cases x <;> cases y <;> rfl
@[simp] theorem c_lt {i j : Int} : vCop .lt (.int i) (.int j) = .ok (decide (i < j)) := rfl
@[simp] theorem c_le {i j : Int} : vCop .le (.int i) (.int j) = .ok (decide (i ≤ j)) := rfl
@[simp] theorem c_gt {i j : Int} : vCop .gt (.int i) (.int j) = .ok (decide (j < i)) := rfl
@[simp] theorem c_ge {i j : Int} : vCop .ge (.int i) (.int j) = .ok (decide (j ≤ i)) := rfl
@[simp] theorem t_bl {b : Bool} : vTru (.bl b) = .ok b := rfl
@[simp] theorem t_int {i : Int} : vTru (.int i) = .ok (i != 0) := rfl
@[simp] theorem vbl_bl {b : Bool} : vBl (.bl b) = .ok b := rfl
@[simp] theorem vint_int {i : Int} : vInt (.int i) = .ok i := rfl
@[simp] theorem len_lst {m : Md} {ds : List D} : vBlt .len [.lst m ds] = .ok (.int ds.length) := rfl
@[simp] theorem abs_int {i : Int} : vBlt .abs [.int i] = .ok (.int (if i < 0 then -i else i)) := rfl
@[simp] theorem ix_lst {m : Md} {ds : List D} {i : Int} : vIx (.lst m ds) (.int i) = Res.ofOpt (atI ds i) := rfl
@[simp] theorem toRO_rt {as : List D} {d : D} : (Out.rt d s).toRO as = .ret d (finsOf as s) := rfl
@[simp] theorem toRO_nx {as : List D} : (Out.nx s).toRO as = .ret .non (finsOf as s) := rfl
@[simp] theorem run_eq {df : Df} {as : List D} : runDf G W df as = (execs G W df.np df.code (startS df as)).toRO as := rfl
theorem call_eq {T : TB} {k f : Nat} {df : Df} {as : List D} (h : T.defs f = some df) (hl : as.length = df.np) (hd : df.dfl = []) : (runs T whileV (k + 1)).1 f as = runDf (GEof T (runs T whileV k)) whileV df as := by
  show (match T.defs f with
      | some df => if (fill df as).length = df.np ∧ as.length ≤ df.np then runDf (GEof T (runs T whileV k)) whileV df (fill df as) else .stuck
      | none => .stuck) = _
  rw [h]
  have e : fill df as = as := by unfold fill; rw [hd]; simp
  dsimp only
  rw [e, if_pos ⟨hl, Nat.le_of_eq hl⟩]
@[simp] theorem ge_call {T : TB} {r : (Nat → List D → RO) × (Nat → List D → RO)} : (GEof T r).call = r.1 := rfl
@[simp] theorem ge_sub {T : TB} {r : (Nat → List D → RO) × (Nat → List D → RO)} : (GEof T r).sub = T.sub := rfl
theorem view_c {o : Option D} {s : Sl} : viewS (o :: s) = o.map (D.own2 .vw) :: viewS s := rfl
theorem forL_inv {bnd : D → Sl → Option Sl} {body : Sl → Out} (P : Nat → Sl → Prop) : ∀ (ds : List D) (s : Sl) (i : Nat), P i s → (∀ i d s, d ∈ ds → P i s → ∃ s1 s2, bnd d s = some s1 ∧ body s1 = .nx s2 ∧ P (i + 1) s2) → ∃ s', forL bnd body ds s = .nx s' ∧ P (i + ds.length) s'
  | [], s, i, h, _ => ⟨s, rfl, h⟩
  | d :: ds, s, i, h, hs => by
    obtain ⟨s1, s2, h1, h2, h3⟩ := hs i d s (by simp) h
    obtain ⟨s', h4, h5⟩ := forL_inv P ds s2 (i + 1) h3 fun i x s hx => hs i x s (by simp [hx])
    refine ⟨s', ?_, by rw [List.length_cons, show i + (ds.length + 1) = i + 1 + ds.length by omega]; exact h5⟩
    unfold forL
    rw [h1]
    dsimp only
    rw [h2]
    exact h4
theorem cutD_map {α β : Type} (f : α → β) (xs : List α) (lo hi : Option Int) : cutD (xs.map f) lo hi = (cutD xs lo hi).map f := by
  unfold cutD; simp [List.map_take, List.map_drop]
theorem cls_ints (ns : List Int) : (ns.map D.int).all D.cl = true := by simp
@[simp] theorem slc_ints {m : Md} {ns : List Int} {lo hi : Option Int} : vSlc (.lst m (ns.map D.int)) lo hi = .ok (.lst .own ((cutD ns lo hi).map D.int)) := by
  show Res.guard _ _ = _
  rw [cutD_map, cls_ints, own2s_ints]; rfl
@[simp] theorem seq_ints {ns : List Int} : vSeq (.lst .own (ns.map D.int)) = .ok (ns.map D.int) := by
  show Res.ok _ = _
  rw [own2s_ints]
@[simp] theorem walk_own {st : Bool} {ds : List D} : walkOk st (.lst .own ds) = true := by cases st <;> rfl
@[simp] theorem walk_br {st : Bool} {ds : List D} : walkOk st (.lst .br ds) = true := by cases st <;> rfl
@[simp] theorem walk_fz {st : Bool} {ds : List D} : walkOk st (.lst .fz ds) = true := by cases st <;> rfl
theorem atI_ints {ns : List Int} {j : Nat} (h : j < ns.length) : atI (ns.map D.int) (j : Int) = some (.int ns[j]) := by
  have hj : ((j : Nat) : Int) < ((ns.map D.int).length : Nat) := by rw [List.length_map]; omega
  unfold atI ixN
  rw [if_pos (by omega), if_pos hj]
  simp [h]
theorem bits_lt {i : Int} {k : Nat} (h : i.natAbs < 2 ^ k) : Builtin.Int.intBits i ≤ k := by
  unfold Builtin.Int.intBits
  split
  · omega
  · next h0 =>
    have h0 : i ≠ 0 := by simpa using h0
    have := (Nat.log2_lt (by omega)).mpr h
    omega
theorem mulOk_l {i j : Int} (h : i.natAbs < 2 ^ 64) : mulOk i j = true := by
  have : Builtin.Int.intBits i ≤ 64 := bits_lt h
  unfold mulOk shortFactorBits
  rw [decide_eq_false (by omega)]
  rfl
theorem mulOk_r {i j : Int} (h : j.natAbs < 2 ^ 64) : mulOk i j = true := by
  have : Builtin.Int.intBits j ≤ 64 := bits_lt h
  unfold mulOk shortFactorBits
  rw [decide_eq_false (p := Builtin.Int.intBits j > 64) (by omega), Bool.and_false]
  rfl
theorem mulOk_b {i j : Int} {a b : Nat} (h1 : i.natAbs < 2 ^ a) (h2 : j.natAbs < 2 ^ b) (h : a + b ≤ 100000) : mulOk i j = true := by
  have e1 := bits_lt h1
  have e2 := bits_lt h2
  unfold mulOk Builtin.Int.intTooBig
  have : decide (((Builtin.Int.intBits i : Nat) : Int) + ((Builtin.Int.intBits j : Nat) : Int) > ((bitsLine : Nat) : Int)) = false := by
    apply decide_eq_false
    unfold bitsLine
    omega
  rw [this, Bool.and_false]
  rfl
end
end GS

namespace GS.K01
open PySem PySem.Spec PyProof.Rows L2 GS
def top (i : Nat) : Stmt := PySem.Challenge.pw_gainstream_k01_divisor.main.body.getD i (.Pass ⟨0, 0, 0, 0⟩)
/-- divisor -/
def dd0 : He.DefD := ⟨("divisor", none), "divisor", "divisor", defArgs (top 1), defBody (top 1), defScope (top 1), [], []⟩
def nn0 : List Str := ["one", "other", "rest"]
def pp0 : List Str := ["one", "other"]
def df0 : Df := ⟨2, 3, [.set 0 (.blt .abs [.var 0]),
  .set 1 (.blt .abs [.var 1]),
  .whl (.cmp .ne (.var 1) (.cst (.int 0))) [.set 2 (.op .mod (.var 0) (.var 1)), .set 0 (.var 1), .set 1 (.var 2)],
  .ret (.var 0)], []⟩
/-- _law_cell_at -/
def dd1 : He.DefD := ⟨("_law_cell_at", none), "_law_cell_at", "_law_cell_at", defArgs (top 3), defBody (top 3), defScope (top 3), [], []⟩
def nn1 : List Str := ["_law_script", "_law_k"]
def pp1 : List Str := ["_law_script", "_law_k"]
def df1 : Df := ⟨2, 2, [.ite (.cmp .lt (.var 1) (.blt .len [.var 0])) [.ret (.ix (.var 0) (.var 1))] [],
  .ret (.cst (.int 0))], []⟩
/-- _law_whole -/
def dd2 : He.DefD := ⟨("_law_whole", none), "_law_whole", "_law_whole", defArgs (top 4), defBody (top 4), defScope (top 4), [], []⟩
def nn2 : List Str := ["_law_found"]
def pp2 : List Str := ["_law_found"]
def df2 : Df := ⟨1, 1, [.ret (.and [.isi (.var 0) .int, .not (.isi (.var 0) .bool)])], []⟩
/-- _law_quotient -/
def dd3 : He.DefD := ⟨("_law_quotient", none), "_law_quotient", "_law_quotient", defArgs (top 5), defBody (top 5), defScope (top 5), [], []⟩
def nn3 : List Str := ["_law_cell"]
def pp3 : List Str := ["_law_cell"]
def df3 : Df := ⟨1, 1, [.ite (.cmp .eq (.op .mod (.var 0) (.cst (.int 5))) (.cst (.int 2))) [.ret (.op .add (.cst (.int 1)) (.op .mod (.op .fdiv (.var 0) (.cst (.int 5))) (.cst (.int 9999))))] [],
  .ret (.op .add (.cst (.int 1)) (.op .mod (.op .fdiv (.var 0) (.cst (.int 5))) (.cst (.int 9))))], []⟩
/-- law -/
def dd4 : He.DefD := ⟨("law", none), "law", "law", defArgs (top 6), defBody (top 6), defScope (top 6), [], []⟩
def nn4 : List Str := ["_law_script", "_law_by", "_law_one", "_law_other", "_law_cell", "_law_signs", "_law_rest", "_law_found"]
def pp4 : List Str := ["_law_script"]
def df4 : Df := ⟨1, 8, [.set 1 (.op .mod (.op .fdiv (.cal 1 [.var 0, .cst (.int 0)]) (.cst (.int 4))) (.cst (.int 100))),
  .ite (.cmp .eq (.op .mod (.cal 1 [.var 0, .cst (.int 0)]) (.cst (.int 4))) (.cst (.int 1))) [.set 1 (.op .mod (.op .fdiv (.cal 1 [.var 0, .cst (.int 0)]) (.cst (.int 4))) (.op .pow (.cst (.int 10)) (.cst (.int 40))))] [],
  .set 2 (.cst (.int 1)),
  .set 3 (.cst (.int 0)),
  .for_ (.nm 4) (.seq (.slc (.var 0) (some (.cst (.int 3))) (some (.cst (.int 63))))) [.set 6 (.var 2), .set 2 (.op .add (.op .mul (.cal 3 [.var 4]) (.var 2)) (.var 3)), .set 3 (.var 6)],
  .set 5 (.cal 1 [.var 0, .cst (.int 1)]),
  .set 2 (.op .mul (.op .mul (.var 2) (.var 1)) (.op .sub (.cst (.int 1)) (.op .mul (.cst (.int 2)) (.op .mod (.var 5) (.cst (.int 2)))))),
  .set 3 (.op .mul (.op .mul (.var 3) (.var 1)) (.op .sub (.cst (.int 1)) (.op .mul (.cst (.int 2)) (.op .mod (.op .fdiv (.var 5) (.cst (.int 2))) (.cst (.int 2)))))),
  .ite (.cmp .eq (.op .mod (.cal 1 [.var 0, .cst (.int 2)]) (.cst (.int 2))) (.cst (.int 1))) [.set 7 (.cal 0 [.var 3, .var 2])] [.set 7 (.cal 0 [.var 2, .var 3])],
  .ret (.and [.cal 2 [.var 7], .cmp .eq (.var 7) (.var 1)])], []⟩
def tab : Tab := ⟨[dd0, dd1, dd2, dd3, dd4], [df0, df1, df2, df3, df4], [nn0, nn1, nn2, nn3, nn4], [pp0, pp1, pp2, pp3, pp4], []⟩
theorem okAll : ∀ f, f < tab.ds.length → tab.okAt f = true := by
  intro f hf
  have hf : f < 5 := hf
  match f, hf with
  | 0, _ => decide +kernel
  | 1, _ => decide +kernel
  | 2, _ => decide +kernel
  | 3, _ => decide +kernel
  | 4, _ => decide +kernel
theorem binds : ∀ (f : Nat) (d : He.DefD) (ps : List Str), tab.ds[f]? = some d → tab.pss[f]? = some ps → ∀ (kV doc pm : Value) (an : Option Addr) (cdv ct : Value) (us : List Value), us.length = ps.length → bindArgs (PySem.W.fnOf d.name d.qual d.params d.body d.scope .none kV doc pm an cdv ct) ⟨us, []⟩ = pure (ps.zip us) := by
  intro f d ps hd hp kV doc pm an cdv ct us hl
  match f, hd, hp, us, hl with
  | 0, hd, hp, us, hl => cases hd; cases hp; match us, hl with | [_, _], _ => rfl
  | 1, hd, hp, us, hl => cases hd; cases hp; match us, hl with | [_, _], _ => rfl
  | 2, hd, hp, us, hl => cases hd; cases hp; match us, hl with | [_], _ => rfl
  | 3, hd, hp, us, hl => cases hd; cases hp; match us, hl with | [_], _ => rfl
  | 4, hd, hp, us, hl => cases hd; cases hp; match us, hl with | [_], _ => rfl
  | n + 5, hd, hp, us, hl => cases hd
abbrev R : PySem.W.OpenRow := PySem.W.OpenLaw.row PySem.Challenge.rw_gainstream_k01_divisor
abbrev hk : PySem.W.Hook := He.hookD 4 tab.fa tab.ds
def ob (s : PySem.W.SharedT) : He.AlD := He.obsDG 4 tab.fa tab.ds (HandSHeadRun.getT s)
theorem ob_eq (s : PySem.W.SharedT) : ob s = hk.obs s.abs := He.obsDG_eq (HandSHeadRun.getT_eq s)
theorem run (w : World) : HandSHeadRun.RunEq R (PySem.W.view R.prog [6]) hk ob 600 ["__name__", "divisor", "_law_cell_at", "_law_whole", "_law_quotient"] w := by
  intro os
  kernel_rfl
theorem quot_ok (k : Nat) (c : Int) : ((runs tab.T whileV (k + 1)).1 3 [.int c]).val = .ok (.int (if c.fmod 5 = 2 then 1 + (c.fdiv 5).fmod 9999 else 1 + (c.fdiv 5).fmod 9)) := by
  rw [call_eq (df := df3) rfl rfl rfl]
  by_cases h : c.fmod 5 = 2 <;> simp [df3, startS, h]
theorem whole_ok (k : Nat) (c : Int) : ((runs tab.T whileV (k + 1)).1 2 [.int c]).val = .ok (.bl true) := by
  rw [call_eq (df := df2) rfl rfl rfl]
  simp [df2, startS, vIsi, D.ty, isiN]
theorem cell_ok (k : Nat) (ns : List Int) (j : Nat) : ((runs tab.T whileV (k + 1)).1 1 [scriptD ns, .int j]).val = .ok (.int (ns.getD j 0)) := by
  rw [call_eq (df := df1) rfl rfl rfl]
  by_cases h : j < ns.length
  · simp [df1, startS, scriptD, h, atI_ints h]
  · simp [df1, startS, scriptD, h]
theorem loop_ok {G : GE} : ∀ (n x y : Nat) (o : Option D), y ≤ n → ∃ o', whileV (fun s => toStep s ((evalE G (.cmp .ne (.var 1) (.cst (.int 0))) (viewS s)).bind vTru) (fun s => execs G whileV 2 [.set 2 (.op .mod (.var 0) (.var 1)), .set 0 (.var 1), .set 1 (.var 2)] s)) [some (.int x), some (.int y), o] = .nx [some (.int (Nat.gcd x y)), some (.int 0), o'] := by
  intro n
  induction n with
  | zero =>
    intro x y o h
    have : y = 0 := by omega
    subst this
    refine ⟨o, ?_⟩
    rw [whileV_stop (o := .nx [some (.int x), some (.int 0), o])]
    · simp
    · simp [view_c, toStep]
  | succ n ih =>
    intro x y o h
    by_cases h0 : y = 0
    · subst h0
      refine ⟨o, ?_⟩
      rw [whileV_stop (o := .nx [some (.int x), some (.int 0), o])]
      · simp
      · simp [view_c, toStep]
    · have hm : Int.fmod (x : Int) (y : Int) = ((x % y : Nat) : Int) := by
        rw [Int.fmod_eq_emod_of_nonneg _ (by omega)]; rfl
      have hy : (y : Int) ≠ 0 := by omega
      rw [whileV_step (s' := [some (.int y), some (.int ((x % y : Nat) : Int)), some (.int ((x % y : Nat) : Int))])]
      · obtain ⟨o', h'⟩ := ih y (x % y) (some (.int ((x % y : Nat) : Int))) (by have := Nat.mod_lt x (Nat.pos_of_ne_zero h0); omega)
        refine ⟨o', ?_⟩
        rw [h', Nat.gcd_comm x y, Nat.gcd_rec y x, Nat.gcd_comm (x % y) y]
      · simp [view_c, toStep, hy, h0, b_mod hy, hm, setS, freeAt]
theorem abs_nat (a : Int) : (if a < 0 then -a else a) = (a.natAbs : Int) := by split <;> omega
theorem div_ok (k : Nat) (a b : Int) : ((runs tab.T whileV (k + 1)).1 0 [.int a, .int b]).val = .ok (.int (Int.gcd a b)) := by
  rw [call_eq (df := df0) rfl rfl rfl]
  obtain ⟨o', h⟩ := loop_ok (G := GEof tab.T (runs tab.T whileV k)) b.natAbs a.natAbs b.natAbs none (Nat.le_refl _)
  simp only [df0, startS, run_eq, x_cons, x_nil, x_ret]
  simp [-x_whl, -e_cmp, abs_nat, setS, freeAt]
  rw [x_whl, h]
  simp
  rfl
theorem cut_len (ns : List Int) : (cutD ns (some 3) (some 63)).length ≤ 60 := by
  have h3 : HT.sIx ns.length 0 (some 3) = min 3 ns.length := by simp [HT.sIx]
  have h63 : HT.sIx ns.length ns.length (some 63) = min 63 ns.length := by simp [HT.sIx]
  unfold cutD
  rw [h3, h63]
  simp
  omega
theorem fmod_pos (a : Int) {b : Int} (h : 0 < b) : a.fmod b = a % b := Int.fmod_eq_emod_of_nonneg _ (by omega)
def q (c : Int) : Int := if c.fmod 5 = 2 then 1 + (c.fdiv 5).fmod 9999 else 1 + (c.fdiv 5).fmod 9
theorem q_pos (c : Int) : 1 ≤ q c ∧ q c ≤ 10000 := by
  unfold q
  rw [fmod_pos _ (by omega), fmod_pos _ (by omega), fmod_pos _ (by omega)]
  split <;> omega
def St (ns : List Int) (b : Int) (i : Nat) (s : Sl) : Prop := ∃ (x y : Int) (o4 o6 : Option D), s = [some (scriptD ns), some (.int b), some (.int x), some (.int y), o4, none, o6, none] ∧ Int.gcd x y = 1 ∧ 0 ≤ y ∧ y ≤ x ∧ 1 ≤ x ∧ x ≤ ((20000 ^ i : Nat) : Int)
theorem step_ok (k : Nat) (ns : List Int) (b : Int) (i : Nat) (c : Int) (s : Sl) (h : St ns b i s) : ∃ s1 s2, bindS 1 (.nm 4) (.int c) s = some s1 ∧ execs (GEof tab.T (runs tab.T whileV (k + 1))) whileV 1 [.set 6 (.var 2), .set 2 (.op .add (.op .mul (.cal 3 [.var 4]) (.var 2)) (.var 3)), .set 3 (.var 6)] s1 = .nx s2 ∧ St ns b (i + 1) s2 := by
  obtain ⟨x, y, o4, o6, rfl, hg, h1, h2, h3, h4⟩ := h
  obtain ⟨q1, q2⟩ := q_pos c
  have hm : mulOk (q c) x = true := mulOk_l (by omega)
  have hq := quot_ok k c
  refine ⟨[some (scriptD ns), some (.int b), some (.int x), some (.int y), some (.int c), none, o6, none], [some (scriptD ns), some (.int b), some (.int (q c * x + y)), some (.int x), some (.int c), none, some (.int x), none], ?_, ?_, q c * x + y, x, _, _, rfl, ?_, by omega, ?_, ?_, ?_⟩
  · simp [bindS, setS, freeAt]
  · have hq' : ((runs tab.T whileV (k + 1)).1 3 [.int c]).val = .ok (.int (q c)) := hq
    simp [view_c, setS, freeAt, hq', hm]
  · rw [Int.gcd_comm, Int.gcd_mul_right_add_right]; exact hg
  · have : x ≤ q c * x := by
      have := Int.mul_le_mul_of_nonneg_right q1 (show 0 ≤ x by omega)
      omega
    omega
  · have := Int.mul_le_mul_of_nonneg_right q1 (show 0 ≤ x by omega)
    omega
  · have e : (20000 : Nat) ^ (i + 1) = 20000 ^ i * 20000 := Nat.pow_succ ..
    have h5 : q c * x ≤ 10000 * x := Int.mul_le_mul_of_nonneg_right q2 (by omega)
    rw [e]
    omega

def byOf (ns : List Int) : Int := if (ns.getD 0 0) % 4 = 1 then (ns.getD 0 0 / 4) % 10000000000000000000000000000000000000000 else (ns.getD 0 0 / 4) % 100
theorem by_pos (ns : List Int) : 0 ≤ byOf ns ∧ byOf ns < 10000000000000000000000000000000000000000 := by
  unfold byOf
  split <;> omega
theorem pow1040 : vBop .pow (.int 10) (.int 40) = .ok (.int 10000000000000000000000000000000000000000) := rfl
theorem fdiv_pos (a : Int) {b : Int} (h : 0 < b) : a.fdiv b = a / b := Int.fdiv_eq_ediv_of_nonneg _ (by omega)
theorem sgn_cases (a : Int) : 1 - 2 * (a % 2) = 1 ∨ 1 - 2 * (a % 2) = -1 := by omega
theorem found_ok (x y b s t : Int) (hg : Int.gcd x y = 1) (hb : 0 ≤ b) (hs : s = 1 ∨ s = -1) (ht : t = 1 ∨ t = -1) : ((Int.gcd (x * b * s) (y * b * t) : Nat) : Int) = b := by
  have e : Int.gcd (x * b * s) (y * b * t) = Int.gcd (x * b) (y * b) := by
    rcases hs with rfl | rfl <;> rcases ht with rfl | rfl <;> simp [Int.gcd_eq_natAbs_gcd_natAbs, Int.natAbs_mul]
  rw [e, Int.gcd_mul_right, hg]
  omega
theorem math (ns : List Int) (hs : Scr ns) : ((runs tab.T whileV (1 + 1)).1 4 [scriptD ns]).val = .ok (.bl true) := by
  rw [call_eq (df := df4) rfl rfl rfl]
  have c0 : ((runs tab.T whileV 1).1 1 [scriptD ns, .int 0]).val = .ok (.int (ns.getD 0 0)) := cell_ok 0 ns 0
  have c1 : ((runs tab.T whileV 1).1 1 [scriptD ns, .int 1]).val = .ok (.int (ns.getD 1 0)) := cell_ok 0 ns 1
  have c2 : ((runs tab.T whileV 1).1 1 [scriptD ns, .int 2]).val = .ok (.int (ns.getD 2 0)) := cell_ok 0 ns 2
  have hd := div_ok 0
  have hw := whole_ok 0
  obtain ⟨b0, b1⟩ := by_pos ns
  have hby : ∀ (rest : List Cm), execs (GEof tab.T (runs tab.T whileV 1)) whileV 1 (.set 1 (.op .mod (.op .fdiv (.cal 1 [.var 0, .cst (.int 0)]) (.cst (.int 4))) (.cst (.int 100))) :: .ite (.cmp .eq (.op .mod (.cal 1 [.var 0, .cst (.int 0)]) (.cst (.int 4))) (.cst (.int 1))) [.set 1 (.op .mod (.op .fdiv (.cal 1 [.var 0, .cst (.int 0)]) (.cst (.int 4))) (.op .pow (.cst (.int 10)) (.cst (.int 40))))] [] :: rest) [some (scriptD ns), none, none, none, none, none, none, none] = execs (GEof tab.T (runs tab.T whileV 1)) whileV 1 rest [some (scriptD ns), some (.int (byOf ns)), none, none, none, none, none, none] := fun rest => by
    have own : D.own2 .vw (scriptD ns) = scriptD ns := rfl
    have arg : D.arg (scriptD ns) = scriptD ns := rfl
    by_cases h : ns.getD 0 0 % 4 = 1
    · have e : byOf ns = (ns.getD 0 0 / 4) % 10000000000000000000000000000000000000000 := if_pos h
      simp [df4, startS, own, arg, c0, setS, freeAt, fmod_pos, fdiv_pos, h, e, pow1040, -List.getD_eq_getElem?_getD]
    · have e : byOf ns = (ns.getD 0 0 / 4) % 100 := if_neg h
      simp [df4, startS, own, arg, c0, setS, freeAt, fmod_pos, fdiv_pos, h, e, pow1040, -List.getD_eq_getElem?_getD]
  have hstart : St ns (byOf ns) 0 [some (scriptD ns), some (.int (byOf ns)), some (.int 1), some (.int 0), none, none, none, none] := ⟨1, 0, none, none, rfl, rfl, by omega, by omega, by omega, by simp⟩
  obtain ⟨s', hf, x, y, o4, o6, rfl, hg, h1, h2, h3, h4⟩ := forL_inv (bnd := bindS 1 (.nm 4)) (body := fun s => execs (GEof tab.T (runs tab.T whileV 1)) whileV 1 [.set 6 (.var 2), .set 2 (.op .add (.op .mul (.cal 3 [.var 4]) (.var 2)) (.var 3)), .set 3 (.var 6)] s) (St ns (byOf ns)) ((cutD ns (some 3) (some 63)).map D.int) _ 0 hstart (fun i d s hd hs => by
    obtain ⟨c, _, rfl⟩ := List.mem_map.mp hd
    exact step_ok 0 ns (byOf ns) i c s hs)
  have hcut := cut_len ns
  have hx : x.natAbs < 2 ^ 1000 := by
    have e1 : (20000 : Nat) ^ (0 + ((cutD ns (some 3) (some 63)).map D.int).length) ≤ 20000 ^ 60 := by
      rw [List.length_map, Nat.zero_add]
      exact Nat.pow_le_pow_right (by omega) hcut
    have e2 : (20000 : Nat) ^ 60 < 2 ^ 1000 := by decide +kernel
    have e3 : x.natAbs ≤ 20000 ^ (0 + ((cutD ns (some 3) (some 63)).map D.int).length) := by omega
    exact Nat.lt_of_le_of_lt (Nat.le_trans e3 e1) e2
  have hy : y.natAbs < 2 ^ 1000 := by
    have : y.natAbs ≤ x.natAbs := by omega
    exact Nat.lt_of_le_of_lt this hx
  have hb : (byOf ns).natAbs < 2 ^ 200 := by
    have : (byOf ns).natAbs < 10000000000000000000000000000000000000000 := by omega
    exact Nat.lt_trans this (by decide +kernel)
  have m1 : mulOk x (byOf ns) = true := mulOk_b hx hb (by omega)
  have m2 : mulOk y (byOf ns) = true := mulOk_b hy hb (by omega)
  have s1 := sgn_cases (ns.getD 1 0)
  have s2 := sgn_cases (ns.getD 1 0 / 2)
  generalize hsa : 1 - 2 * (ns.getD 1 0 % 2) = sa at s1
  generalize hsb : 1 - 2 * (ns.getD 1 0 / 2 % 2) = sb at s2
  have m3 : ∀ z, mulOk z sa = true := fun z => mulOk_r (by rcases s1 with e | e <;> rw [e] <;> decide)
  have m4 : ∀ z, mulOk z sb = true := fun z => mulOk_r (by rcases s2 with e | e <;> rw [e] <;> decide)
  have own : D.own2 .vw (scriptD ns) = scriptD ns := rfl
  have arg : D.arg (scriptD ns) = scriptD ns := rfl
  have fin : ∀ a b : Int, ((Int.gcd a b : Nat) : Int) = byOf ns → ((runs tab.T whileV 1).1 0 [.int a, .int b]).val = .ok (.int (byOf ns)) := fun a b e => by rw [← e]; exact hd a b
  have f1 := fin _ _ (found_ok x y (byOf ns) sa sb hg b0 s1 s2)
  have f2 := fin _ _ (by rw [Int.gcd_comm]; exact found_ok x y (byOf ns) sa sb hg b0 s1 s2)
  have hst : startS df4 [scriptD ns] = [some (scriptD ns), none, none, none, none, none, none, none] := rfl
  rw [run_eq, hst]
  unfold df4
  dsimp only
  rw [hby]
  have slc : evalI (GEof tab.T (runs tab.T whileV 1)) true (.seq (.slc (.var 0) (some (.cst (.int 3))) (some (.cst (.int 63))))) [some (scriptD ns), some (.int (byOf ns)), some (.int 1), some (.int 0), none, none, none, none] = .ok ((cutD ns (some 3) (some 63)).map D.int) := by
    simp [scriptD]
  have hfor : exec (GEof tab.T (runs tab.T whileV 1)) whileV 1 (.for_ (.nm 4) (.seq (.slc (.var 0) (some (.cst (.int 3))) (some (.cst (.int 63))))) [.set 6 (.var 2), .set 2 (.op .add (.op .mul (.cal 3 [.var 4]) (.var 2)) (.var 3)), .set 3 (.var 6)]) [some (scriptD ns), some (.int (byOf ns)), some (.int 1), some (.int 0), none, none, none, none] = .nx [some (scriptD ns), some (.int (byOf ns)), some (.int x), some (.int y), o4, none, o6, none] := by
    rw [x_for]
    have e : viewS [some (scriptD ns), some (.int (byOf ns)), some (.int 1), some (.int 0), none, none, none, none] = [some (scriptD ns), some (.int (byOf ns)), some (.int 1), some (.int 0), none, none, none, none] := rfl
    rw [e, slc, Out.ofRes_ok]
    exact hf
  have hlit : ∀ z : Int, mulOk 2 z = true := fun z => mulOk_l (by decide)
  by_cases h : ns.getD 2 0 % 2 = 1
  · simp [-x_for, hfor, own, arg, c1, c2, hw, f1, f2, m1, m2, m3, m4, hlit, hsa, hsb, h, fmod_pos, fdiv_pos, setS, freeAt, view_c, -List.getD_eq_getElem?_getD]
  · simp [-x_for, hfor, own, arg, c1, c2, hw, f1, f2, m1, m2, m3, m4, hlit, hsa, hsb, h, fmod_pos, fdiv_pos, setS, freeAt, view_c, -List.getD_eq_getElem?_getD]
theorem facts {P : Program} {w : World} {K : PySem.W.Frag} {h : Heap} {mg : Str → Option Value} {f : Addr} (X : K.In h) (G : h.Ns mainGlobals mg) (hfa : mg ("law" : Str) = some (.ref f)) (c : He.SaysD tab.fa tab.ds K) :
    ∃ (fd : FuncData) (sp : Sp), (∀ (s : Shared) (v : Value), BindsTo s fd ⟨[v], []⟩ [("_law_script", v)]) ∧ (∀ (H : Hp) (a : Addr) (ns : List Int), Scr ns → Only H → SqL K H a (ns.map V.int) → sp [.ref a] H (fun v _ => v = .bl true) fun _ _ _ => False) ∧
      ∀ base : Heap, K.In base → base.Ns mainGlobals mg → FnOk P w K mg base (L2.CX P w) 2 f fd ["_law_script"] sp := by
  obtain ⟨fd, FD⟩ := c.def_ 4 (d := dd4) rfl
  have e := hfa.symm.trans (He.glo_ok X G (c.fact 23 (f := .glo "law") rfl))
  cases e
  have b := FunD.bindsA (ps := ["_law_script"]) FD fun _ _ _ _ _ _ us hl => match us, hl with | [_], _ => rfl
  refine ⟨fd, lawSp (tab.n K) tab.T 1 4, fun s v => b s [v] rfl, fun H a ns hs hO hS => law_sp (n := tab.n K) math hs hO hS, fun base _ _ => ?_⟩
  have M := mo_plain tab (base := base) X G c rfl okAll (by decide) (by decide) (by decide) (by decide) binds
  exact law_fn (lw := 4) (df := df4) M rfl rfl rfl FD
end GS.K01
open PySem PySem.W PySem.Calls PyProof.Rows
theorem PySem.Challenge.cw_gainstream_k01_divisor_holds : PySem.Challenge.rw_gainstream_k01_divisor.Holds := by
  w_on; o_law
  refine HandSHeadRun.head_any (r := OpenLaw.row PySem.Challenge.rw_gainstream_k01_divisor) (q := view (OpenLaw.row PySem.Challenge.rw_gainstream_k01_divisor).prog [6]) (H := GS.K01.hk) (ob := GS.K01.ob) (M := 600) (loose := ["__name__", "divisor", "_law_cell_at", "_law_whole", "_law_quotient"]) (d := HandSHeadRun.topDef (OpenLaw.row PySem.Challenge.rw_gainstream_k01_divisor).prog 6) (kwd := []) GS.K01.ob_eq
    (by kernel_rfl) (fun s => by kernel_rfl) GS.K01.run (by kernel_rfl) (by kernel_rfl) (by kernel_rfl) (by rfl) (by first | assumption | decide +kernel) (by decide +kernel) ⟨rfl, rfl, rfl, rfl, rfl, by decide +kernel⟩ ?hw ?hc
  case hw => w_witness2
  case hc =>
    refine GS.walk_ofG (l := PySem.Challenge.rw_gainstream_k01_divisor) (k := 2) (x := "_law_script") rfl (by kernel_rfl) ⟨rfl, by decide, by decide⟩ ?_
    intro w mg fa h Y G hmg0
    obtain ⟨K, KX, c⟩ := Y
    have hmg : mg ("law" : PySem.Str) = some (.ref fa) := by
      have e : (HandSHeadRun.topDef (OpenLaw.row PySem.Challenge.rw_gainstream_k01_divisor).prog 6).name = ("law" : PySem.Str) := by kernel_rfl
      rw [← e]
      exact hmg0
    obtain ⟨fd, sp, hb, hs, hF⟩ := GS.K01.facts (P := (PySem.Challenge.rw_gainstream_k01_divisor).prog) (w := w) KX G hmg c
    exact ⟨K, fd, sp, KX, hb, hs, hF⟩

